import PyProof.Rows.All
import Wide.All
import OpenK.AllK
import Wide.FinOn
import PySem.Challenge.RW_coinsteps_k02_whole_rows_of_changes
import HandS.ForMost
import HandS.IsInst
import HandS.TupAny
import HandS.TupMul
import HandS.Deep
import HandS.Wide
import HandS.Style
import HandS.Zip
import HandS.DictComp
import HandS.RevTup
import KE.SortData
import HandS.SortInts
import KE.GoesMore
import KE.GoesEnum
import HandS.SortRule
import KE.DataMinMax
import KE.KTupSum
import HandS.Comp
import HandS.WideMore
import HandS.EndBits
set_option Elab.async false
set_option linter.all false
set_option maxRecDepth 100000
set_option maxHeartbeats 1000000
set_option autoImplicit false
/-! DvCore: plain data and owned cells over the layer's heap; what a reading computes. -/
namespace DV
open PySem L2
abbrev D := PySem.PyData
abbrev Kf := PySem.W.Frag

def keyD : Key → D
  | .inl i => .int i
  | .inr x => .str x

mutual
/-- the value v is the data d over the heap G -/
def Dv (K : Kf) (G : Hp) : D → V → Prop
  | .none, v => v = .non
  | .bool b, v => v = .bl b
  | .int i, v => v = .int i
  | .str s, v => v = .str s
  | .list ds, v => ∃ a vs, v = .ref a ∧ SqL K G a vs ∧ DvAll K G ds vs
  | .tuple ds, v => ∃ a vs, v = .ref a ∧ G a = some (.tup vs) ∧ DvAll K G ds vs
  | .dict kvs, v => ∃ a ks, v = .ref a ∧ G a = some (.dK ks) ∧ DvKs K G kvs ks
def DvAll (K : Kf) (G : Hp) : List D → List V → Prop
  | [], vs => vs = []
  | d :: ds, vs => ∃ v r, vs = v :: r ∧ Dv K G d v ∧ DvAll K G ds r
def DvKs (K : Kf) (G : Hp) : List (D × D) → List (Key × V) → Prop
  | [], ks => ks = []
  | (k, d) :: r, ks => ∃ q v r', ks = (q, v) :: r' ∧ k = keyD q ∧ Dv K G d v ∧ DvKs K G r r'
end

/-- all of G stands in H' -/
def Ex (H H' : Hp) : Prop := ∀ a o, H a = some o → H' a = some o
theorem Ex.refl (H : Hp) : Ex H H := fun _ _ h => h
theorem Ex.trans {H H1 H2 : Hp} (a : Ex H H1) (b : Ex H1 H2) : Ex H H2 := fun x o h => b x o (a x o h)
theorem Ex.new {H : Hp} {p : Addr} {o : HO} (h : H p = none) : Ex H (upd H p o) := fun a u e => by
  rw [upd_ne (ne_of_none e h)]; exact e
/-- G is what stands still in H; a dict may be locked there -/
def Le (G H : Hp) : Prop := ∀ p o, G p = some o → H p = some o ∨ ∃ ob kvs, o = .dK kvs ∧ H p = some (.frz ob o)
theorem Le.refl (G : Hp) : Le G G := fun _ _ h => .inl h
theorem Le.new {G H : Hp} {p : Addr} {o : HO} (l : Le G H) : Le (upd G p o) (upd H p o) := fun a u e => by
  by_cases h : a = p
  · subst h; rw [upd_same] at e; cases e; exact .inl upd_same
  · rw [upd_ne h] at e; rw [upd_ne h]; exact l a u e
theorem Le.mut {G H : Hp} {p : Addr} {o : HO} (l : Le G H) (h : G p = none) : Le G (upd H p o) := fun a u e => by
  rw [upd_ne (ne_of_none e h)]; exact l a u e
theorem rd_ex {H H' : Hp} {a : Addr} {u : HO} (e : Ex H H') (h : Rd H a u) : Rd H' a u := by
  rcases h with h | ⟨o, h⟩
  · exact .inl (e a _ h)
  · exact .inr ⟨o, e a _ h⟩
theorem sql_ex {K : Kf} {H H' : Hp} {a : Addr} {xs : List V} (e : Ex H H') (h : SqL K H a xs) : SqL K H' a xs := h.imp (rd_ex e) id
theorem sqt_ex {H H' : Hp} {a : Addr} {xs : List V} (e : Ex H H') (h : H a = some (.tup xs)) : H' a = some (.tup xs) := e _ _ h
theorem rd_le {G H : Hp} {a : Addr} {u : HO} (l : Le G H) (hu : ∀ kvs, u ≠ .dK kvs) (h : Rd G a u) : Rd H a u := by
  rcases h with h | ⟨o, h⟩
  · rcases l a _ h with h | ⟨ob, kvs, e, h⟩
    · exact .inl h
    · exact absurd e (hu kvs)
  · rcases l a _ h with h | ⟨ob, kvs, e, h⟩
    · exact .inr ⟨o, h⟩
    · cases e
theorem sql_le {K : Kf} {G H : Hp} {a : Addr} {xs : List V} (l : Le G H) (h : SqL K G a xs) : SqL K H a xs := h.imp (rd_le l fun _ z => nomatch z) id
theorem tup_le {G H : Hp} {a : Addr} {xs : List V} (l : Le G H) (h : G a = some (.tup xs)) : H a = some (.tup xs) := by
  rcases l a _ h with h | ⟨_, _, e, _⟩
  · exact h
  · cases e
theorem sqt_le {K : Kf} {G H : Hp} {a : Addr} {xs : List V} (l : Le G H) (h : G a = some (.tup xs)) : SqT K H a xs := SqT.of (tup_le l h)

mutual
theorem Dv.ex {K : Kf} {G G' : Hp} (e : Ex G G') : ∀ (d : D) {v : V}, Dv K G d v → Dv K G' d v
  | .none, _, h => h
  | .bool _, _, h => h
  | .int _, _, h => h
  | .str _, _, h => h
  | .list ds, _, h => by
    unfold Dv at h ⊢
    obtain ⟨a, vs, e1, s, q⟩ := h
    exact ⟨a, vs, e1, sql_ex e s, DvAll.ex e ds q⟩
  | .tuple ds, _, h => by
    unfold Dv at h ⊢
    obtain ⟨a, vs, e1, s, q⟩ := h
    exact ⟨a, vs, e1, sqt_ex e s, DvAll.ex e ds q⟩
  | .dict kvs, _, h => by
    unfold Dv at h ⊢
    obtain ⟨a, ks, e1, s, q⟩ := h
    exact ⟨a, ks, e1, e _ _ s, DvKs.ex e kvs q⟩
theorem DvAll.ex {K : Kf} {G G' : Hp} (e : Ex G G') : ∀ (ds : List D) {vs : List V}, DvAll K G ds vs → DvAll K G' ds vs
  | [], _, h => h
  | d :: ds, _, h => by
    unfold DvAll at h ⊢
    obtain ⟨v, r, e1, h1, h2⟩ := h
    exact ⟨v, r, e1, Dv.ex e d h1, DvAll.ex e ds h2⟩
theorem DvKs.ex {K : Kf} {G G' : Hp} (e : Ex G G') : ∀ (ds : List (D × D)) {vs : List (Key × V)}, DvKs K G ds vs → DvKs K G' ds vs
  | [], _, h => h
  | (k, d) :: ds, _, h => by
    unfold DvKs at h ⊢
    obtain ⟨q, v, r, e1, e2, h1, h2⟩ := h
    exact ⟨q, v, r, e1, e2, Dv.ex e d h1, DvKs.ex e ds h2⟩
end

/-- the value v is to be read as d over H, its parts standing in G -/
def Vw (K : Kf) (G H : Hp) : D → V → Prop
  | .list ds, v => ∃ a vs, v = .ref a ∧ SqL K H a vs ∧ DvAll K G ds vs
  | .tuple ds, v => ∃ a vs, v = .ref a ∧ G a = some (.tup vs) ∧ DvAll K G ds vs
  | .dict kvs, v => ∃ a ks, v = .ref a ∧ Rd H a (.dK ks) ∧ DvKs K G kvs ks
  | .none, v => v = .non
  | .bool b, v => v = .bl b
  | .int i, v => v = .int i
  | .str s, v => v = .str s
theorem Dv.vw {K : Kf} {G H : Hp} (l : Le G H) : ∀ {d : D} {v : V}, Dv K G d v → Vw K G H d v
  | .none, _, h => h
  | .bool _, _, h => h
  | .int _, _, h => h
  | .str _, _, h => h
  | .list ds, _, h => by
    unfold Dv at h
    obtain ⟨a, vs, e1, s, q⟩ := h
    exact ⟨a, vs, e1, sql_le l s, q⟩
  | .tuple ds, _, h => by
    unfold Dv at h
    obtain ⟨a, vs, e1, s, q⟩ := h
    exact ⟨a, vs, e1, s, q⟩
  | .dict kvs, _, h => by
    unfold Dv at h
    obtain ⟨a, ks, e1, s, q⟩ := h
    refine ⟨a, ks, e1, ?_, q⟩
    rcases l _ _ s with h | ⟨ob, _, _, h⟩
    · exact .inl h
    · exact .inr ⟨ob, h⟩

theorem DvAll.length {K : Kf} {G : Hp} : ∀ {ds : List D} {vs : List V}, DvAll K G ds vs → vs.length = ds.length
  | [], _, h => by unfold DvAll at h; subst h; rfl
  | d :: ds, _, h => by
    unfold DvAll at h
    obtain ⟨v, r, e1, h1, h2⟩ := h
    subst e1
    rw [List.length_cons, List.length_cons, DvAll.length h2]
theorem DvAll.get {K : Kf} {G : Hp} : ∀ {ds : List D} {vs : List V} {i : Nat} {d : D}, DvAll K G ds vs → ds[i]? = some d → ∃ v, vs[i]? = some v ∧ Dv K G d v
  | [], _, _, _, h, e => by simp at e
  | d :: ds, _, 0, _, h, e => by
    unfold DvAll at h
    obtain ⟨v, r, e1, h1, h2⟩ := h
    subst e1
    simp at e; subst e
    exact ⟨v, rfl, h1⟩
  | d :: ds, _, i + 1, _, h, e => by
    unfold DvAll at h
    obtain ⟨v, r, e1, h1, h2⟩ := h
    subst e1
    exact DvAll.get (i := i) h2 (by simpa using e)
theorem DvAll.append {K : Kf} {G : Hp} : ∀ {ds es : List D} {vs ws : List V}, DvAll K G ds vs → DvAll K G es ws → DvAll K G (ds ++ es) (vs ++ ws)
  | [], _, _, _, h, q => by unfold DvAll at h; subst h; exact q
  | d :: ds, _, _, _, h, q => by
    unfold DvAll at h
    obtain ⟨v, r, e1, h1, h2⟩ := h
    subst e1
    show DvAll K G (d :: (ds ++ _)) (v :: (r ++ _))
    unfold DvAll
    exact ⟨v, _, rfl, h1, DvAll.append h2 q⟩
theorem DvAll.nil {K : Kf} {G : Hp} : DvAll K G [] [] := by unfold DvAll; rfl
theorem DvAll.cons {K : Kf} {G : Hp} {d : D} {ds : List D} {v : V} {vs : List V} (h : Dv K G d v) (q : DvAll K G ds vs) : DvAll K G (d :: ds) (v :: vs) := by
  unfold DvAll; exact ⟨v, vs, rfl, h, q⟩
theorem DvAll.cons_inv {K : Kf} {G : Hp} {d : D} {ds : List D} {vs : List V} (h : DvAll K G (d :: ds) vs) : ∃ v r, vs = v :: r ∧ Dv K G d v ∧ DvAll K G ds r := by
  unfold DvAll at h; exact h
theorem DvAll.nil_inv {K : Kf} {G : Hp} {vs : List V} (h : DvAll K G [] vs) : vs = [] := by
  unfold DvAll at h; exact h
theorem DvAll.set {K : Kf} {G : Hp} {d : D} {v : V} (q : Dv K G d v) : ∀ {ds : List D} {vs : List V} (i : Nat), DvAll K G ds vs → DvAll K G (ds.set i d) (vs.set i v)
  | [], _, i, h => by rw [h.nil_inv]; exact .nil
  | e :: ds, _, 0, h => by
    obtain ⟨w, r, rfl, h1, h2⟩ := h.cons_inv
    exact .cons q h2
  | e :: ds, _, i + 1, h => by
    obtain ⟨w, r, rfl, h1, h2⟩ := h.cons_inv
    exact .cons h1 (DvAll.set q i h2)
theorem DvAll.take {K : Kf} {G : Hp} : ∀ {ds : List D} {vs : List V} (n : Nat), DvAll K G ds vs → DvAll K G (ds.take n) (vs.take n)
  | _, _, 0, _ => .nil
  | [], _, _ + 1, h => by rw [h.nil_inv]; exact .nil
  | d :: ds, _, n + 1, h => by
    obtain ⟨w, r, rfl, h1, h2⟩ := h.cons_inv
    exact .cons h1 (DvAll.take n h2)
theorem DvAll.drop {K : Kf} {G : Hp} : ∀ {ds : List D} {vs : List V} (n : Nat), DvAll K G ds vs → DvAll K G (ds.drop n) (vs.drop n)
  | _, _, 0, h => h
  | [], _, _ + 1, h => by rw [h.nil_inv]; exact .nil
  | d :: ds, _, n + 1, h => by
    obtain ⟨w, r, rfl, h1, h2⟩ := h.cons_inv
    exact DvAll.drop n h2
theorem DvAll.reverse {K : Kf} {G : Hp} : ∀ {ds : List D} {vs : List V}, DvAll K G ds vs → DvAll K G ds.reverse vs.reverse
  | [], _, h => by rw [h.nil_inv]; exact .nil
  | d :: ds, _, h => by
    obtain ⟨w, r, rfl, h1, h2⟩ := h.cons_inv
    rw [List.reverse_cons, List.reverse_cons]
    exact DvAll.append (DvAll.reverse h2) (.cons h1 .nil)
theorem DvAll.dropLast {K : Kf} {G : Hp} {ds : List D} {vs : List V} (h : DvAll K G ds vs) : DvAll K G ds.dropLast vs.dropLast := by
  rw [List.dropLast_eq_take, List.dropLast_eq_take, h.length]; exact h.take _
theorem DvAll.eraseIdx {K : Kf} {G : Hp} : ∀ {ds : List D} {vs : List V} (i : Nat), DvAll K G ds vs → DvAll K G (ds.eraseIdx i) (vs.eraseIdx i)
  | [], _, i, h => by rw [h.nil_inv]; exact .nil
  | e :: ds, _, 0, h => by
    obtain ⟨w, r, rfl, h1, h2⟩ := h.cons_inv
    exact h2
  | e :: ds, _, i + 1, h => by
    obtain ⟨w, r, rfl, h1, h2⟩ := h.cons_inv
    exact .cons h1 (DvAll.eraseIdx i h2)

/-! ### owned cells, slots -/
inductive Own where
  | lst (ds : List D)
  | dK (kvs : List (Key × D))
  | dT (kvs : List (List Key × D))
  | ins (C : Addr) (fs : List (Str × D))
inductive A where
  | imm (d : D)
  /-- b: it came in as an argument -/
  | own (b : Bool) (o : Own)
  /-- a new tuple of two new cells (a result alone) -/
  | pair (o1 o2 : Own)
abbrev Env := List (Option A)

def KvRep {κ : Type} (K : Kf) (G : Hp) (kvs : List (κ × D)) (ks : List (κ × V)) : Prop := Paired (fun (p : κ × D) (q : κ × V) => p.1 = q.1 ∧ Dv K G p.2 q.2) kvs ks
theorem KvRep.ex {κ : Type} {K : Kf} {G G' : Hp} (e : Ex G G') : ∀ {kvs : List (κ × D)} {ks : List (κ × V)}, KvRep K G kvs ks → KvRep K G' kvs ks
  | _, _, .nil => .nil
  | _, _, .cons h t => .cons ⟨h.1, Dv.ex e _ h.2⟩ (KvRep.ex e t)

/-- the object ob holds the cell's content -/
def ObRep (K : Kf) (G : Hp) : Own → HO → Prop
  | .lst ds, ob => ∃ vs, ob = .lst vs ∧ DvAll K G ds vs
  | .dK kvs, ob => ∃ ks, ob = .dK ks ∧ KvRep K G kvs ks
  | .dT kvs, ob => ∃ ks, ob = .dT ks ∧ KvRep K G kvs ks
  | .ins C fs, ob => ∃ dx gs, ob = .ins C dx gs ∧ KvRep K G fs gs
theorem ObRep.ex {K : Kf} {G G' : Hp} (e : Ex G G') {o : Own} {ob : HO} (h : ObRep K G o ob) : ObRep K G' o ob := by
  cases o with
  | lst ds => obtain ⟨vs, e1, q⟩ := h; exact ⟨vs, e1, DvAll.ex e ds q⟩
  | dK kvs => obtain ⟨ks, e1, q⟩ := h; exact ⟨ks, e1, q.ex e⟩
  | dT kvs => obtain ⟨ks, e1, q⟩ := h; exact ⟨ks, e1, q.ex e⟩
  | ins C fs => obtain ⟨dx, gs, e1, q⟩ := h; exact ⟨dx, gs, e1, q.ex e⟩

/-- what a run of a def starts from: what stands still, what is tracked, the cells that came in as arguments -/
structure Cn where
  G0 : Hp
  H0 : Hp
  pins : List (Option Addr)
  /-- what is laid aside meanwhile -/
  keep : Hp

/-- a cell is an argument's, or it is new -/
def Whose (c : Cn) (i : Nat) : Bool → Addr → Prop
  | true, p => c.pins[i]? = some (some p)
  | false, p => c.H0 p = none
/-- no slot owns p -/
def NotOwn (ρ : Env) (σ : St) (p : Addr) : Prop := ∀ (j : Nat) b o, ρ[j]? = some (some (.own b o)) → σ[j]? ≠ some (some (.ref p))
/-- what is laid aside is not read as data, but a locked dict is -/
def KOk (G : Hp) (p : Addr) (o : HO) : Prop := G p = none ∨ ∃ ob kvs, o = .frz ob (.dK kvs) ∧ G p = some (.dK kvs)
structure Rel (K : Kf) (c : Cn) (G : Hp) (ρ : Env) (σ : St) (H : Hp) : Prop where
  le : Le G H
  fr : ∀ p o, c.H0 p = some o → (∀ j : Nat, c.pins[j]? ≠ some (some p)) → H p = some o
  g0 : Ex c.G0 G
  gnew : ∀ p o, G p = some o → c.G0 p = some o ∨ c.H0 p = none
  len : ρ.length = σ.length
  imm : ∀ (i : Nat) d, ρ[i]? = some (some (.imm d)) → ∃ v, σ[i]? = some (some v) ∧ Dv K G d v
  own : ∀ (i : Nat) b o, ρ[i]? = some (some (.own b o)) → ∃ p ob, σ[i]? = some (some (.ref p)) ∧ H p = some ob ∧ ObRep K G o ob ∧ G p = none ∧ Whose c i b p
  dis : ∀ (i j : Nat) b o b' o' p, ρ[i]? = some (some (.own b o)) → ρ[j]? = some (some (.own b' o')) → σ[i]? = some (some (.ref p)) → σ[j]? = some (some (.ref p)) → i = j
  pin : ∀ (j : Nat) p, c.pins[j]? = some (some p) → σ[j]? = some (some (.ref p)) ∧ ∃ o, ρ[j]? = some (some (.own true o))
  kp : ∀ p o, c.keep p = some o → H p = some o ∧ KOk G p o ∧ NotOwn ρ σ p

section
variable {K : Kf} {c : Cn} {G G' H H' : Hp} {ρ : Env} {σ : St}
/-- an untracked address was untracked at the start -/
theorem Rel.h0 (R : Rel K c G ρ σ H) {p : Addr} (h : H p = none) : c.H0 p = none := by
  cases e : c.H0 p with
  | none => rfl
  | some o =>
    by_cases q : ∃ j : Nat, c.pins[j]? = some (some p)
    · obtain ⟨j, q⟩ := q
      obtain ⟨s, ow, r⟩ := R.pin j p q
      obtain ⟨p', ob, s', hp, _⟩ := R.own j _ ow r
      rw [s] at s'; cases s'
      rw [h] at hp; cases hp
    · have := R.fr p o e fun j z => q ⟨j, z⟩
      rw [h] at this; cases this
theorem Rel.gh (R : Rel K c G ρ σ H) {p : Addr} (h : H p = none) : G p = none := by
  cases e : G p with
  | none => rfl
  | some o => rcases R.le p o e with q | ⟨_, _, _, q⟩ <;> (rw [h] at q; cases q)
theorem Rel.k0 (R : Rel K c G ρ σ H) {p : Addr} (h : H p = none) : c.keep p = none := by
  cases e : c.keep p with
  | none => rfl
  | some o => have := (R.kp p o e).1; rw [h] at this; cases this
theorem Rel.gh0 (R : Rel K c G ρ σ H) {p : Addr} (h : G p = none) : c.G0 p = none := by
  cases e : c.G0 p with
  | none => rfl
  | some o => have := R.g0 p o e; rw [h] at this; cases this
/-- a new thing that stands still -/
theorem Rel.new (R : Rel K c G ρ σ H) {p : Addr} {ob : HO} (h : H p = none) : Rel K c (upd G p ob) ρ σ (upd H p ob) := by
  have hg := R.gh h
  have h0 := R.h0 h
  refine ⟨R.le.new, fun a o e f => ?_, fun a o e => ?_, fun a o e => ?_, R.len, fun i d e => ?_, fun i b o e => ?_, R.dis, R.pin, fun a o e => ?_⟩
  · rw [upd_ne (ne_of_none e h0)]; exact R.fr a o e f
  · exact Ex.new hg a o (R.g0 a o e)
  · by_cases q : a = p
    · subst q; exact .inr h0
    · rw [upd_ne q] at e; exact R.gnew a o e
  · obtain ⟨v, s, q⟩ := R.imm i d e
    exact ⟨v, s, q.ex (Ex.new hg)⟩
  · obtain ⟨a, ob', s, ha, q, g, z⟩ := R.own i b o e
    have ne : a ≠ p := ne_of_none ha h
    exact ⟨a, ob', s, by rw [upd_ne ne]; exact ha, q.ex (Ex.new hg), by rw [upd_ne ne]; exact g, z⟩
  · obtain ⟨k1, k2, k3⟩ := R.kp a o e
    have ne : a ≠ p := ne_of_none k1 h
    exact ⟨by rw [upd_ne ne]; exact k1, by unfold KOk; rw [upd_ne ne]; exact k2, k3⟩
/-- a tracked thing that nobody owns comes to stand still -/
theorem Rel.still (R : Rel K c G ρ σ H) {p : Addr} {ob : HO} (h : H p = some ob) (hg : G p = none) (h0 : c.H0 p = none) (hk : c.keep p = none) (ho : NotOwn ρ σ p) : Rel K c (upd G p ob) ρ σ H := by
  refine ⟨fun a o e => ?_, R.fr, fun a o e => ?_, fun a o e => ?_, R.len, fun i d e => ?_, fun i b o e => ?_, R.dis, R.pin, fun a o e => ?_⟩
  · by_cases q : a = p
    · subst q; rw [upd_same] at e; cases e; exact .inl h
    · rw [upd_ne q] at e; exact R.le a o e
  · exact Ex.new hg a o (R.g0 a o e)
  · by_cases q : a = p
    · subst q; exact .inr h0
    · rw [upd_ne q] at e; exact R.gnew a o e
  · obtain ⟨v, s, q⟩ := R.imm i d e
    exact ⟨v, s, q.ex (Ex.new hg)⟩
  · obtain ⟨a, ob', s, ha, q, g, z⟩ := R.own i b o e
    have ne : a ≠ p := fun z => ho i b o e (by rw [← z]; exact s)
    exact ⟨a, ob', s, ha, q.ex (Ex.new hg), by rw [upd_ne ne]; exact g, z⟩
  · obtain ⟨k1, k2, k3⟩ := R.kp a o e
    have ne : a ≠ p := ne_of_none e hk
    exact ⟨k1, by unfold KOk; rw [upd_ne ne]; exact k2, k3⟩

/-- several new things -/
inductive Al (G H : Hp) : Hp → Hp → Prop where
  | refl : Al G H G H
  | new {G1 H1 : Hp} {p : Addr} {o : HO} (h : Al G H G1 H1) (hp : H1 p = none) : Al G H (upd G1 p o) (upd H1 p o)
theorem Rel.al {G1 H1 : Hp} (a : Al G H G1 H1) (R : Rel K c G ρ σ H) : Rel K c G1 ρ σ H1 ∧ Ex G G1 ∧ Ex H H1 := by
  induction a with
  | refl => exact ⟨R, Ex.refl _, Ex.refl _⟩
  | new h hp ih =>
    obtain ⟨R1, e, e'⟩ := ih
    exact ⟨R1.new hp, e.trans (Ex.new (R1.gh hp)), e'.trans (Ex.new hp)⟩
theorem Al.one {p : Addr} {o : HO} (hp : H p = none) : Al G H (upd G p o) (upd H p o) := .new .refl hp
theorem Al.le {G1 H1 : Hp} (a : Al G H G1 H1) (l : Le G H) : Le G1 H1 := by
  induction a with
  | refl => exact l
  | new h hp ih => exact ih.new
theorem Al.ex {G1 H1 : Hp} (a : Al G H G1 H1) (l : Le G H) : Ex G G1 := by
  induction a with
  | refl => exact Ex.refl _
  | @new G1 H1 p o h hp ih =>
    refine ih.trans (Ex.new ?_)
    cases e : G1 p with
    | none => rfl
    | some o => rcases h.le l p o e with q | ⟨_, _, _, q⟩ <;> (rw [hp] at q; cases q)
theorem Al.trans {G1 H1 G2 H2 : Hp} (a : Al G H G1 H1) (b : Al G1 H1 G2 H2) : Al G H G2 H2 := by
  induction b with
  | refl => exact a
  | new h hp ih => exact .new ih hp

/-! slots -/
def free (c : Cn) (i : Nat) : Prop := ∀ p, c.pins[i]? ≠ some (some p)
/-- the slot may be stored to: no argument's cell stands in it -/
def canSet (ρ : Env) (i : Nat) : Bool := match ρ[i]? with
  | some (some (.own true _)) => false
  | _ => true
theorem Rel.canSet (R : Rel K c G ρ σ H) {i : Nat} (h : canSet ρ i = true) : free c i := fun p e => by
  obtain ⟨_, o, q⟩ := R.pin i p e
  unfold DV.canSet at h
  rw [q] at h
  cases h
/-- a new address is nobody's -/
theorem Rel.notOwn (R : Rel K c G ρ σ H) {p : Addr} (h : H p = none) : NotOwn ρ σ p := fun j b o e s => by
  obtain ⟨q, ob, s', hq, _⟩ := R.own j b o e
  rw [s] at s'; cases s'
  rw [h] at hq; cases hq
theorem get_set {α : Type} {l : List α} {i j : Nat} {x y : α} (h : (l.set i x)[j]? = some y) : (i = j ∧ y = x ∧ i < l.length) ∨ (i ≠ j ∧ l[j]? = some y) := by
  by_cases e : i = j
  · subst e
    by_cases hl : i < l.length
    · rw [List.getElem?_set_self hl] at h; exact .inl ⟨rfl, (Option.some.inj h).symm, hl⟩
    · rw [List.getElem?_eq_none (by rw [List.length_set]; omega)] at h; cases h
  · rw [List.getElem?_set_ne e] at h; exact .inr ⟨e, h⟩
theorem Rel.setImm (R : Rel K c G ρ σ H) {i : Nat} {d : D} {v : V} (hf : free c i) (h : Dv K G d v) : Rel K c G (ρ.set i (some (.imm d))) (σ.set i (some v)) H := by
  refine ⟨R.le, R.fr, R.g0, R.gnew, by rw [List.length_set, List.length_set]; exact R.len, fun j e hj => ?_, fun j b o hj => ?_, fun j k b o b' o' p h1 h2 h3 h4 => ?_, fun j p hj => ?_, fun a u e => ?_⟩
  · rcases get_set hj with ⟨rfl, q, hl⟩ | ⟨ne, q⟩
    · cases q
      exact ⟨v, by rw [List.getElem?_set_self (by rw [← R.len]; exact hl)], h⟩
    · rw [List.getElem?_set_ne ne]; exact R.imm j e q
  · rcases get_set hj with ⟨rfl, q, hl⟩ | ⟨ne, q⟩
    · cases q
    · rw [List.getElem?_set_ne ne]; exact R.own j b o q
  · rcases get_set h1 with ⟨rfl, q, hl⟩ | ⟨ne, q⟩
    · cases q
    · rcases get_set h2 with ⟨rfl, q2, hl⟩ | ⟨ne2, q2⟩
      · cases q2
      · rw [List.getElem?_set_ne ne] at h3; rw [List.getElem?_set_ne ne2] at h4
        exact R.dis j k b o b' o' p q q2 h3 h4
  · have ne : i ≠ j := fun z => hf p (by rw [z]; exact hj)
    rw [List.getElem?_set_ne ne, List.getElem?_set_ne ne]
    exact R.pin j p hj
  · obtain ⟨k1, k2, k3⟩ := R.kp a u e
    refine ⟨k1, k2, fun j b o hj hs => ?_⟩
    rcases get_set hj with ⟨rfl, q, hl⟩ | ⟨ne, q⟩
    · cases q
    · rw [List.getElem?_set_ne ne] at hs
      exact k3 j b o q hs
theorem Rel.setOwn (R : Rel K c G ρ σ H) {i : Nat} {o : Own} {p : Addr} {ob : HO} (hf : free c i) (h : H p = some ob) (q : ObRep K G o ob) (hg : G p = none) (h0 : c.H0 p = none) (hk : c.keep p = none)
    (ho : NotOwn ρ σ p) : Rel K c G (ρ.set i (some (.own false o))) (σ.set i (some (.ref p))) H := by
  refine ⟨R.le, R.fr, R.g0, R.gnew, by rw [List.length_set, List.length_set]; exact R.len, fun j e hj => ?_, fun j b2 o2 hj => ?_, fun j k b1 o1 b2 o2 p2 h1 h2 h3 h4 => ?_, fun j p hj => ?_, fun a u e => ?_⟩
  · rcases get_set hj with ⟨rfl, q, hl⟩ | ⟨ne, q⟩
    · cases q
    · rw [List.getElem?_set_ne ne]; exact R.imm j e q
  · rcases get_set hj with ⟨rfl, q2, hl⟩ | ⟨ne, q2⟩
    · cases q2
      exact ⟨p, ob, by rw [List.getElem?_set_self (by rw [← R.len]; exact hl)], h, q, hg, h0⟩
    · rw [List.getElem?_set_ne ne]; exact R.own j b2 o2 q2
  · rcases get_set h1 with ⟨rfl, q1, hl⟩ | ⟨ne, q1⟩
    · rcases get_set h2 with ⟨e2, q2, hl2⟩ | ⟨ne2, q2⟩
      · exact e2
      · rw [List.getElem?_set_self (by rw [← R.len]; exact hl)] at h3
        rw [List.getElem?_set_ne ne2] at h4
        cases h3
        exact absurd h4 (ho k b2 o2 q2)
    · rcases get_set h2 with ⟨e2, q2, hl2⟩ | ⟨ne2, q2⟩
      · subst e2
        rw [List.getElem?_set_self (by rw [← R.len]; exact hl2)] at h4
        rw [List.getElem?_set_ne ne] at h3
        cases h4
        exact absurd h3 (ho j b1 o1 q1)
      · rw [List.getElem?_set_ne ne] at h3; rw [List.getElem?_set_ne ne2] at h4
        exact R.dis j k b1 o1 b2 o2 p2 q1 q2 h3 h4
  · have ne : i ≠ j := fun z => hf p (by rw [z]; exact hj)
    rw [List.getElem?_set_ne ne, List.getElem?_set_ne ne]
    exact R.pin j p hj
  · obtain ⟨k1, k2, k3⟩ := R.kp a u e
    refine ⟨k1, k2, fun j b o hj hs => ?_⟩
    rcases get_set hj with ⟨rfl, q, hl⟩ | ⟨ne, q⟩
    · rw [List.getElem?_set_self (by rw [← R.len]; exact hl)] at hs
      cases hs
      rw [hk] at e; cases e
    · rw [List.getElem?_set_ne ne] at hs
      exact k3 j b o q hs
/-- the slot's value is forgotten -/
theorem Rel.drop (R : Rel K c G ρ σ H) {i : Nat} {v : Option V} (hf : free c i) : Rel K c G (ρ.set i none) (σ.set i v) H := by
  refine ⟨R.le, R.fr, R.g0, R.gnew, by rw [List.length_set, List.length_set]; exact R.len, fun j e hj => ?_, fun j b2 o2 hj => ?_, fun j k b1 o1 b2 o2 p2 h1 h2 h3 h4 => ?_, fun j p hj => ?_, fun a u e => ?_⟩
  · rcases get_set hj with ⟨rfl, q, hl⟩ | ⟨ne, q⟩
    · cases q
    · rw [List.getElem?_set_ne ne]; exact R.imm j e q
  · rcases get_set hj with ⟨rfl, q2, hl⟩ | ⟨ne, q2⟩
    · cases q2
    · rw [List.getElem?_set_ne ne]; exact R.own j b2 o2 q2
  · rcases get_set h1 with ⟨rfl, q1, hl⟩ | ⟨ne, q1⟩
    · cases q1
    · rcases get_set h2 with ⟨e2, q2, hl2⟩ | ⟨ne2, q2⟩
      · cases q2
      · rw [List.getElem?_set_ne ne] at h3; rw [List.getElem?_set_ne ne2] at h4
        exact R.dis j k b1 o1 b2 o2 p2 q1 q2 h3 h4
  · have ne : i ≠ j := fun z => hf p (by rw [z]; exact hj)
    rw [List.getElem?_set_ne ne, List.getElem?_set_ne ne]
    exact R.pin j p hj
  · obtain ⟨k1, k2, k3⟩ := R.kp a u e
    refine ⟨k1, k2, fun j b o hj hs => ?_⟩
    rcases get_set hj with ⟨rfl, q, hl⟩ | ⟨ne, q⟩
    · cases q
    · rw [List.getElem?_set_ne ne] at hs
      exact k3 j b o q hs
/-- a cell's content changes -/
theorem Rel.mut (R : Rel K c G ρ σ H) {i : Nat} {b : Bool} {o o' : Own} {p : Addr} {ob : HO} (hi : ρ[i]? = some (some (.own b o))) (hs : σ[i]? = some (some (.ref p))) (q : ObRep K G o' ob) : Rel K c G (ρ.set i (some (.own b o'))) σ (upd H p ob) := by
  obtain ⟨p', ob0, s, hp, q0, g, z⟩ := R.own i b o hi
  rw [hs] at s; cases s
  have li : i < ρ.length := (List.getElem?_eq_some_iff.mp hi).1
  refine ⟨R.le.mut g, fun a u e f => ?_, R.g0, R.gnew, by rw [List.length_set]; exact R.len, fun j e hj => ?_, fun j b2 o2 hj => ?_, fun j k b1 o1 b2 o2 p2 h1 h2 h3 h4 => ?_, fun j p2 hj => ?_, fun a2 u2 e2 => ?_⟩
  · by_cases ha : a = p
    · subst ha
      cases b with
      | true => exact absurd z (f i)
      | false => have z' : c.H0 a = none := z; rw [e] at z'; cases z'
    · rw [upd_ne ha]; exact R.fr a u e f
  · rcases get_set hj with ⟨rfl, q, hl⟩ | ⟨ne, q⟩
    · cases q
    · exact R.imm j e q
  · rcases get_set hj with ⟨rfl, q2, hl⟩ | ⟨ne, q2⟩
    · cases q2
      exact ⟨p, ob, hs, upd_same, q, g, z⟩
    · obtain ⟨p2, ob2, s2, hp2, r2, g2, z2⟩ := R.own j b2 o2 q2
      have : p2 ≠ p := fun e => ne (R.dis i j b o b2 o2 p hi q2 hs (by rw [← e]; exact s2))
      exact ⟨p2, ob2, s2, by rw [upd_ne this]; exact hp2, r2, g2, z2⟩
  · have a1 : ∃ b o, ρ[j]? = some (some (.own b o)) := by
      rcases get_set h1 with ⟨rfl, q1, hl⟩ | ⟨ne, q1⟩
      · exact ⟨b, o, hi⟩
      · exact ⟨b1, o1, q1⟩
    have a2 : ∃ b o, ρ[k]? = some (some (.own b o)) := by
      rcases get_set h2 with ⟨rfl, q1, hl⟩ | ⟨ne, q1⟩
      · exact ⟨b, o, hi⟩
      · exact ⟨b2, o2, q1⟩
    obtain ⟨t1, u1, a1⟩ := a1
    obtain ⟨t2, u2, a2⟩ := a2
    exact R.dis j k t1 u1 t2 u2 p2 a1 a2 h3 h4
  · obtain ⟨s2, o2, r2⟩ := R.pin j p2 hj
    refine ⟨s2, ?_⟩
    by_cases e : i = j
    · subst e
      rw [hi] at r2; cases r2
      exact ⟨o', by rw [List.getElem?_set_self li]⟩
    · exact ⟨o2, by rw [List.getElem?_set_ne e]; exact r2⟩
  · obtain ⟨k1, k2, k3⟩ := R.kp a2 u2 e2
    have ne : a2 ≠ p := fun z => k3 i b o hi (by rw [z]; exact hs)
    refine ⟨by rw [upd_ne ne]; exact k1, k2, fun j b3 o3 hj hs3 => ?_⟩
    rcases get_set hj with ⟨rfl, q, hl⟩ | ⟨ne, q⟩
    · cases q; exact k3 i b o hi hs3
    · exact k3 j b3 o3 q hs3
end
end DV

set_option Elab.async false
set_option linter.all false
set_option maxRecDepth 100000
set_option maxHeartbeats 1000000
set_option autoImplicit false
/-! DvSem: runs of plain data; judgements; the small constructs. -/
namespace DV
open PySem L2

structure Exn where
  cls : Str
  fld : List (Str × D)
/-- what a run comes to -/
inductive Rs (α : Type) where
  | ok (a : α) (ρ : Env)
  | raise (e : Exn) (ρ : Env)
  | stuck
abbrev Md (α : Type) := Env → Rs α
namespace Md
def ret {α : Type} (a : α) : Md α := fun ρ => .ok a ρ
def bind {α β : Type} (f : Md α) (g : α → Md β) : Md β := fun ρ => match f ρ with
  | .ok a ρ' => g a ρ'
  | .raise e ρ' => .raise e ρ'
  | .stuck => .stuck
def stuck {α : Type} : Md α := fun _ => .stuck
def opt {α : Type} : Option α → Md α
  | some a => ret a
  | none => stuck
end Md
def Sat {α : Type} (r : Rs α) (P : α → Env → Prop) (N : Exn → Env → Prop) : Prop := match r with
  | .ok a ρ => P a ρ
  | .raise e ρ => N e ρ
  | .stuck => False
/-- what is wished of an exception -/
abbrev Wish := Exn → Hp → Env → St → Hp → Prop
def V0 : Wish := fun _ _ _ _ _ => False

section
variable {K : Kf} {V : Wish} {c : Cn} {G G' H H' : Hp} {ρ : Env} {σ : St}
/-- a run from (G, ρ, σ, H) within an expression: σ stays -/
def Out {α : Type} (K : Kf) (V : Wish) (c : Cn) (G : Hp) (σ : St) (r : Rs α) (P : α → Env → Hp → Hp → Prop) : Prop :=
  Sat r (fun a ρ' => ∀ G' H', Ex G G' → Rel K c G' ρ' σ H' → P a ρ' G' H') (fun e ρ' => ∀ G' H', Ex G G' → Rel K c G' ρ' σ H' → V e G' ρ' σ H')
theorem Out.weak {α : Type} {r : Rs α} {P : α → Env → Hp → Hp → Prop} (e : Ex G G') (h : Out K V c G σ r P) : Out K V c G' σ r P := by
  cases r with
  | ok a ρ => exact fun G2 H2 e2 R => h G2 H2 (e.trans e2) R
  | raise x ρ => exact fun G2 H2 e2 R => h G2 H2 (e.trans e2) R
  | stuck => exact h
theorem Out.mono {α : Type} {r : Rs α} {P P' : α → Env → Hp → Hp → Prop} (h : Out K V c G σ r P) (f : ∀ a ρ' G' H', Ex G G' → Rel K c G' ρ' σ H' → P a ρ' G' H' → P' a ρ' G' H') : Out K V c G σ r P' := by
  cases r with
  | ok a ρ => exact fun G2 H2 e2 R => f a ρ G2 H2 e2 R (h G2 H2 e2 R)
  | raise x ρ => exact h
  | stuck => exact h
theorem Out.bind {α β : Type} {f : Md α} {g : α → Md β} {P : β → Env → Hp → Hp → Prop} (h : Out K V c G σ (Md.bind f g ρ) P) : Out K V c G σ (f ρ) (fun a ρ1 G1 _ => Out K V c G1 σ (g a ρ1) P) := by
  unfold Md.bind at h
  cases e : f ρ with
  | ok a ρ' => rw [e] at h; exact fun G2 H2 e2 R => Out.weak e2 h
  | raise x ρ' => rw [e] at h; exact h
  | stuck => rw [e] at h; exact h
theorem Out.ret {α : Type} {a : α} {P : α → Env → Hp → Hp → Prop} (R : Rel K c G ρ σ H) (h : Out K V c G σ (.ok a ρ) P) : P a ρ G H := h G H (Ex.refl G) R
theorem Out.opt {α : Type} {o : Option α} {P : α → Env → Hp → Hp → Prop} (h : Out K V c G σ (Md.opt o ρ) P) : ∃ a, o = some a ∧ Out K V c G σ (.ok a ρ) P := by
  cases o with
  | none => exact False.elim h
  | some a => exact ⟨a, rfl, h⟩
end

/-- what an operand is: data that stands still, or what the slot holds -/
inductive Opd where
  | dat (d : D)
  | slot (i : Nat)
def ORep (K : Kf) (G : Hp) (σ : St) : Opd → V → Prop
  | .dat d, v => Dv K G d v
  | .slot i, v => σ[i]? = some (some v)
def ownD : Own → Option D
  | .lst ds => some (.list ds)
  | .dK kvs => some (.dict (kvs.map fun p => (keyD p.1, p.2)))
  | _ => none
/-- its data now -/
def rs (ρ : Env) : Opd → Option D
  | .dat d => some d
  | .slot i => match ρ[i]? with
    | some (some (.imm d)) => some d
    | some (some (.own _ o)) => ownD o
    | _ => none
/-- its data, if it stands still -/
def im (ρ : Env) : Opd → Option D
  | .dat d => some d
  | .slot i => match ρ[i]? with
    | some (some (.imm d)) => some d
    | _ => none
section
variable {K : Kf} {V : Wish} {c : Cn} {G G' H H' : Hp} {ρ : Env} {σ : St}
theorem ORep.ex (e : Ex G G') {o : Opd} {v : L2.V} (h : ORep K G σ o v) : ORep K G' σ o v := by
  cases o with
  | dat d => exact Dv.ex e d h
  | slot i => exact h
theorem kvRep_ks : ∀ {kvs : List (Key × D)} {ks : List (Key × L2.V)}, KvRep K G kvs ks → DvKs K G (kvs.map fun p => (keyD p.1, p.2)) ks
  | _, _, .nil => by unfold DvKs; rfl
  | (k, d) :: r, (q, v) :: r', .cons h t => by
    show DvKs K G ((keyD k, d) :: _) _
    unfold DvKs
    obtain ⟨h1, h2⟩ := h
    have h1' : k = q := h1
    subst h1'
    exact ⟨k, v, r', rfl, rfl, h2, kvRep_ks t⟩
theorem own_vw {o : Own} {ob : HO} {p : Addr} {d : D} (q : ObRep K G o ob) (hp : H p = some ob) (e : ownD o = some d) : Vw K G H d (.ref p) := by
  cases o with
  | lst ds =>
    cases e
    obtain ⟨vs, rfl, r⟩ := q
    exact ⟨p, vs, rfl, SqL.of hp, r⟩
  | dK kvs =>
    cases e
    obtain ⟨ks, rfl, r⟩ := q
    exact ⟨p, ks, rfl, .inl hp, kvRep_ks r⟩
  | dT kvs => cases e
  | ins C fs => cases e
theorem own_dv {o : Own} {ob : HO} {p : Addr} {d : D} (q : ObRep K G o ob) (hp : G p = some ob) (e : ownD o = some d) : Dv K G d (.ref p) := by
  cases o with
  | lst ds =>
    cases e
    obtain ⟨vs, rfl, r⟩ := q
    unfold Dv
    exact ⟨p, vs, rfl, SqL.of hp, r⟩
  | dK kvs =>
    cases e
    obtain ⟨ks, rfl, r⟩ := q
    unfold Dv
    exact ⟨p, ks, rfl, hp, kvRep_ks r⟩
  | dT kvs => cases e
  | ins C fs => cases e
theorem vw_of (R : Rel K c G ρ σ H) {o : Opd} {v : L2.V} {d : D} (h : ORep K G σ o v) (e : rs ρ o = some d) : Vw K G H d v := by
  cases o with
  | dat d' => cases e; exact Dv.vw R.le h
  | slot i =>
    simp only [rs] at e
    split at e
    · rename_i d' q
      cases e
      obtain ⟨v', s, q'⟩ := R.imm i _ q
      have h' : σ[i]? = some (some v) := h
      rw [s] at h'; cases h'
      exact q'.vw R.le
    · rename_i b o q
      obtain ⟨p, ob, s, hp, r, g, z⟩ := R.own i b o q
      have h' : σ[i]? = some (some v) := h
      rw [s] at h'; cases h'
      exact own_vw r hp e
    · cases e
theorem dv_of (R : Rel K c G ρ σ H) {o : Opd} {v : L2.V} {d : D} (h : ORep K G σ o v) (e : im ρ o = some d) : Dv K G d v := by
  cases o with
  | dat d' => cases e; exact h
  | slot i =>
    simp only [im] at e
    split at e
    · rename_i d' q
      cases e
      obtain ⟨v', s, q'⟩ := R.imm i _ q
      have h' : σ[i]? = some (some v) := h
      rw [s] at h'; cases h'
      exact q'
    · cases e
end

/-! ### judgements over readings -/
def EvO (K : Kf) (V : Wish) (t : TE) (f : Md Opd) : Prop := ∀ c G ρ σ H, Rel K c G ρ σ H → ∀ Q : VK,
  Out K V c G σ (f ρ) (fun o _ G' H' => ∀ v, ORep K G' σ o v → Q v H') → t σ H Q
/-- a new cell of nobody's -/
def NRep (K : Kf) (c : Cn) (G : Hp) (ρ : Env) (σ : St) (H : Hp) (o : Own) (v : L2.V) : Prop :=
  ∃ p ob, v = .ref p ∧ H p = some ob ∧ ObRep K G o ob ∧ G p = none ∧ c.H0 p = none ∧ c.keep p = none ∧ NotOwn ρ σ p
def EvN (K : Kf) (V : Wish) (t : TE) (f : Md Own) : Prop := ∀ c G ρ σ H, Rel K c G ρ σ H → ∀ Q : VK,
  Out K V c G σ (f ρ) (fun o ρ' G' H' => ∀ v, NRep K c G' ρ' σ H' o v → Q v H') → t σ H Q
def EvT (K : Kf) (V : Wish) (t : TT) (f : Md Bool) : Prop := ∀ c G ρ σ H, Rel K c G ρ σ H → ∀ Q : Bool → Hp → Prop,
  Out K V c G σ (f ρ) (fun b _ _ H' => Q b H') → t σ H Q
def OReps (K : Kf) (G : Hp) (σ : St) : List Opd → List L2.V → Prop := Paired (ORep K G σ)
def EvA (K : Kf) (V : Wish) (t : TA) (f : Md (List Opd)) : Prop := ∀ c G ρ σ H, Rel K c G ρ σ H → ∀ Q : List L2.V → Hp → Prop,
  Out K V c G σ (f ρ) (fun os _ G' H' => ∀ vs, OReps K G' σ os vs → Q vs H') → t σ H Q
/-- how a statement leaves -/
inductive Fw where
  | nx | br | ct
  | rt (a : A)
def RRep (K : Kf) (c : Cn) (G H : Hp) : A → L2.V → Prop
  | .imm d, v => Dv K G d v
  | .own _ o, v => ∃ p ob, v = .ref p ∧ H p = some ob ∧ ObRep K G o ob ∧ G p = none ∧ c.H0 p = none
  | .pair o1 o2, v => ∃ t p1 p2 ob1 ob2, v = .ref t ∧ H t = some (.tup [.ref p1, .ref p2]) ∧ H p1 = some ob1 ∧ ObRep K G o1 ob1 ∧ G p1 = none ∧ c.H0 p1 = none ∧ H p2 = some ob2 ∧ ObRep K G o2 ob2 ∧ G p2 = none ∧ c.H0 p2 = none ∧ p1 ≠ p2
def Leave (K : Kf) (c : Cn) (D : Ends) (fl : Fw) (σ' : St) (G' H' : Hp) : Prop := match fl with
  | .nx => D.nx σ' H'
  | .br => D.bk σ' H'
  | .ct => D.ct σ' H'
  | .rt a => ∀ v, RRep K c G' H' a v → D.rt v H'
def OutS (K : Kf) (V : Wish) (c : Cn) (G : Hp) (r : Rs Fw) (P : Fw → Env → St → Hp → Hp → Prop) : Prop :=
  Sat r (fun fl ρ' => ∀ σ' G' H', Ex G G' → Rel K c G' ρ' σ' H' → P fl ρ' σ' G' H') (fun e ρ' => ∀ σ' G' H', Ex G G' → Rel K c G' ρ' σ' H' → V e G' ρ' σ' H')
def StD (K : Kf) (V : Wish) (t : TS) (f : Md Fw) : Prop := ∀ c G ρ σ H, Rel K c G ρ σ H → ∀ D : Ends,
  OutS K V c G (f ρ) (fun fl _ σ' G' H' => Leave K c D fl σ' G' H') → t D σ H
section
variable {K : Kf} {V : Wish} {c : Cn} {G G' H H' : Hp} {ρ : Env} {σ : St}
theorem OutS.weak {r : Rs Fw} {P : Fw → Env → St → Hp → Hp → Prop} (e : Ex G G') (h : OutS K V c G r P) : OutS K V c G' r P := by
  cases r with
  | ok a ρ => exact fun s G2 H2 e2 R => h s G2 H2 (e.trans e2) R
  | raise x ρ => exact fun s G2 H2 e2 R => h s G2 H2 (e.trans e2) R
  | stuck => exact h
theorem OutS.mono {r : Rs Fw} {P P' : Fw → Env → St → Hp → Hp → Prop} (h : OutS K V c G r P) (f : ∀ a ρ' σ' G' H', Ex G G' → Rel K c G' ρ' σ' H' → P a ρ' σ' G' H' → P' a ρ' σ' G' H') : OutS K V c G r P' := by
  cases r with
  | ok a ρ => exact fun s G2 H2 e2 R => f a ρ s G2 H2 e2 R (h s G2 H2 e2 R)
  | raise x ρ => exact h
  | stuck => exact h
/-- an expression first, then a statement's rest -/
theorem OutS.bindE {α : Type} {f : Md α} {g : α → Md Fw} {P : Fw → Env → St → Hp → Hp → Prop} (h : OutS K V c G (Md.bind f g ρ) P) : Out K V c G σ (f ρ) (fun a ρ1 G1 _ => OutS K V c G1 (g a ρ1) P) := by
  unfold Md.bind at h
  cases e : f ρ with
  | ok a ρ' => rw [e] at h; exact fun G2 H2 e2 R => OutS.weak e2 h
  | raise x ρ' => rw [e] at h; exact fun G2 H2 e2 R => h σ G2 H2 e2 R
  | stuck => rw [e] at h; exact h
theorem OutS.ret {a : Fw} {P : Fw → Env → St → Hp → Hp → Prop} (R : Rel K c G ρ σ H) (h : OutS K V c G (.ok a ρ) P) : P a ρ σ G H := h σ G H (Ex.refl G) R
theorem OutS.opt {α : Type} {o : Option α} {g : α → Md Fw} {P : Fw → Env → St → Hp → Hp → Prop} (h : OutS K V c G (Md.bind (Md.opt o) g ρ) P) : ∃ a, o = some a ∧ OutS K V c G (g a ρ) P := by
  cases o with
  | none => exact False.elim h
  | some a => exact ⟨a, rfl, h⟩
theorem Out.bindO {α β : Type} {o : Option α} {g : α → Md β} {P : β → Env → Hp → Hp → Prop} (h : Out K V c G σ (Md.bind (Md.opt o) g ρ) P) : ∃ a, o = some a ∧ Out K V c G σ (g a ρ) P := by
  cases o with
  | none => exact False.elim h
  | some a => exact ⟨a, rfl, h⟩
end

/-! ### expressions -/
section
variable {K : Kf} {V : Wish}
def mVar (i : Nat) : Md Opd := fun ρ => match ρ[i]? with
  | some (some (.imm d)) => .ok (.dat d) ρ
  | some (some (.own _ _)) => .ok (.slot i) ρ
  | _ => .stuck
theorem ev_var {i : Nat} : EvO K V (tVar i) (mVar i) := by
  intro c G ρ σ H R Q h
  unfold mVar at h
  split at h
  · rename_i d e
    obtain ⟨v, s, q⟩ := R.imm i d e
    exact ⟨v, s, h.ret R v q⟩
  · rename_i b o e
    obtain ⟨p, ob, s, hp, r, g, z⟩ := R.own i b o e
    exact ⟨_, s, h.ret R _ s⟩
  · exact False.elim h
def mC (d : D) : Md Opd := Md.ret (.dat d)
theorem ev_int {i : Int} : EvO K V (tC (.int i)) (mC (.int i)) := fun c G ρ σ H R Q h => h.ret R _ (by show Dv K G (.int i) _; unfold Dv; rfl)
theorem ev_bl {b : Bool} : EvO K V (tC (.bl b)) (mC (.bool b)) := fun c G ρ σ H R Q h => h.ret R _ (by show Dv K G (.bool b) _; unfold Dv; rfl)
theorem ev_str {x : Str} : EvO K V (tC (.str x)) (mC (.str x)) := fun c G ρ σ H R Q h => h.ret R _ (by show Dv K G (.str x) _; unfold Dv; rfl)
theorem ev_non : EvO K V (tC .non) (mC .none) := fun c G ρ σ H R Q h => h.ret R _ (by show Dv K G .none _; unfold Dv; rfl)

/-- an operation on data: what it gives may be new -/
def Op2 (K : Kf) (r : R2) (g : D → D → Option D) : Prop := ∀ (G H : Hp) (d1 d2 d : D) (x y : L2.V), Le G H → Vw K G H d1 x → Vw K G H d2 y → g d1 d2 = some d → ∀ Q : VK,
  (∀ v G' H', Al G H G' H' → Dv K G' d v → Q v H') → r x y H Q
def m2 (g : D → D → Option D) (fa fb : Md Opd) : Md Opd := Md.bind fa fun o1 => Md.bind fb fun o2 ρ => Md.opt (do let d1 ← rs ρ o1; let d2 ← rs ρ o2; let d ← g d1 d2; pure (.dat d)) ρ
theorem ev_op {r : R2} {g : D → D → Option D} {ta tb : TE} {fa fb : Md Opd} (ho : Op2 K r g) (ha : EvO K V ta fa) (hb : EvO K V tb fb) : EvO K V (tOp r ta tb) (m2 g fa fb) := by
  intro c G ρ σ H R Q h
  refine ha c G ρ σ H R _ (h.bind.mono fun o1 ρ1 G1 H1 e1 R1 h1 v1 r1 => ?_)
  refine hb c G1 ρ1 σ H1 R1 _ (h1.bind.mono fun o2 ρ2 G2 H2 e2 R2 h2 v2 r2 => ?_)
  obtain ⟨o, eo, h3⟩ := h2.opt
  simp only [Option.bind_eq_bind, Option.bind_eq_some_iff, Option.pure_def, Option.some.injEq] at eo
  obtain ⟨d1, q1, d2, q2, d, q3, rfl⟩ := eo
  refine ho G2 H2 d1 d2 d v1 v2 R2.le (vw_of R2 (r1.ex e2) q1) (vw_of R2 r2 q2) q3 Q fun v G' H' al dv => ?_
  obtain ⟨R3, e3, _⟩ := Rel.al al R2
  exact h3 G' H' e3 R3 v dv
def Op1 (K : Kf) (r : L2.V → Hp → VK → Prop) (g : D → Option D) : Prop := ∀ (G H : Hp) (d1 d : D) (x : L2.V), Le G H → Vw K G H d1 x → g d1 = some d → ∀ Q : VK,
  (∀ v G' H', Al G H G' H' → Dv K G' d v → Q v H') → r x H Q
def m1 (g : D → Option D) (fa : Md Opd) : Md Opd := Md.bind fa fun o1 ρ => Md.opt (do let d1 ← rs ρ o1; let d ← g d1; pure (.dat d)) ρ
theorem ev_un {r : L2.V → Hp → VK → Prop} {g : D → Option D} {ta : TE} {fa : Md Opd} (ho : Op1 K r g) (ha : EvO K V ta fa) : EvO K V (tUn r ta) (m1 g fa) := by
  intro c G ρ σ H R Q h
  refine ha c G ρ σ H R _ (h.bind.mono fun o1 ρ1 G1 H1 e1 R1 h1 v1 r1 => ?_)
  obtain ⟨o, eo, h3⟩ := h1.opt
  simp only [Option.bind_eq_bind, Option.bind_eq_some_iff, Option.pure_def, Option.some.injEq] at eo
  obtain ⟨d1, q1, d, q3, rfl⟩ := eo
  refine ho G1 H1 d1 d v1 R1.le (vw_of R1 r1 q1) q3 Q fun v G' H' al dv => ?_
  obtain ⟨R3, e3, _⟩ := Rel.al al R1
  exact h3 G' H' e3 R3 v dv

/-! tests -/
def mT (f : Md Opd) : Md Bool := Md.bind f fun o ρ => match o with
  | .dat (.bool b) => .ok b ρ
  | _ => .stuck
theorem et_b {t : TE} {f : Md Opd} (h : EvO K V t f) : EvT K V (tB t) (mT f) := by
  intro c G ρ σ H R Q q
  refine h c G ρ σ H R _ (q.bind.mono fun o ρ1 G1 H1 e1 R1 h1 v r => ?_)
  split at h1
  · rename_i b
    have r' : Dv K G1 (.bool b) v := r
    unfold Dv at r'
    exact ⟨b, r', h1.ret R1⟩
  · exact False.elim h1
theorem et_t {t : TE} {f : Md Opd} (h : EvO K V t f) : EvT K V (tTest t) (mT f) := et_b h
def mAndT (f g : Md Bool) : Md Bool := Md.bind f fun b => if b then g else Md.ret false
def mOrT (f g : Md Bool) : Md Bool := Md.bind f fun b => if b then Md.ret true else g
def mNotT (f : Md Bool) : Md Bool := Md.bind f fun b => Md.ret (!b)
theorem et_and {t u : TT} {f g : Md Bool} (h1 : EvT K V t f) (h2 : EvT K V u g) : EvT K V (tAnd t u) (mAndT f g) := by
  intro c G ρ σ H R Q q
  refine h1 c G ρ σ H R _ (q.bind.mono fun b ρ1 G1 H1 e1 R1 h => ?_)
  cases b with
  | true =>
    rw [if_pos rfl] at h ⊢
    exact h2 c G1 ρ1 σ H1 R1 Q h
  | false =>
    rw [if_neg Bool.false_ne_true] at h ⊢
    exact h.ret R1
theorem et_or {t u : TT} {f g : Md Bool} (h1 : EvT K V t f) (h2 : EvT K V u g) : EvT K V (tOr t u) (mOrT f g) := by
  intro c G ρ σ H R Q q
  refine h1 c G ρ σ H R _ (q.bind.mono fun b ρ1 G1 H1 e1 R1 h => ?_)
  cases b with
  | true =>
    rw [if_pos rfl] at h ⊢
    exact h.ret R1
  | false =>
    rw [if_neg Bool.false_ne_true] at h ⊢
    exact h2 c G1 ρ1 σ H1 R1 Q h
theorem et_not {t : TT} {f : Md Bool} (h1 : EvT K V t f) : EvT K V (tNot t) (mNotT f) := by
  intro c G ρ σ H R Q q
  exact h1 c G ρ σ H R _ (q.bind.mono fun b ρ1 G1 H1 e1 R1 h => h.ret R1)
/-! bools as values -/
def mOfT (f : Md Bool) : Md Opd := Md.bind f fun b => Md.ret (.dat (.bool b))
theorem o_bl {G : Hp} {σ : St} {b : Bool} : ORep K G σ (.dat (.bool b)) (.bl b) := by show Dv K G (.bool b) (.bl b); unfold Dv; rfl
def mAndV (f g : Md Opd) : Md Opd := Md.bind (mT f) fun b => if b then g else mC (.bool false)
def mOrV (f g : Md Opd) : Md Opd := Md.bind (mT f) fun b => if b then mC (.bool true) else g
def mNotV (f : Md Opd) : Md Opd := Md.bind (mT f) fun b => mC (.bool !b)
theorem ev_andV {ta tb : TE} {f g : Md Opd} (h1 : EvO K V ta f) (h2 : EvO K V tb g) : EvO K V (tAndV ta tb) (mAndV f g) := by
  intro c G ρ σ H R Q q
  refine et_b h1 c G ρ σ H R _ (q.bind.mono fun b ρ1 G1 H1 e1 R1 h => ?_)
  cases b with
  | true =>
    rw [if_pos rfl] at h ⊢
    exact h2 c G1 ρ1 σ H1 R1 Q h
  | false =>
    rw [if_neg Bool.false_ne_true] at h ⊢
    exact h.ret R1 _ o_bl
theorem ev_orV {ta tb : TE} {f g : Md Opd} (h1 : EvO K V ta f) (h2 : EvO K V tb g) : EvO K V (tOrV ta tb) (mOrV f g) := by
  intro c G ρ σ H R Q q
  refine et_b h1 c G ρ σ H R _ (q.bind.mono fun b ρ1 G1 H1 e1 R1 h => ?_)
  cases b with
  | true =>
    rw [if_pos rfl] at h ⊢
    exact h.ret R1 _ o_bl
  | false =>
    rw [if_neg Bool.false_ne_true] at h ⊢
    exact h2 c G1 ρ1 σ H1 R1 Q h
theorem ev_notV {ta : TE} {f : Md Opd} (h1 : EvO K V ta f) : EvO K V (tNotV ta) (mNotV f) := by
  intro c G ρ σ H R Q q
  exact et_b h1 c G ρ σ H R _ (q.bind.mono fun b ρ1 G1 H1 e1 R1 h => h.ret R1 _ o_bl)
def mIf {α : Type} (t : Md Bool) (f g : Md α) : Md α := Md.bind t fun b => if b then f else g
theorem ev_if {t : TT} {ta tb : TE} {ft : Md Bool} {f g : Md Opd} (h : EvT K V t ft) (h1 : EvO K V ta f) (h2 : EvO K V tb g) : EvO K V (tIf t ta tb) (mIf ft f g) := by
  intro c G ρ σ H R Q q
  refine h c G ρ σ H R _ (q.bind.mono fun b ρ1 G1 H1 e1 R1 h => ?_)
  cases b with
  | true =>
    rw [if_pos rfl] at h ⊢
    exact h1 c G1 ρ1 σ H1 R1 Q h
  | false =>
    rw [if_neg Bool.false_ne_true] at h ⊢
    exact h2 c G1 ρ1 σ H1 R1 Q h
theorem en_if {t : TT} {ta tb : TE} {ft : Md Bool} {f g : Md Own} (h : EvT K V t ft) (h1 : EvN K V ta f) (h2 : EvN K V tb g) : EvN K V (tIf t ta tb) (mIf ft f g) := by
  intro c G ρ σ H R Q q
  refine h c G ρ σ H R _ (q.bind.mono fun b ρ1 G1 H1 e1 R1 h => ?_)
  cases b with
  | true =>
    rw [if_pos rfl] at h ⊢
    exact h1 c G1 ρ1 σ H1 R1 Q h
  | false =>
    rw [if_neg Bool.false_ne_true] at h ⊢
    exact h2 c G1 ρ1 σ H1 R1 Q h
/-- chains of comparisons -/
def mChain (g g' : D → D → Option D) (fa fb fc : Md Opd) : Md Opd := Md.bind fa fun o1 => Md.bind fb fun o2 ρ =>
  match (do let d1 ← rs ρ o1; let d2 ← im ρ o2; let d ← g d1 d2; pure (d, d2) : Option (D × D)) with
  | some (.bool true, d2) => (Md.bind fc fun o3 ρ' => Md.opt (do let d3 ← rs ρ' o3; let d ← g' d2 d3; pure (.dat d)) ρ') ρ
  | some (.bool false, _) => .ok (.dat (.bool false)) ρ
  | _ => .stuck
theorem im_rs {ρ : Env} {o : Opd} {d : D} (h : im ρ o = some d) : rs ρ o = some d := by
  cases o with
  | dat d' => exact h
  | slot i =>
    simp only [im] at h
    simp only [rs]
    split at h
    · rename_i q; rw [q]; exact h
    · cases h
theorem ev_chain {r r' : R2} {g g' : D → D → Option D} {ta tb tc : TE} {fa fb fc : Md Opd} (ho : Op2 K r g) (ho' : Op2 K r' g') (ha : EvO K V ta fa) (hb : EvO K V tb fb) (hc : EvO K V tc fc) : EvO K V (tChain r r' ta tb tc) (mChain g g' fa fb fc) := by
  intro c G ρ σ H R Q h
  refine ha c G ρ σ H R _ (h.bind.mono fun o1 ρ1 G1 H1 e1 R1 h1 v1 r1 => ?_)
  refine hb c G1 ρ1 σ H1 R1 _ (h1.bind.mono fun o2 ρ2 G2 H2 e2 R2 h2 v2 r2 => ?_)
  split at h2
  · rename_i d2 eo
    simp only [Option.bind_eq_bind, Option.bind_eq_some_iff, Option.pure_def, Option.some.injEq, Prod.mk.injEq] at eo
    obtain ⟨d1, q1, d2', q2, d, q3, rfl, rfl⟩ := eo
    have dv2 := dv_of R2 r2 q2
    refine ho G2 H2 d1 d2' _ v1 v2 R2.le (vw_of R2 (r1.ex e2) q1) (dv2.vw R2.le) q3 _ fun v G3 H3 al dv => ?_
    obtain ⟨R3, e3, _⟩ := Rel.al al R2
    unfold Dv at dv
    refine ⟨true, dv, ?_⟩
    rw [if_pos rfl]
    refine hc c G3 ρ2 σ H3 R3 _ ((h2.weak e3).bind.mono fun o4 ρ4 G4 H4 e4 R4 h4 v4 r4 => ?_)
    obtain ⟨o, eo, h5⟩ := h4.opt
    simp only [Option.bind_eq_bind, Option.bind_eq_some_iff, Option.pure_def, Option.some.injEq] at eo
    obtain ⟨d4, q4, d5, q5, rfl⟩ := eo
    refine ho' G4 H4 d2' d4 d5 v2 v4 R4.le ((Dv.ex (e3.trans e4) _ dv2).vw R4.le) (vw_of R4 r4 q4) q5 Q fun v G' H' al dv => ?_
    obtain ⟨R5, e5, _⟩ := Rel.al al R4
    exact h5 G' H' e5 R5 v dv
  · rename_i eo
    simp only [Option.bind_eq_bind, Option.bind_eq_some_iff, Option.pure_def, Option.some.injEq, Prod.mk.injEq] at eo
    obtain ⟨d1, q1, d2', q2, d, q3, rfl, rfl⟩ := eo
    have dv2 := dv_of R2 r2 q2
    refine ho G2 H2 d1 _ _ v1 v2 R2.le (vw_of R2 (r1.ex e2) q1) (dv2.vw R2.le) q3 _ fun v G3 H3 al dv => ?_
    obtain ⟨R3, e3, _⟩ := Rel.al al R2
    unfold Dv at dv
    refine ⟨false, dv, ?_⟩
    rw [if_neg Bool.false_ne_true]
    exact h2 G3 H3 e3 R3 _ o_bl
  · exact False.elim h2

/-! arguments, displays -/
def mNil : Md (List Opd) := Md.ret []
def mCons (f : Md Opd) (g : Md (List Opd)) : Md (List Opd) := Md.bind f fun o => Md.bind g fun os => Md.ret (o :: os)
theorem ea_nil : EvA K V tNil mNil := fun c G ρ σ H R Q h => h.ret R [] .nil
theorem ea_cons {te : TE} {tr : TA} {f : Md Opd} {g : Md (List Opd)} (h : EvO K V te f) (hr : EvA K V tr g) : EvA K V (tCons te tr) (mCons f g) := by
  intro c G ρ σ H R Q q
  refine h c G ρ σ H R _ (q.bind.mono fun o ρ1 G1 H1 e1 R1 h1 v r => ?_)
  refine hr c G1 ρ1 σ H1 R1 _ (h1.bind.mono fun os ρ2 G2 H2 e2 R2 h2 vs rs => ?_)
  exact h2.ret R2 _ (.cons (r.ex e2) rs)
def ims (ρ : Env) : List Opd → Option (List D)
  | [] => some []
  | o :: os => do let d ← im ρ o; let ds ← ims ρ os; pure (d :: ds)
def rss (ρ : Env) : List Opd → Option (List D)
  | [] => some []
  | o :: os => do let d ← rs ρ o; let ds ← rss ρ os; pure (d :: ds)
inductive Vws (K : Kf) (G H : Hp) : List D → List L2.V → Prop where
  | nil : Vws K G H [] []
  | cons {d : D} {v : L2.V} {ds : List D} {vs : List L2.V} (h : Vw K G H d v) (t : Vws K G H ds vs) : Vws K G H (d :: ds) (v :: vs)
theorem dvs_of {c : Cn} {G H : Hp} {ρ : Env} {σ : St} (R : Rel K c G ρ σ H) : ∀ {os : List Opd} {vs : List L2.V} {ds : List D}, OReps K G σ os vs → ims ρ os = some ds → DvAll K G ds vs
  | _, _, _, .nil, e => by
    cases e
    exact .nil
  | _, _, _, .cons h t, e => by
    unfold ims at e
    simp only [Option.bind_eq_bind, Option.bind_eq_some_iff, Option.pure_def, Option.some.injEq] at e
    obtain ⟨d, q1, ds, q2, rfl⟩ := e
    exact .cons (dv_of R h q1) (dvs_of R t q2)
theorem vws_of {c : Cn} {G H : Hp} {ρ : Env} {σ : St} (R : Rel K c G ρ σ H) : ∀ {os : List Opd} {vs : List L2.V} {ds : List D}, OReps K G σ os vs → rss ρ os = some ds → Vws K G H ds vs
  | _, _, _, .nil, e => by
    cases e
    exact .nil
  | _, _, _, .cons h t, e => by
    unfold rss at e
    simp only [Option.bind_eq_bind, Option.bind_eq_some_iff, Option.pure_def, Option.some.injEq] at e
    obtain ⟨d, q1, ds, q2, rfl⟩ := e
    exact .cons (vw_of R h q1) (vws_of R t q2)
/-- the most items of a list here -/
def lim : Nat := 4000000
theorem lim_le {n : Nat} (h : n ≤ lim) : n ≤ sizeLine := Nat.le_trans h (by decide)
theorem lim_lt {n : Nat} (h : n < lim) : n < sizeLine := Nat.lt_of_lt_of_le h (by decide)
def mItems (fa : Md (List Opd)) : Md (List D) := Md.bind fa fun os ρ => Md.opt (do let ds ← ims ρ os; if ds.length ≤ lim then pure ds else none) ρ
def mTup (fa : Md (List Opd)) : Md Opd := Md.bind (mItems fa) fun ds => mC (.tuple ds)
def mLst (fa : Md (List Opd)) : Md Opd := Md.bind (mItems fa) fun ds => mC (.list ds)
def mLstN (fa : Md (List Opd)) : Md Own := Md.bind (mItems fa) fun ds => Md.ret (.lst ds)
theorem items_run {ta : TA} {fa : Md (List Opd)} (h : EvA K V ta fa) {c : Cn} {G H : Hp} {ρ : Env} {σ : St} (R : Rel K c G ρ σ H) {Q : List L2.V → Hp → Prop}
    (q : Out K V c G σ (mItems fa ρ) (fun ds _ G' H' => ds.length ≤ lim → ∀ vs, DvAll K G' ds vs → Q vs H')) : ta σ H Q := by
  refine h c G ρ σ H R _ (q.bind.mono fun os ρ1 G1 H1 e1 R1 h1 vs r => ?_)
  obtain ⟨o, eo, h3⟩ := h1.opt
  simp only [Option.bind_eq_bind, Option.bind_eq_some_iff, Option.pure_def] at eo
  obtain ⟨ds, q1, q2⟩ := eo
  split at q2
  · rename_i l
    cases q2
    exact h3.ret R1 l _ (dvs_of R1 r q1)
  · cases q2
theorem dv_tup {G : Hp} {p : Addr} {ds : List D} {vs : List L2.V} (h : DvAll K G ds vs) (hp : G p = some (.tup vs)) : Dv K G (.tuple ds) (.ref p) := by
  unfold Dv; exact ⟨p, vs, rfl, hp, h⟩
theorem dv_lst {G : Hp} {p : Addr} {ds : List D} {vs : List L2.V} (h : DvAll K G ds vs) (hp : G p = some (.lst vs)) : Dv K G (.list ds) (.ref p) := by
  unfold Dv; exact ⟨p, vs, rfl, SqL.of hp, h⟩
theorem ev_tup {ta : TA} {fa : Md (List Opd)} (h : EvA K V ta fa) : EvO K V (tTup ta) (mTup fa) := by
  intro c G ρ σ H R Q q
  refine items_run h R (q.bind.mono fun ds ρ1 G1 H1 e1 R1 h1 l vs dv => ?_)
  refine ⟨by rw [dv.length]; exact lim_le l, fun p hp => ?_⟩
  have g := Ex.new (o := .tup vs) (R1.gh hp)
  exact h1 _ _ g (R1.new hp) _ (dv_tup (DvAll.ex g _ dv) upd_same)
theorem ev_lst {ta : TA} {fa : Md (List Opd)} (h : EvA K V ta fa) : EvO K V (tLst ta) (mLst fa) := by
  intro c G ρ σ H R Q q
  refine items_run h R (q.bind.mono fun ds ρ1 G1 H1 e1 R1 h1 l vs dv => ?_)
  refine ⟨by rw [dv.length]; exact lim_le l, fun p hp => ?_⟩
  have g := Ex.new (o := .lst vs) (R1.gh hp)
  exact h1 _ _ g (R1.new hp) _ (dv_lst (DvAll.ex g _ dv) upd_same)
end
/-- a new thing beside G -/
theorem Rel.side {K : Kf} {c : Cn} {G H : Hp} {ρ : Env} {σ : St} (R : Rel K c G ρ σ H) {p : Addr} {ob : HO} (h : H p = none) : Rel K c G ρ σ (upd H p ob) := by
  have hg := R.gh h
  have h0 := R.h0 h
  refine ⟨R.le.mut hg, fun a o e f => ?_, R.g0, R.gnew, R.len, R.imm, fun i b o e => ?_, R.dis, R.pin, fun a o e => ?_⟩
  · rw [upd_ne (ne_of_none e h0)]; exact R.fr a o e f
  · obtain ⟨a, ob', s, ha, q, g, z⟩ := R.own i b o e
    exact ⟨a, ob', s, by rw [upd_ne (ne_of_none ha h)]; exact ha, q, g, z⟩
  · obtain ⟨k1, k2, k3⟩ := R.kp a o e
    exact ⟨by rw [upd_ne (ne_of_none k1 h)]; exact k1, k2, k3⟩
theorem Rel.nrep {K : Kf} {c : Cn} {G H : Hp} {ρ : Env} {σ : St} (R : Rel K c G ρ σ H) {p : Addr} {ob : HO} {o : Own} (h : H p = none) (q : ObRep K G o ob) : NRep K c G ρ σ (upd H p ob) o (.ref p) :=
  ⟨p, ob, rfl, upd_same, q, R.gh h, R.h0 h, R.k0 h, R.notOwn h⟩
section
variable {K : Kf} {V : Wish}
theorem en_lst {ta : TA} {fa : Md (List Opd)} (h : EvA K V ta fa) : EvN K V (tLst ta) (mLstN fa) := by
  intro c G ρ σ H R Q q
  refine items_run h R (q.bind.mono fun ds ρ1 G1 H1 e1 R1 h1 l vs dv => ?_)
  refine ⟨by rw [dv.length]; exact lim_le l, fun p hp => ?_⟩
  exact h1 _ _ (Ex.refl _) (R1.side hp) _ (R1.nrep hp ⟨vs, rfl, dv⟩)
/-- a new cell comes to stand still -/
def mFrz (f : Md Own) : Md Opd := Md.bind f fun o => Md.opt ((ownD o).map .dat)
theorem ev_frz {t : TE} {f : Md Own} (h : EvN K V t f) : EvO K V t (mFrz f) := by
  intro c G ρ σ H R Q q
  refine h c G ρ σ H R _ (q.bind.mono fun o ρ1 G1 H1 e1 R1 h1 v r => ?_)
  obtain ⟨p, ob, rfl, hp, q, g, z, kz, no⟩ := r
  obtain ⟨x, ex, h2⟩ := h1.opt
  obtain ⟨d, ed, rfl⟩ := Option.map_eq_some_iff.mp ex
  have e2 := Ex.new (o := ob) g
  exact h2 _ _ e2 (R1.still hp g z kz no) _ (own_dv (q.ex e2) upd_same ed)
/-- a slot's cell comes to stand still -/
def mFrzV (i : Nat) : Md Opd := fun ρ => match ρ[i]? with
  | some (some (.imm d)) => .ok (.dat d) ρ
  | some (some (.own false o)) => match ownD o with
    | some d => .ok (.dat d) (ρ.set i (some (.imm d)))
    | none => .stuck
  | _ => .stuck
end
theorem Rel.frzSlot {K : Kf} {c : Cn} {G H : Hp} {ρ : Env} {σ : St} (R : Rel K c G ρ σ H) {i : Nat} {o : Own} {d : D} (h : ρ[i]? = some (some (.own false o))) (e : ownD o = some d) :
    ∃ p ob, σ[i]? = some (some (.ref p)) ∧ G p = none ∧ Rel K c (upd G p ob) (ρ.set i (some (.imm d))) σ H ∧ Dv K (upd G p ob) d (.ref p) := by
  obtain ⟨p, ob, s, hp, q, g, z⟩ := R.own i false o h
  have li := (List.getElem?_eq_some_iff.mp h).1
  have R1 : Rel K c G (ρ.set i none) (σ.set i (some (.ref p))) H := R.drop (R.canSet (by unfold DV.canSet; rw [h]))
  have es : σ.set i (some (.ref p)) = σ := List.ext_getElem? fun j => by
    by_cases hj : i = j
    · subst hj; rw [List.getElem?_set_self (by rw [← R.len]; exact li), s]
    · rw [List.getElem?_set_ne hj]
  rw [es] at R1
  have no : NotOwn (ρ.set i none) σ p := fun j b o' hj hs => by
    rcases get_set hj with ⟨rfl, q, hl⟩ | ⟨ne, q2⟩
    · cases q
    · exact ne (R.dis i j false o b o' p h q2 s hs)
  have kz : c.keep p = none := by
    cases e : c.keep p with
    | none => rfl
    | some u => exact absurd s ((R.kp p u e).2.2 i false o h)
  have R2 := R1.still hp g z kz no
  have dv : Dv K (upd G p ob) d (.ref p) := own_dv (q.ex (Ex.new g)) upd_same e
  have R3 := R2.setImm (i := i) (R2.canSet (by unfold DV.canSet; rw [List.getElem?_set_self li])) dv
  rw [es, List.set_set] at R3
  exact ⟨p, ob, s, g, R3, dv⟩
section
variable {K : Kf} {V : Wish}
theorem ev_frzV {i : Nat} : EvO K V (tVar i) (mFrzV i) := by
  intro c G ρ σ H R Q h
  unfold mFrzV at h
  split at h
  · rename_i d e
    obtain ⟨v, s, q⟩ := R.imm i d e
    exact ⟨v, s, h.ret R v q⟩
  · rename_i o e
    split at h
    · rename_i d ed
      obtain ⟨p, ob, s, g, R2, dv⟩ := R.frzSlot e ed
      exact ⟨_, s, h _ _ (Ex.new g) R2 _ dv⟩
    · exact False.elim h
  · exact False.elim h
end
end DV

set_option Elab.async false
set_option linter.all false
set_option maxRecDepth 100000
set_option maxHeartbeats 2000000
set_option autoImplicit false
/-! DvOps: the operators on data. -/
namespace DV
open PySem L2
theorem vw_of_dv {K : Kf} {G H : Hp} {d : D} {v : V} (l : Le G H) (h : Dv K G d v) : Vw K G H d v := h.vw l

/-! data as the layer's own (Dp): no dict in it -/
mutual
theorem dp_of {K : Kf} {G H : Hp} (l : Le G H) : ∀ (d : D) {v : V}, PyData.canLay0 d = true → Dv K G d v → Dp K H v d
  | .none, v, _, h => by unfold Dv at h; subst h; exact .non
  | .bool b, v, _, h => by unfold Dv at h; subst h; exact .bl b
  | .int i, v, _, h => by unfold Dv at h; subst h; exact .int i
  | .str s, v, _, h => by unfold Dv at h; subst h; exact .str s
  | .list ds, v, c, h => by
    unfold Dv at h
    obtain ⟨a, vs, rfl, s, q⟩ := h
    exact .lst (sql_le l s) (dpAll_of l ds (by simpa [PyData.canLay0] using c) q)
  | .tuple ds, v, c, h => by
    unfold Dv at h
    obtain ⟨a, vs, rfl, s, q⟩ := h
    exact .tup (sqt_le l s) (dpAll_of l ds (by simpa [PyData.canLay0] using c) q)
  | .dict kvs, v, c, h => by simp [PyData.canLay0] at c
theorem dpAll_of {K : Kf} {G H : Hp} (l : Le G H) : ∀ (ds : List D) {vs : List V}, PyData.canLayAll0 ds = true → DvAll K G ds vs → DpAll K H vs ds
  | [], vs, _, h => by rw [h.nil_inv]; exact .nil
  | d :: ds, vs, c, h => by
    obtain ⟨v, r, rfl, h1, h2⟩ := h.cons_inv
    have c' : d.canLay0 = true ∧ PyData.canLayAll0 ds = true := by simpa [PyData.canLayAll0] using c
    exact .cons (dp_of l d c'.1 h1) (dpAll_of l ds c'.2 h2)
end
theorem dp_vw {K : Kf} {G H : Hp} (l : Le G H) {d : D} {v : V} (c : PyData.canLay0 d = true) (h : Vw K G H d v) : Dp K H v d := by
  cases d with
  | none => rw [show v = .non from h]; exact .non
  | bool b => rw [show v = .bl b from h]; exact .bl b
  | int i => rw [show v = .int i from h]; exact .int i
  | str s => rw [show v = .str s from h]; exact .str s
  | list ds =>
    obtain ⟨a, vs, rfl, s, q⟩ := h
    exact .lst s (dpAll_of l ds (by simpa [PyData.canLay0] using c) q)
  | tuple ds =>
    obtain ⟨a, vs, rfl, s, q⟩ := h
    exact .tup (sqt_le l s) (dpAll_of l ds (by simpa [PyData.canLay0] using c) q)
  | dict kvs => simp [PyData.canLay0] at c

/-! ### + -/
def rCatS (K : Kf) : R2 := fun x y H Q => ∃ l b xs zs, x = .ref l ∧ y = .ref b ∧ SqL K H l xs ∧ SqL K H b zs ∧ xs.length + zs.length ≤ sizeLine ∧ ∀ p, H p = none → Q (.ref p) (upd H p (.lst (xs ++ zs)))
theorem op_catS {X : Cx} : OpR X (binaryOp .Add) (rCatS X.K) := by
  intro pins s σ H x y v u Q I rx ry h
  obtain ⟨l, b, xs, zs, rfl, rfl, hH, hB, hz, q⟩ := h
  cases rx
  cases ry
  obtain ⟨its, r, p1, _⟩ := I.list hH
  obtain ⟨its2, r2, p2, _⟩ := I.list hB
  obtain ⟨⟨cls, dd, data, sl⟩, n, ho, hc, hdd, hd⟩ := p1
  obtain ⟨⟨cls2, dd2, data2, sl2⟩, n2, ho2, hc2, hdd2, hd2⟩ := p2
  simp only at hc hd hc2 hd2
  subst hc hd hc2 hd2
  have e : its.toArray ++ its2.toArray = (its ++ its2).toArray := by simp
  have l1 := r.length
  have l2 := r2.length
  refine concat_meets ⟨_, ho, rfl⟩ ⟨_, ho2, rfl⟩ noFill_list_add seq_list_add PySem.F.slot_list_add PySem.F.entry_list_add (PySem.F.args_list_add_2 _ _) (PyProof.Rows.list_addW l b its.toArray its2.toArray n n2 dd dd2 sl sl2 (by rw [List.size_toArray, List.size_toArray]; omega)) ⟨ho, ho2, ?_⟩
  rw [e]
  exact ⟨.ref _, _, I.lnew (t' := s.toks) (r.append r2) (by rw [List.length_append]; omega), rfl, q _ I.fresh⟩
def rStrAdd : R2 := fun x y H Q => ∃ i j, x = .str i ∧ y = .str j ∧ i.length + j.length ≤ sizeLine ∧ Q (.str (i ++ j)) H
def rAddS (K : Kf) : R2 := fun x y H Q => rI0 (fun i j => .int (i + j)) x y H Q ∨ rStrAdd x y H Q ∨ rCatS K x y H Q ∨ rCatA K x y H Q
theorem op_addS {X : Cx} : OpR X (binaryOp .Add) (rAddS X.K) := op_add.or (op_add_str.or (op_catS.or op_catA))
def gAdd : D → D → Option D
  | .int i, .int j => some (.int (i + j))
  | .str a, .str b => if a.length + b.length ≤ lim then some (.str (a ++ b)) else none
  | .list a, .list b => if a.length + b.length ≤ lim then some (.list (a ++ b)) else none
  | .tuple a, .tuple b => if a.length + b.length ≤ lim then some (.tuple (a ++ b)) else none
  | _, _ => none
theorem dv_int {K : Kf} {G : Hp} {i : Int} : Dv K G (.int i) (.int i) := by unfold Dv; rfl
theorem dv_bool {K : Kf} {G : Hp} {i : Bool} : Dv K G (.bool i) (.bl i) := by unfold Dv; rfl
theorem dv_str {K : Kf} {G : Hp} {i : Str} : Dv K G (.str i) (.str i) := by unfold Dv; rfl
theorem dv_non {K : Kf} {G : Hp} : Dv K G .none .non := by unfold Dv; rfl
/-- a new tuple, a new list -/
theorem new_tup {K : Kf} {G H : Hp} {ds : List D} {vs : List V} {Q : VK} {d : D} (e : d = .tuple ds) (h : DvAll K G ds vs) (l : Le G H) (q : ∀ v G' H', Al G H G' H' → Dv K G' d v → Q v H') : ∀ p, H p = none → Q (.ref p) (upd H p (.tup vs)) := fun p hp => by
  subst e
  have al : Al G H (upd G p (.tup vs)) (upd H p (.tup vs)) := Al.one hp
  exact q _ _ _ al (dv_tup (DvAll.ex (al.ex l) _ h) upd_same)
theorem new_lst {K : Kf} {G H : Hp} {ds : List D} {vs : List V} {Q : VK} {d : D} (e : d = .list ds) (h : DvAll K G ds vs) (l : Le G H) (q : ∀ v G' H', Al G H G' H' → Dv K G' d v → Q v H') : ∀ p, H p = none → Q (.ref p) (upd H p (.lst vs)) := fun p hp => by
  subst e
  have al : Al G H (upd G p (.lst vs)) (upd H p (.lst vs)) := Al.one hp
  exact q _ _ _ al (dv_lst (DvAll.ex (al.ex l) _ h) upd_same)
theorem ifSome {α : Type} {c : Prop} [Decidable c] {a b : α} (h : (if c then some a else none) = some b) : c ∧ a = b := by
  split at h
  · exact ⟨‹c›, Option.some.inj h⟩
  · cases h
/-- a tuple that is read may be handed on where it stands still -/
theorem vw_tup {K : Kf} {G H : Hp} {ds : List D} {v : V} (l : Le G H) (h : Vw K G H (.tuple ds) v) : Vw K G H (.tuple ds) v := h
theorem dv_tupG {K : Kf} {G : Hp} {p : Addr} {ds : List D} {vs : List V} (h : DvAll K G ds vs) (hp : G p = some (.tup vs)) : Dv K G (.tuple ds) (.ref p) := by
  unfold Dv; exact ⟨p, vs, rfl, hp, h⟩
theorem g_add {K : Kf} : Op2 K (rAddS K) gAdd := by
  intro G H d1 d2 d x y l h1 h2 e Q q
  cases d1 with
  | int i =>
    cases d2 with
    | int j =>
      cases e
      exact .inl ⟨i, j, h1, h2, q _ _ _ .refl dv_int⟩
    | _ => cases e
  | str a =>
    cases d2 with
    | str b =>
      obtain ⟨hl, rfl⟩ := ifSome (show (if a.length + b.length ≤ lim then some (PyData.str (a ++ b)) else none) = some d from e)
      exact .inr (.inl ⟨a, b, h1, h2, lim_le hl, q _ _ _ .refl dv_str⟩)
    | _ => cases e
  | list a =>
    cases d2 with
    | list b =>
      obtain ⟨hl, rfl⟩ := ifSome (show (if a.length + b.length ≤ lim then some (PyData.list (a ++ b)) else none) = some d from e)
      obtain ⟨p1, v1, rfl, s1, q1⟩ := h1
      obtain ⟨p2, v2, rfl, s2, q2⟩ := h2
      exact .inr (.inr (.inl ⟨p1, p2, v1, v2, rfl, rfl, s1, s2, by rw [q1.length, q2.length]; exact lim_le hl, new_lst rfl (q1.append q2) l q⟩))
    | _ => cases e
  | tuple a =>
    cases d2 with
    | tuple b =>
      obtain ⟨hl, rfl⟩ := ifSome (show (if a.length + b.length ≤ lim then some (PyData.tuple (a ++ b)) else none) = some d from e)
      obtain ⟨p1, v1, rfl, s1, q1⟩ := h1
      obtain ⟨p2, v2, rfl, s2, q2⟩ := h2
      refine .inr (.inr (.inr ⟨p1, p2, v1, v2, rfl, rfl, sqt_le l s1, sqt_le l s2, by rw [q1.length, q2.length]; exact lim_le hl, fun z => ?_, fun _ z => ?_, fun _ _ => new_tup rfl (q1.append q2) l q⟩))
      · refine q _ _ _ .refl ?_
        subst z
        have z' : a = [] := List.eq_nil_of_length_eq_zero (by rw [← q1.length]; rfl)
        subst z'
        exact dv_tupG q2 s2
      · refine q _ _ _ .refl ?_
        subst z
        have z' : b = [] := List.eq_nil_of_length_eq_zero (by rw [← q2.length]; rfl)
        subst z'
        rw [List.append_nil]
        exact dv_tupG q1 s1
    | _ => cases e
  | _ => cases e
/-! ### - * // % ** -/
def gI (f : Int → Int → Int) : D → D → Option D
  | .int i, .int j => some (.int (f i j))
  | _, _ => none
def gIC (c : Int → Int → Bool) (f : Int → Int → Int) : D → D → Option D
  | .int i, .int j => if c i j then some (.int (f i j)) else none
  | _, _ => none
theorem g_I0 {K : Kf} {f : Int → Int → Int} : Op2 K (rI0 fun i j => .int (f i j)) (gI f) := by
  intro G H d1 d2 d x y l h1 h2 e Q q
  cases d1 with
  | int i =>
    cases d2 with
    | int j => cases e; exact ⟨i, j, h1, h2, q _ _ _ .refl dv_int⟩
    | _ => cases e
  | _ => cases e
theorem g_IC {K : Kf} {C : Int → Int → Prop} {c : Int → Int → Bool} {f : Int → Int → Int} (hc : ∀ i j, c i j = true → C i j) : Op2 K (rI C fun i j => .int (f i j)) (gIC c f) := by
  intro G H d1 d2 d x y l h1 h2 e Q q
  cases d1 with
  | int i =>
    cases d2 with
    | int j =>
      obtain ⟨hl, rfl⟩ := ifSome (show (if c i j = true then some (PyData.int (f i j)) else none) = some d from e)
      exact ⟨i, j, h1, h2, hc i j hl, q _ _ _ .refl dv_int⟩
    | _ => cases e
  | _ => cases e
def gSub : D → D → Option D := gI (· - ·)
theorem g_sub {K : Kf} : Op2 K (rI0 fun i j => .int (i - j)) gSub := g_I0
/-- one factor within a million bits, the other too -/
def cMul (i j : Int) : Bool := decide (i.natAbs.log2 + j.natAbs.log2 < 1000000)
def gMul : D → D → Option D := gIC cMul (· * ·)
theorem g_mul {K : Kf} : Op2 K (rI CMulW fun i j => .int (i * j)) gMul := g_IC fun i j h => of_decide_eq_true (p := i.natAbs.log2 + j.natAbs.log2 < 1000000) h
def cDiv (_ j : Int) : Bool := decide (0 < j) && decide (j.natAbs.log2 < 9000)
def gDiv : D → D → Option D := gIC cDiv (· / ·)
theorem g_div {K : Kf} : Op2 K (rI CDivW fun i j => .int (i / j)) gDiv := g_IC fun i j h => by
  unfold cDiv at h
  rw [Bool.and_eq_true] at h
  exact ⟨of_decide_eq_true h.1, of_decide_eq_true h.2⟩
def cMod (_ j : Int) : Bool := decide (0 < j)
def gMod : D → D → Option D := gIC cMod (· % ·)
theorem g_mod {K : Kf} : Op2 K (rI (fun _ j => 0 < j) fun i j => .int (i % j)) gMod := g_IC fun i j h => of_decide_eq_true h
def cPow (i j : Int) : Bool := decide (0 ≤ j) && decide (j ≤ 1000) && decide (i.natAbs < 2 ^ 64)
def gPow : D → D → Option D := gIC cPow fun i j => i ^ j.toNat
theorem g_pow {K : Kf} : Op2 K (rI CPow fun i j => .int (i ^ j.toNat)) gPow := g_IC fun i j h => by
  unfold cPow at h
  simp only [Bool.and_eq_true, decide_eq_true_eq] at h
  exact ⟨h.1.1, by omega, h.2⟩
def gNeg : D → Option D
  | .int i => some (.int (-i))
  | _ => none
theorem g_neg {K : Kf} : Op1 K (rU fun i => .int (-i)) gNeg := by
  intro G H d1 d x l h1 e Q q
  cases d1 with
  | int i => cases e; exact ⟨i, h1, q _ _ _ .refl dv_int⟩
  | _ => cases e

/-! ### comparisons -/
def gEq (a b : D) : Option D := if SeqAt.shaped a && SeqAt.shaped b then some (.bool (PyData.eqv a b)) else none
def gNe (a b : D) : Option D := if SeqAt.shaped a && SeqAt.shaped b then some (.bool (!PyData.eqv a b)) else none
theorem g_eq {K : Kf} : Op2 K (rEqD K) gEq := by
  intro G H d1 d2 d x y l h1 h2 e Q q
  obtain ⟨hl, rfl⟩ := ifSome (show (if (SeqAt.shaped d1 && SeqAt.shaped d2) = true then some (PyData.bool (PyData.eqv d1 d2)) else none) = some d from e)
  rw [Bool.and_eq_true] at hl
  exact ⟨d1, d2, dp_vw l (SeqAt.canLay_of_shaped hl.1) h1, dp_vw l (SeqAt.canLay_of_shaped hl.2) h2, hl.1, hl.2, q _ _ _ .refl dv_bool⟩
theorem g_ne {K : Kf} : Op2 K (rNeD K) gNe := by
  intro G H d1 d2 d x y l h1 h2 e Q q
  obtain ⟨hl, rfl⟩ := ifSome (show (if (SeqAt.shaped d1 && SeqAt.shaped d2) = true then some (PyData.bool (!PyData.eqv d1 d2)) else none) = some d from e)
  rw [Bool.and_eq_true] at hl
  exact ⟨d1, d2, dp_vw l (SeqAt.canLay_of_shaped hl.1) h1, dp_vw l (SeqAt.canLay_of_shaped hl.2) h2, hl.1, hl.2, q _ _ _ .refl dv_bool⟩
def rSS (p : List Nat → List Nat → Bool) : R2 := fun x y H Q => ∃ i j, x = .str i ∧ y = .str j ∧ Q (.bl (p i.cps.toList j.cps.toList)) H
def rOrd (p : Int → Int → Bool) (s : List Nat → List Nat → Bool) : R2 := fun x y H Q => rI0 (fun i j => .bl (p i j)) x y H Q ∨ rSS s x y H Q
def gOrd (p : Int → Int → Bool) (s : List Nat → List Nat → Bool) : D → D → Option D
  | .int i, .int j => some (.bool (p i j))
  | .str i, .str j => some (.bool (s i.cps.toList j.cps.toList))
  | _, _ => none
theorem g_ord {K : Kf} {p : Int → Int → Bool} {s : List Nat → List Nat → Bool} : Op2 K (rOrd p s) (gOrd p s) := by
  intro G H d1 d2 d x y l h1 h2 e Q q
  cases d1 with
  | int i =>
    cases d2 with
    | int j => cases e; exact .inl ⟨i, j, h1, h2, q _ _ _ .refl dv_bool⟩
    | _ => cases e
  | str i =>
    cases d2 with
    | str j => cases e; exact .inr ⟨i, j, h1, h2, q _ _ _ .refl dv_bool⟩
    | _ => cases e
  | _ => cases e
def gLt := gOrd (fun i j => decide (i < j)) fun a b => decide (a < b)
def gLe := gOrd (fun i j => decide (i ≤ j)) fun a b => !decide (b < a)
def gGt := gOrd (fun i j => decide (j < i)) fun a b => decide (b < a)
def gGe := gOrd (fun i j => decide (j ≤ i)) fun a b => !decide (a < b)
section
variable {X : Cx}
theorem op_ltS : OpR X (compareOp .Lt) (rOrd (fun i j => decide (i < j)) fun a b => decide (a < b)) := op_lt.or op_lt_str
theorem op_leS : OpR X (compareOp .LtE) (rOrd (fun i j => decide (i ≤ j)) fun a b => !decide (b < a)) := op_le.or op_le_str
theorem op_gtS : OpR X (compareOp .Gt) (rOrd (fun i j => decide (j < i)) fun a b => decide (b < a)) := op_gt.or op_gt_str
theorem op_geS : OpR X (compareOp .GtE) (rOrd (fun i j => decide (j ≤ i)) fun a b => !decide (a < b)) := op_ge.or op_ge_str
end
theorem g_lt {K : Kf} : Op2 K (rOrd (fun i j => decide (i < j)) fun a b => decide (a < b)) gLt := g_ord
theorem g_le {K : Kf} : Op2 K (rOrd (fun i j => decide (i ≤ j)) fun a b => !decide (b < a)) gLe := g_ord
theorem g_gt {K : Kf} : Op2 K (rOrd (fun i j => decide (j < i)) fun a b => decide (b < a)) gGt := g_ord
theorem g_ge {K : Kf} : Op2 K (rOrd (fun i j => decide (j ≤ i)) fun a b => !decide (a < b)) gGe := g_ord
/-- is None, is not None -/
def isNone : D → Bool
  | .none => true
  | _ => false
theorem vw_none {K : Kf} {G H : Hp} {d : D} {v : V} (h : Vw K G H d v) : decide (v = .non) = isNone d := by
  cases d with
  | none => rw [show v = .non from h]; rfl
  | bool b => rw [show v = .bl b from h]; rfl
  | int b => rw [show v = .int b from h]; rfl
  | str b => rw [show v = .str b from h]; rfl
  | list ds => obtain ⟨a, vs, rfl, _⟩ := h; rfl
  | tuple ds => obtain ⟨a, vs, rfl, _⟩ := h; rfl
  | dict ds => obtain ⟨a, vs, rfl, _⟩ := h; rfl
def gIsN : D → D → Option D
  | a, .none => some (.bool (isNone a))
  | _, _ => none
def gNotN : D → D → Option D
  | a, .none => some (.bool (!isNone a))
  | _, _ => none
theorem g_isN {K : Kf} : Op2 K (fun x y H Q => y = .non ∧ Q (.bl (decide (x = .non))) H) gIsN := by
  intro G H d1 d2 d x y l h1 h2 e Q q
  cases d2 with
  | none =>
    cases e
    refine ⟨h2, q _ _ _ .refl ?_⟩
    rw [vw_none h1]; exact dv_bool
  | _ => cases e
theorem g_notN {K : Kf} : Op2 K (fun x y H Q => y = .non ∧ Q (.bl (!decide (x = .non))) H) gNotN := by
  intro G H d1 d2 d x y l h1 h2 e Q q
  cases d2 with
  | none =>
    cases e
    refine ⟨h2, q _ _ _ .refl ?_⟩
    rw [vw_none h1]; exact dv_bool
  | _ => cases e
/-- is True, is not True .. of bools -/
def gIsB : D → D → Option D
  | .bool a, .bool b => some (.bool (decide (a = b)))
  | _, _ => none
def gNotB : D → D → Option D
  | .bool a, .bool b => some (.bool (!decide (a = b)))
  | _, _ => none
theorem g_isB {K : Kf} : Op2 K rIsB gIsB := by
  intro G H d1 d2 d x y l h1 h2 e Q q
  cases d1 with
  | bool i =>
    cases d2 with
    | bool j => cases e; exact ⟨i, j, h1, h2, q _ _ _ .refl dv_bool⟩
    | _ => cases e
  | _ => cases e
theorem g_notB {K : Kf} : Op2 K rNotB gNotB := by
  intro G H d1 d2 d x y l h1 h2 e Q q
  cases d1 with
  | bool i =>
    cases d2 with
    | bool j => cases e; exact ⟨i, j, h1, h2, q _ _ _ .refl dv_bool⟩
    | _ => cases e
  | _ => cases e

/-! ### keys -/
def keyOf : D → Option Key
  | .int i => some (.inl i)
  | .str s => some (.inr s)
  | _ => none
def isKey (q : Key) : D → Bool
  | .int i => decide (q = .inl i)
  | .str s => decide (q = .inr s)
  | _ => false
theorem isKey_key (q k : Key) : isKey q (keyD k) = decide (k = q) := by
  cases k with
  | inl i => show decide (q = .inl i) = decide (Sum.inl i = q); exact decide_eq_decide.mpr ⟨Eq.symm, Eq.symm⟩
  | inr i => show decide (q = .inr i) = decide (Sum.inr i = q); exact decide_eq_decide.mpr ⟨Eq.symm, Eq.symm⟩
def lookD (kvs : List (D × D)) (q : Key) : Option D := (kvs.find? fun p => isKey q p.1).map (·.2)
theorem keyOf_vw {K : Kf} {G H : Hp} {d : D} {v : V} {q : Key} (h : Vw K G H d v) (e : keyOf d = some q) : v = kV q := by
  cases d with
  | int i => cases e; exact h
  | str i => cases e; exact h
  | _ => cases e
theorem look_ks {K : Kf} {G : Hp} (q : Key) : ∀ {kvs : List (D × D)} {ks : List (Key × V)}, DvKs K G kvs ks → (lookD kvs q = none ∧ valV ks q = none) ∨ ∃ d v, lookD kvs q = some d ∧ valV ks q = some v ∧ Dv K G d v
  | [], ks, h => by unfold DvKs at h; subst h; exact .inl ⟨rfl, rfl⟩
  | (k, d) :: r, ks, h => by
    unfold DvKs at h
    obtain ⟨q', v, r', rfl, rfl, h1, h2⟩ := h
    by_cases e : q' = q
    · subst e
      refine .inr ⟨d, v, ?_, valV_pos rfl, h1⟩
      show ((((keyD q', d) :: r).find? fun p => isKey q' p.1)).map (·.2) = some d
      rw [List.find?_cons_of_pos (by show isKey q' (keyD q') = true; rw [isKey_key]; simp)] <;> rfl
    · have : lookD ((keyD q', d) :: r) q = lookD r q := by
        show ((((keyD q', d) :: r).find? fun p => isKey q p.1)).map (·.2) = _
        rw [List.find?_cons_of_neg (by show ¬ isKey q (keyD q') = true; rw [isKey_key]; simp [e])] <;> rfl
      rw [this, valV_neg (p := (q', v)) e]
      exact look_ks q h2

/-! ### in -/
def rInK : R2 := fun x y H Q => ∃ a o, y = .ref a ∧ DGet H a x o ∧ Q (.bl o.isSome) H
def rNotInK : R2 := fun x y H Q => ∃ a o, y = .ref a ∧ DGet H a x o ∧ Q (.bl (!o.isSome)) H
def rInSign : R2 := fun x y H Q => ∃ (c : Nat) (z : Str), x = .str ⟨#[c]⟩ ∧ y = .str z ∧ Q (.bl (decide (c ∈ z.cps.toList))) H
def rInS (K : Kf) : R2 := fun x y H Q => rInD K x y H Q ∨ rInK x y H Q ∨ rInSign x y H Q ∨ rIn K false x y H Q
def rNotInS (K : Kf) : R2 := fun x y H Q => rNotInD K x y H Q ∨ rNotInK x y H Q ∨ rIn K true x y H Q
section
variable {X : Cx}
theorem op_inK (hu : X.A.units + 1 < cLine) : OpR X (compareOp .In) rInK := by
  intro pins s σ H x y v u Q I rx ry h
  obtain ⟨a, o, rfl, g, q⟩ := h
  cases ry
  exact d_in hu I g rx fun s3 I3 => ⟨.bl o.isSome, H, I3, rfl, q⟩
theorem op_notInK (hu : X.A.units + 1 < cLine) : OpR X (compareOp .NotIn) rNotInK := by
  intro pins s σ H x y v u Q I rx ry h
  obtain ⟨a, o, rfl, g, q⟩ := h
  cases ry
  exact d_notIn hu I g rx fun s3 I3 => ⟨.bl (!o.isSome), H, I3, rfl, q⟩
theorem op_inS (hu : X.A.units + 65 < cLine) : OpR X (compareOp .In) (rInS X.K) := (op_inD hu).or ((op_inK (by omega)).or (op_in_sign.or op_in_seq))
theorem op_notInS (hu : X.A.units + 65 < cLine) : OpR X (compareOp .NotIn) (rNotInS X.K) := (op_notInD hu).or ((op_notInK (by omega)).or op_notIn_seq)
end
/-- flat data -/
def flatD : D → Bool
  | .none => true
  | .bool _ => true
  | .int _ => true
  | .str _ => true
  | _ => false
def inB : D → D → Option Bool
  | x, .list ds => if SeqAt.shaped x && SeqAt.shaped (.list ds) then some (ds.any fun z => PyData.eqv z x) else none
  | x, .tuple ds => if flatD x && ds.all flatD then some (ds.any fun z => PyData.eqv z x) else none
  | x, .dict kvs => match keyOf x with
    | some q => some (lookD kvs q).isSome
    | none => none
  | .str x, .str z => match x.cps.toList with
    | [c] => some (decide (c ∈ z.cps.toList))
    | _ => none
  | _, _ => none
def gIn (x y : D) : Option D := (inB x y).map .bool
def gNotIn : D → D → Option D
  | _, .str _ => none
  | x, y => (inB x y).map fun b => .bool !b
theorem flat_v {K : Kf} {G H : Hp} {d : D} {v : V} (h : Vw K G H d v) (f : flatD d = true) : flatV v = true := by
  cases d with
  | none => rw [show v = .non from h]; rfl
  | bool b => rw [show v = .bl b from h]; rfl
  | int b => rw [show v = .int b from h]; rfl
  | str b => rw [show v = .str b from h]; rfl
  | _ => cases f
theorem flat_eqv {K : Kf} {G H : Hp} {d e : D} {v w : V} (h : Vw K G H d v) (h' : Vw K G H e w) (f : flatD d = true) (f' : flatD e = true) : eqV v w = PyData.eqv d e := by
  cases d with
  | none => rw [show v = .non from h]; cases e <;> first | (cases f'; done) | (first | rw [show w = .non from h'] | rw [show w = .bl _ from h'] | rw [show w = .int _ from h'] | rw [show w = .str _ from h']) <;> rfl
  | bool b => rw [show v = .bl b from h]; cases e <;> first | (cases f'; done) | (first | rw [show w = .non from h'] | rw [show w = .bl _ from h'] | rw [show w = .int _ from h'] | rw [show w = .str _ from h']) <;> rfl
  | int b => rw [show v = .int b from h]; cases e <;> first | (cases f'; done) | (first | rw [show w = .non from h'] | rw [show w = .bl _ from h'] | rw [show w = .int _ from h'] | rw [show w = .str _ from h']) <;> rfl
  | str b => rw [show v = .str b from h]; cases e <;> first | (cases f'; done) | (first | rw [show w = .non from h'] | rw [show w = .bl _ from h'] | rw [show w = .int _ from h'] | rw [show w = .str _ from h']) <;> rfl
  | _ => cases f
theorem flats {K : Kf} {G H : Hp} (l : Le G H) {d : D} {v : V} (h : Vw K G H d v) (f : flatD d = true) : ∀ {ds : List D} {vs : List V}, DvAll K G ds vs → ds.all flatD = true → vs.all flatV = true ∧ (vs.any fun y => eqV y v) = ds.any fun z => PyData.eqv z d
  | [], vs, q, _ => by rw [q.nil_inv]; exact ⟨rfl, rfl⟩
  | e :: ds, vs, q, fs => by
    obtain ⟨w, r, rfl, h1, h2⟩ := q.cons_inv
    rw [List.all_cons, Bool.and_eq_true] at fs
    obtain ⟨g1, g2⟩ := flats l h f h2 fs.2
    have hw := Dv.vw l h1
    rw [List.all_cons, List.any_cons, List.any_cons, g1, g2, flat_v hw fs.1, flat_eqv hw h fs.1 f]
    exact ⟨rfl, rfl⟩
theorem in_run {K : Kf} {G H : Hp} {d1 d2 : D} {b : Bool} {x y : V} (l : Le G H) (h1 : Vw K G H d1 x) (h2 : Vw K G H d2 y) (e : inB d1 d2 = some b) :
    (∃ d ds, Dp K H x d ∧ Dp K H y (.list ds) ∧ SeqAt.shaped d = true ∧ SeqAt.shaped (.list ds) = true ∧ b = ds.any fun z => PyData.eqv z d) ∨ (∃ a o, y = .ref a ∧ DGet H a x o ∧ b = o.isSome) ∨
      (∃ (c : Nat) (z : Str), x = .str ⟨#[c]⟩ ∧ y = .str z ∧ b = decide (c ∈ z.cps.toList)) ∨ ∃ p xs, y = .ref p ∧ SqT K H p xs ∧ flatV x = true ∧ xs.all flatV = true ∧ b = inV x xs := by
  cases d2 with
  | list ds =>
    have e' : (if (SeqAt.shaped d1 && SeqAt.shaped (.list ds)) = true then some (ds.any fun z => PyData.eqv z d1) else none) = some b := by cases d1 <;> exact e
    obtain ⟨hl, rfl⟩ := ifSome e'
    rw [Bool.and_eq_true] at hl
    exact .inl ⟨d1, ds, dp_vw l (SeqAt.canLay_of_shaped hl.1) h1, dp_vw l (SeqAt.canLay_of_shaped hl.2) h2, hl.1, hl.2, rfl⟩
  | tuple ds =>
    have e' : (if (flatD d1 && ds.all flatD) = true then some (ds.any fun z => PyData.eqv z d1) else none) = some b := by cases d1 <;> exact e
    obtain ⟨hl, rfl⟩ := ifSome e'
    rw [Bool.and_eq_true] at hl
    obtain ⟨p, vs, rfl, s, q⟩ := h2
    obtain ⟨g1, g2⟩ := flats l h1 hl.1 q hl.2
    exact .inr (.inr (.inr ⟨p, vs, rfl, sqt_le l s, flat_v h1 hl.1, g1, g2.symm⟩))
  | dict kvs =>
    have e' : (match keyOf d1 with | some q => some (lookD kvs q).isSome | none => none) = some b := by cases d1 <;> exact e
    split at e'
    · rename_i q eq
      cases e'
      obtain ⟨a, ks, rfl, r, hk⟩ := h2
      have ex := keyOf_vw h1 eq
      subst ex
      refine .inr (.inl ⟨a, valV ks q, rfl, .inl ⟨ks, q, r, rfl, rfl⟩, ?_⟩)
      rcases look_ks q hk with ⟨e1, e2⟩ | ⟨d, v, e1, e2, _⟩
      · rw [e1, e2] <;> rfl
      · rw [e1, e2] <;> rfl
    · cases e'
  | str z =>
    cases d1 with
    | str x' =>
      have e' : (match x'.cps.toList with | [c] => some (decide (c ∈ z.cps.toList)) | _ => none) = some b := e
      split at e'
      · rename_i c ec
        cases e'
        have hx : x = .str x' := h1
        have hx' : x' = ⟨#[c]⟩ := by
          obtain ⟨cps⟩ := x'
          have : cps = #[c] := by rw [← Array.toList_inj]; exact ec
          rw [this]
        subst hx'
        exact .inr (.inr (.inl ⟨c, z, hx, h2, rfl⟩))
      · cases e'
    | _ => cases e
  | _ => cases d1 <;> cases e
theorem g_in {K : Kf} : Op2 K (rInS K) gIn := by
  intro G H d1 d2 d x y l h1 h2 e Q q
  obtain ⟨b, eb, rfl⟩ := Option.map_eq_some_iff.mp e
  have q' : Q (.bl b) H := q _ _ _ .refl dv_bool
  rcases in_run l h1 h2 eb with ⟨d, ds, a1, a2, a3, a4, rfl⟩ | ⟨a, o, a1, a2, rfl⟩ | ⟨c, z, a1, a2, rfl⟩ | ⟨p, xs, a1, a2, a3, a4, rfl⟩
  · exact .inl ⟨d, ds, a1, a2, a3, a4, q'⟩
  · exact .inr (.inl ⟨a, o, a1, a2, q'⟩)
  · exact .inr (.inr (.inl ⟨c, z, a1, a2, q'⟩))
  · exact .inr (.inr (.inr ⟨p, xs, a1, .inr a2, a3, a4, q'⟩))
theorem g_notIn {K : Kf} : Op2 K (rNotInS K) gNotIn := by
  intro G H d1 d2 d x y l h1 h2 e Q q
  have e' : (∀ s, d2 ≠ .str s) ∧ (inB d1 d2).map (fun b => PyData.bool !b) = some d := by
    cases d2 with
    | str s => cases e
    | _ => exact ⟨fun _ z => (nomatch z), e⟩
  obtain ⟨ns, e'⟩ := e'
  obtain ⟨b, eb, rfl⟩ := Option.map_eq_some_iff.mp e'
  have q' : Q (.bl (!b)) H := q _ _ _ .refl dv_bool
  rcases in_run l h1 h2 eb with ⟨d, ds, a1, a2, a3, a4, rfl⟩ | ⟨a, o, a1, a2, rfl⟩ | ⟨c, z, a1, a2, rfl⟩ | ⟨p, xs, a1, a2, a3, a4, rfl⟩
  · exact .inl ⟨d, ds, a1, a2, a3, a4, q'⟩
  · exact .inr (.inl ⟨a, o, a1, a2, q'⟩)
  · exfalso
    cases d2 with
    | str s => exact ns s rfl
    | none => rw [a2] at h2; cases (show V.str z = .non from h2)
    | bool b => rw [a2] at h2; cases (show V.str z = .bl b from h2)
    | int b => rw [a2] at h2; cases (show V.str z = .int b from h2)
    | list ds => obtain ⟨_, _, r, _⟩ := h2; rw [a2] at r; cases r
    | tuple ds => obtain ⟨_, _, r, _⟩ := h2; rw [a2] at r; cases r
    | dict ds => obtain ⟨_, _, r, _⟩ := h2; rw [a2] at r; cases r
  · exact .inr (.inr ⟨p, xs, a1, .inr a2, a3, a4, q'⟩)
end DV

set_option Elab.async false
set_option linter.all false
set_option maxRecDepth 100000
set_option maxHeartbeats 2000000
set_option autoImplicit false
/-! DvMore: subscripts, slices, calls of built-ins. -/
namespace DV
open PySem L2

/-! ### subscripts -/
def rIxD : R2 := fun x y H Q => ∃ a v, x = .ref a ∧ DGet H a y (some v) ∧ Q v H
section
variable {X : Cx}
theorem ix_dict (hu : X.A.units + 1 < cLine) : IxR X rIxD := by
  intro value slice pins s σ H x y v u Q I rx ry h hs
  obtain ⟨a, z, rfl, g, q⟩ := h
  cases rx
  have hT := dict_typeIs I g
  unfold PyProof.Rows.subscriptTail
  refine wpAny_bind ?_
  rw [getitemInPython_of_ne hT.not_modules]
  refine wpAny_bind (wpAny_specialOf hT PySem.F.slot_dict_getitem.lookup ?_)
  have fin : wpAny (model X.prog X.w) X.A (subscripted slice false (.ref a) u) (fun r s₃ => wpAny (model X.prog X.w) X.A (letTemporaryGo value (.ref a) r >>= fun _ => pure r) (EP X pins σ Q) X.xe s₃) X.xe s := by
    rw [hs]
    refine wpAny_operating (d_getItem hu I g ry fun w' s' I' r' => ?_)
    exact wpAny_bind (wpAny_letTemporaryGo (wpAny_pure ⟨z, H, I', r', q⟩))
  first
    | exact wpAny_pure (wpAny_bind fin)
    | exact wpAny_bind (wpAny_pure (wpAny_bind fin))
    | exact wpAny_bind fin
def rIxAll (K : Kf) : R2 := fun x y H Q => rIx K x y H Q ∨ rIxD x y H Q
theorem ix_all (hu : X.A.units + 1 < cLine) : IxR X (rIxAll X.K) := ix_seq.or (ix_dict hu)
end
def gIx : D → D → Option D
  | .list ds, .int i => atI ds i
  | .tuple ds, .int i => atI ds i
  | .str z, .int i => if z.length ≤ lim then (atI z.cps.toList i).map fun c => .str ⟨#[c]⟩ else none
  | .dict kvs, k => match keyOf k with
    | some q => lookD kvs q
    | none => none
  | _, _ => none
theorem atI_dv {K : Kf} {G : Hp} {ds : List D} {vs : List V} {i : Int} {d : D} (h : DvAll K G ds vs) (e : atI ds i = some d) : ∃ v, atI vs i = some v ∧ Dv K G d v := by
  unfold atI at e
  obtain ⟨j, e1, e2⟩ := Option.bind_eq_some_iff.mp e
  obtain ⟨v, hv, q⟩ := h.get e2
  refine ⟨v, ?_, q⟩
  unfold atI
  rw [h.length, e1]
  exact hv
theorem g_ix {K : Kf} : Op2 K (rIxAll K) gIx := by
  intro G H d1 d2 d x y l h1 h2 e Q q
  cases d1 with
  | list ds =>
    cases d2 with
    | int i =>
      obtain ⟨a, vs, rfl, s, r⟩ := h1
      obtain ⟨v, ev, dv⟩ := atI_dv r (show atI ds i = some d from e)
      exact .inl (.inl ⟨a, vs, i, v, rfl, h2, s, ev, q _ _ _ .refl dv⟩)
    | _ => cases e
  | tuple ds =>
    cases d2 with
    | int i =>
      obtain ⟨a, vs, rfl, s, r⟩ := h1
      obtain ⟨v, ev, dv⟩ := atI_dv r (show atI ds i = some d from e)
      exact .inl (.inr (.inl ⟨a, vs, i, v, rfl, h2, sqt_le l s, ev, q _ _ _ .refl dv⟩))
    | _ => cases e
  | str z =>
    cases d2 with
    | int i =>
      have e' : (if z.length ≤ lim then (atI z.cps.toList i).map (fun c => PyData.str ⟨#[c]⟩) else none) = some d := e
      split at e'
      · rename_i hl
        obtain ⟨c, ec, rfl⟩ := Option.map_eq_some_iff.mp e'
        exact .inl (.inr (.inr ⟨z, i, c, h1, h2, lim_le hl, ec, q _ _ _ .refl dv_str⟩))
      · cases e'
    | _ => cases e
  | dict kvs =>
    have e' : (match keyOf d2 with | some q => lookD kvs q | none => none) = some d := by cases d2 <;> exact e
    split at e'
    · rename_i k ek
      obtain ⟨a, ks, rfl, r, hk⟩ := h1
      have ey := keyOf_vw h2 ek
      subst ey
      rcases look_ks k hk with ⟨e1, e2⟩ | ⟨d', v, e1, e2, dv⟩
      · rw [e1] at e'; cases e'
      · rw [e1] at e'; cases e'
        exact .inr ⟨a, v, rfl, .inl ⟨ks, k, r, rfl, e2.symm⟩, q _ _ _ .refl dv⟩
    · cases e'
  | _ => cases d2 <;> cases e

/-! ### slices -/
def EvP (K : Kf) (W : Wish) (t : TO) (f : Md (Option Int)) : Prop := ∀ c G ρ σ H, Rel K c G ρ σ H → ∀ Q : Option Int → Hp → Prop,
  Out K W c G σ (f ρ) (fun o _ _ H' => Q o H') → t σ H Q
section
variable {K : Kf} {W : Wish}
theorem ep_none : EvP K W tNoPart (Md.ret none) := fun c G ρ σ H R Q h => h.ret R
def mPart (f : Md Opd) : Md (Option Int) := Md.bind f fun o ρ => match rs ρ o with
  | some (.int i) => .ok (some i) ρ
  | _ => .stuck
theorem ep_some {t : TE} {f : Md Opd} (h : EvO K W t f) : EvP K W (tPart t) (mPart f) := by
  intro c G ρ σ H R Q q
  refine h c G ρ σ H R _ (q.bind.mono fun o ρ1 G1 H1 e1 R1 h1 v r => ?_)
  split at h1
  · rename_i i ei
    exact ⟨i, vw_of R1 r ei, h1.ret R1⟩
  · exact False.elim h1
end
def cutG {α : Type} (xs : List α) (lo hi : Option Int) : List α := (xs.drop (HT.sIx xs.length 0 lo)).take (HT.sIx xs.length xs.length hi - HT.sIx xs.length 0 lo)
theorem cut_dv {K : Kf} {G : Hp} {ds : List D} {vs : List V} (h : DvAll K G ds vs) (lo hi : Option Int) : DvAll K G (cutG ds lo hi) (cutV vs lo hi) := by
  unfold cutG cutV
  rw [h.length]
  exact (h.drop _).take _
def rSlAll (K : Kf) : V → Option Int → Option Int → Hp → VK → Prop := fun x lo hi H Q => rSlL K x lo hi H Q ∨ rSlA K x lo hi H Q
theorem sl_all {X : Cx} : SlR X (rSlAll X.K) := sl_list.or sl_tupA
def gSl (d : D) (lo hi : Option Int) : Option D := match d with
  | .list ds => some (.list (cutG ds lo hi))
  | .tuple ds => some (.tuple (cutG ds lo hi))
  | _ => none
section
variable {K : Kf} {W : Wish}
def mSl (f : Md Opd) (l h : Md (Option Int)) : Md Opd := Md.bind f fun o => Md.bind l fun lo => Md.bind h fun hi ρ => Md.opt (do let d ← rs ρ o; let r ← gSl d lo hi; pure (.dat r)) ρ
theorem whole_cut {α : Type} {xs : List α} {lo hi : Option Int} (h : HT.sIx xs.length 0 lo = 0 ∧ HT.sIx xs.length xs.length hi = xs.length) : cutG xs lo hi = xs := by
  unfold cutG
  rw [h.1, h.2]
  simp
theorem ev_sl {te : TE} {tl th : TO} {f : Md Opd} {l h : Md (Option Int)} (he : EvO K W te f) (hl : EvP K W tl l) (hh : EvP K W th h) : EvO K W (tSl (rSlAll K) te tl th) (mSl f l h) := by
  intro c G ρ σ H R Q q
  refine he c G ρ σ H R _ (q.bind.mono fun o ρ1 G1 H1 e1 R1 h1 v r => ?_)
  refine hl c G1 ρ1 σ H1 R1 _ (h1.bind.mono fun lo ρ2 G2 H2 e2 R2 h2 => ?_)
  refine hh c G2 ρ2 σ H2 R2 _ (h2.bind.mono fun hi ρ3 G3 H3 e3 R3 h3 => ?_)
  obtain ⟨o', eo, h4⟩ := h3.opt
  simp only [Option.bind_eq_bind, Option.bind_eq_some_iff, Option.pure_def, Option.some.injEq] at eo
  obtain ⟨d, q1, d', q2, rfl⟩ := eo
  have vw := vw_of R3 (r.ex (e2.trans e3)) q1
  cases d with
  | list ds =>
    cases q2
    obtain ⟨a, vs, rfl, s, dv⟩ := vw
    refine .inl ⟨a, vs, rfl, s, fun p hp => ?_⟩
    have g := Ex.new (o := .lst (cutV vs lo hi)) (R3.gh hp)
    exact h4 _ _ g (R3.new hp) _ (dv_lst (DvAll.ex g _ (cut_dv dv lo hi)) upd_same)
  | tuple ds =>
    cases q2
    obtain ⟨a, vs, rfl, s, dv⟩ := vw
    refine .inr ⟨a, vs, rfl, sqt_le R3.le s, fun z => ?_, fun _ p hp => ?_⟩
    · rw [dv.length] at z
      refine h4.ret R3 _ ?_
      rw [whole_cut z]
      exact dv_tupG dv s
    · have g := Ex.new (o := .tup (cutV vs lo hi)) (R3.gh hp)
      exact h4 _ _ g (R3.new hp) _ (dv_tup (DvAll.ex g _ (cut_dv dv lo hi)) upd_same)
  | _ => cases q2

/-! ### built-ins, by data -/
def ClD (K : Kf) (r : List V → Hp → VK → Prop) (g : List D → Option D) : Prop := ∀ (G H : Hp) (ds : List D) (d : D) (vs : List V), Le G H → Vws K G H ds vs → g ds = some d → ∀ Q : VK,
  (∀ v G' H', Al G H G' H' → Dv K G' d v → Q v H') → r vs H Q
def mCall (g : List D → Option D) (fa : Md (List Opd)) : Md Opd := Md.bind fa fun os ρ => Md.opt (do let ds ← rss ρ os; let d ← g ds; pure (.dat d)) ρ
theorem ev_callB {r : List V → Hp → VK → Prop} {g : List D → Option D} {ta : TA} {fa : Md (List Opd)} (hr : ClD K r g) (ha : EvA K W ta fa) : EvO K W (tCB r ta) (mCall g fa) := by
  intro c G ρ σ H R Q q
  refine ha c G ρ σ H R _ (q.bind.mono fun os ρ1 G1 H1 e1 R1 h1 vs rr => ?_)
  obtain ⟨o, eo, h3⟩ := h1.opt
  simp only [Option.bind_eq_bind, Option.bind_eq_some_iff, Option.pure_def, Option.some.injEq] at eo
  obtain ⟨ds, q1, d, q2, rfl⟩ := eo
  refine hr G1 H1 ds d vs R1.le (vws_of R1 rr q1) q2 Q fun v G' H' al dv => ?_
  obtain ⟨R3, e3, _⟩ := Rel.al al R1
  exact h3 G' H' e3 R3 v dv
/-- .. a new list is given, all else stays -/
def ClN (K : Kf) (r : List V → Hp → VK → Prop) (g : List D → Option Own) : Prop := ∀ (G H : Hp) (ds : List D) (o : Own) (vs : List V), Le G H → Vws K G H ds vs → g ds = some o → ∀ Q : VK,
  (∀ p ob, H p = none → ObRep K G o ob → Q (.ref p) (upd H p ob)) → r vs H Q
def mCallN (g : List D → Option Own) (fa : Md (List Opd)) : Md Own := Md.bind fa fun os ρ => Md.opt (do let ds ← rss ρ os; g ds) ρ
theorem en_callB {r : List V → Hp → VK → Prop} {g : List D → Option Own} {ta : TA} {fa : Md (List Opd)} (hr : ClN K r g) (ha : EvA K W ta fa) : EvN K W (tCB r ta) (mCallN g fa) := by
  intro c G ρ σ H R Q q
  refine ha c G ρ σ H R _ (q.bind.mono fun os ρ1 G1 H1 e1 R1 h1 vs rr => ?_)
  obtain ⟨o, eo, h3⟩ := h1.opt
  simp only [Option.bind_eq_bind, Option.bind_eq_some_iff] at eo
  obtain ⟨ds, q1, q2⟩ := eo
  refine hr G1 H1 ds o vs R1.le (vws_of R1 rr q1) q2 Q fun p ob hp ob' => ?_
  exact h3 G1 _ (Ex.refl _) (R1.side hp) _ (R1.nrep hp ob')
end

section
variable {K : Kf}
theorem vws1 {G H : Hp} {d : D} {vs : List V} (h : Vws K G H [d] vs) : ∃ v, vs = [v] ∧ Vw K G H d v := by
  cases h with
  | cons h t => cases t; exact ⟨_, rfl, h⟩
theorem vws2 {G H : Hp} {d e : D} {vs : List V} (h : Vws K G H [d, e] vs) : ∃ v w, vs = [v, w] ∧ Vw K G H d v ∧ Vw K G H e w := by
  cases h with
  | cons h t => cases t with
    | cons h' t' => cases t'; exact ⟨_, _, rfl, h, h'⟩
/-! len -/
def rLen (K : Kf) : List V → Hp → VK → Prop := fun xs H Q => (∃ x n, xs = [x] ∧ LenV K x H n ∧ Q (.int n) H) ∨ ∃ a kvs, xs = [V.ref a] ∧ Rd H a (.dK kvs) ∧ Q (.int kvs.length) H
theorem call_lenS {X : Cx} : CallR X (.builtin "len") (rLen X.K) := by
  refine call_len.or ?_
  intro pins s σ H xs us Q I r h
  obtain ⟨a, kvs, rfl, e, q⟩ := h
  obtain ⟨u, rfl, rx⟩ := vals1 r
  cases rx
  exact d_len I e fun t s' I' => ⟨.int kvs.length, H, I', ⟨t, rfl⟩, q⟩
def gLen : List D → Option D
  | [.list ds] => some (.int ds.length)
  | [.tuple ds] => some (.int ds.length)
  | [.str z] => if z.length ≤ lim then some (.int z.length) else none
  | [.dict kvs] => some (.int kvs.length)
  | _ => none
theorem ks_length {G : Hp} : ∀ {kvs : List (D × D)} {ks : List (Key × V)}, DvKs K G kvs ks → ks.length = kvs.length
  | [], ks, h => by unfold DvKs at h; subst h; rfl
  | (k, d) :: r, ks, h => by
    unfold DvKs at h
    obtain ⟨q', v, r', rfl, rfl, h1, h2⟩ := h
    rw [List.length_cons, List.length_cons, ks_length h2]
theorem g_len : ClD K (rLen K) gLen := by
  intro G H ds d vs l h e Q q
  unfold gLen at e
  split at e
  · obtain ⟨v, rfl, a, xs, rfl, s, dv⟩ := vws1 h
    cases e
    exact .inl ⟨_, xs.length, rfl, .inl ⟨xs, s, rfl⟩, q _ _ _ .refl (by rw [dv.length]; exact dv_int)⟩
  · obtain ⟨v, rfl, a, xs, rfl, s, dv⟩ := vws1 h
    cases e
    exact .inl ⟨_, xs.length, rfl, .inr ⟨xs, sqt_le l s, rfl⟩, q _ _ _ .refl (by rw [dv.length]; exact dv_int)⟩
  · rename_i z
    obtain ⟨v, rfl, hv⟩ := vws1 h
    obtain ⟨hl, rfl⟩ := ifSome e
    rw [show v = .str z from hv]
    exact .inl ⟨_, z.length, rfl, ⟨lim_le hl, rfl⟩, q _ _ _ .refl dv_int⟩
  · obtain ⟨v, rfl, a, ks, rfl, s, dv⟩ := vws1 h
    cases e
    exact .inr ⟨a, ks, rfl, s, q _ _ _ .refl (by rw [ks_length dv]; exact dv_int)⟩
  · cases e
/-! abs, int, str, min, max of two -/
def gAbs : List D → Option D
  | [.int i] => some (.int (if i < 0 then -i else i))
  | _ => none
theorem g_abs : ClD K (fun xs H Q => ∃ i, xs = [.int i] ∧ Q (.int (if i < 0 then -i else i)) H) gAbs := by
  intro G H ds d vs l h e Q q
  unfold gAbs at e
  split at e
  · obtain ⟨v, rfl, hv⟩ := vws1 h
    cases e
    exact ⟨_, by rw [show v = _ from hv], q _ _ _ .refl dv_int⟩
  · cases e
def gMax2 : List D → Option D
  | [.int i, .int j] => some (.int (if j > i then j else i))
  | _ => none
theorem g_max2 : ClD K (fun xs H Q => ∃ i j, xs = [.int i, .int j] ∧ Q (.int (if j > i then j else i)) H) gMax2 := by
  intro G H ds d vs l h e Q q
  unfold gMax2 at e
  split at e
  · obtain ⟨v, w, rfl, hv, hw⟩ := vws2 h
    cases e
    exact ⟨_, _, by rw [show v = _ from hv, show w = _ from hw], q _ _ _ .refl dv_int⟩
  · cases e
def gMin2 : List D → Option D
  | [.int i, .int j] => some (.int (if j < i then j else i))
  | _ => none
theorem g_min2 : ClD K (fun xs H Q => ∃ i j, xs = [.int i, .int j] ∧ Q (.int (if j < i then j else i)) H) gMin2 := by
  intro G H ds d vs l h e Q q
  unfold gMin2 at e
  split at e
  · obtain ⟨v, w, rfl, hv, hw⟩ := vws2 h
    cases e
    exact ⟨_, _, by rw [show v = _ from hv, show w = _ from hw], q _ _ _ .refl dv_int⟩
  · cases e
def gInt : List D → Option D
  | [.int i] => some (.int i)
  | [.bool b] => some (.int (if b then 1 else 0))
  | _ => none
theorem g_int : ClD K (fun xs H Q => (∃ i, xs = [.int i] ∧ Q (.int i) H) ∨ ∃ k, xs = [.bl k] ∧ Q (.int (if k then 1 else 0)) H) gInt := by
  intro G H ds d vs l h e Q q
  unfold gInt at e
  split at e
  · obtain ⟨v, rfl, hv⟩ := vws1 h
    cases e
    exact .inl ⟨_, by rw [show v = _ from hv], q _ _ _ .refl dv_int⟩
  · obtain ⟨v, rfl, hv⟩ := vws1 h
    cases e
    exact .inr ⟨_, by rw [show v = _ from hv], q _ _ _ .refl dv_int⟩
  · cases e
def gStr : List D → Option D
  | [.int i] => if i.natAbs.log2 < 1920 then some (.str (toString i)) else none
  | _ => none
theorem g_str : ClD K (fun xs H Q => ∃ i, xs = [.int i] ∧ i.natAbs.log2 < 1920 ∧ Q (.str (toString i)) H) gStr := by
  intro G H ds d vs l h e Q q
  unfold gStr at e
  split at e
  · obtain ⟨v, rfl, hv⟩ := vws1 h
    obtain ⟨hl, rfl⟩ := ifSome e
    exact ⟨_, by rw [show v = _ from hv], hl, q _ _ _ .refl dv_str⟩
  · cases e
/-! lists of numbers, of truths -/
def intsD : List D → Option (List Int)
  | [] => some []
  | .int i :: r => (intsD r).map (i :: ·)
  | _ :: _ => none
def boolsD : List D → Option (List Bool)
  | [] => some []
  | .bool i :: r => (boolsD r).map (i :: ·)
  | _ :: _ => none
theorem intsD_v {G : Hp} : ∀ {ds : List D} {vs : List V} {ns : List Int}, DvAll K G ds vs → intsD ds = some ns → vs = ns.map V.int
  | [], _, _, h, e => by rw [h.nil_inv]; cases e; rfl
  | .int i :: r, _, _, h, e => by
    obtain ⟨v, vs, rfl, h1, h2⟩ := h.cons_inv
    obtain ⟨ns, e1, rfl⟩ := Option.map_eq_some_iff.mp (show (intsD r).map (i :: ·) = some _ from e)
    unfold Dv at h1
    rw [h1, intsD_v h2 e1]
    rfl
  | .none :: _, _, _, _, e => by cases e
  | .bool _ :: _, _, _, _, e => by cases e
  | .str _ :: _, _, _, _, e => by cases e
  | .list _ :: _, _, _, _, e => by cases e
  | .tuple _ :: _, _, _, _, e => by cases e
  | .dict _ :: _, _, _, _, e => by cases e
theorem boolsD_v {G : Hp} : ∀ {ds : List D} {vs : List V} {ns : List Bool}, DvAll K G ds vs → boolsD ds = some ns → vs = ns.map V.bl
  | [], _, _, h, e => by rw [h.nil_inv]; cases e; rfl
  | .bool i :: r, _, _, h, e => by
    obtain ⟨v, vs, rfl, h1, h2⟩ := h.cons_inv
    obtain ⟨ns, e1, rfl⟩ := Option.map_eq_some_iff.mp (show (boolsD r).map (i :: ·) = some _ from e)
    unfold Dv at h1
    rw [h1, boolsD_v h2 e1]
    rfl
  | .none :: _, _, _, _, e => by cases e
  | .int _ :: _, _, _, _, e => by cases e
  | .str _ :: _, _, _, _, e => by cases e
  | .list _ :: _, _, _, _, e => by cases e
  | .tuple _ :: _, _, _, _, e => by cases e
  | .dict _ :: _, _, _, _, e => by cases e
/-- a list or a tuple of whole numbers -/
def SqI (K : Kf) (H : Hp) (a : Addr) (ns : List Int) : Prop := SqL K H a (ns.map V.int) ∨ SqT K H a (ns.map V.int)
def rSumA (K : Kf) : List V → Hp → VK → Prop := fun vs H Q => ∃ (a : Addr) (ns : List Int), vs = [V.ref a] ∧ SqI K H a ns ∧ Q (.int ns.sum) H
def rMaxA (K : Kf) : List V → Hp → VK → Prop := fun vs H Q => ∃ (a : Addr) (ns : List Int), vs = [V.ref a] ∧ SqI K H a ns ∧ 0 < ns.length ∧ ∀ m, m ∈ ns → (∀ y, y ∈ ns → y ≤ m) → Q (.int m) H
def rMinA (K : Kf) : List V → Hp → VK → Prop := fun vs H Q => ∃ (a : Addr) (ns : List Int), vs = [V.ref a] ∧ SqI K H a ns ∧ 0 < ns.length ∧ ∀ m, m ∈ ns → (∀ y, y ∈ ns → m ≤ y) → Q (.int m) H
def gSum : List D → Option D
  | [.list ds] => (intsD ds).map fun ns => .int ns.sum
  | [.tuple ds] => (intsD ds).map fun ns => .int ns.sum
  | _ => none
theorem g_sum : ClD K (rSumA K) gSum := by
  intro G H ds d vs l h e Q q
  unfold gSum at e
  split at e
  · obtain ⟨v, rfl, a, xs, rfl, s, dv⟩ := vws1 h
    obtain ⟨ns, en, rfl⟩ := Option.map_eq_some_iff.mp e
    have ex := intsD_v dv en
    subst ex
    exact ⟨a, ns, rfl, .inl s, q _ _ _ .refl dv_int⟩
  · obtain ⟨v, rfl, a, xs, rfl, s, dv⟩ := vws1 h
    obtain ⟨ns, en, rfl⟩ := Option.map_eq_some_iff.mp e
    have ex := intsD_v dv en
    subst ex
    exact ⟨a, ns, rfl, .inr (sqt_le l s), q _ _ _ .refl dv_int⟩
  · cases e
def gAll : List D → Option D
  | [.list ds] => (boolsD ds).map fun ns => .bool (ns.all id)
  | _ => none
theorem g_all : ClD K (rAll K) gAll := by
  intro G H ds d vs l h e Q q
  unfold gAll at e
  split at e
  · obtain ⟨v, rfl, a, xs, rfl, s, dv⟩ := vws1 h
    obtain ⟨ns, en, rfl⟩ := Option.map_eq_some_iff.mp e
    have ex := boolsD_v dv en
    subst ex
    exact ⟨a, ns, rfl, s, q _ _ _ .refl dv_bool⟩
  · cases e
def gAny : List D → Option D
  | [.list ds] => (boolsD ds).map fun ns => .bool (ns.any id)
  | _ => none
theorem g_any : ClD K (rAny K) gAny := by
  intro G H ds d vs l h e Q q
  unfold gAny at e
  split at e
  · obtain ⟨v, rfl, a, xs, rfl, s, dv⟩ := vws1 h
    obtain ⟨ns, en, rfl⟩ := Option.map_eq_some_iff.mp e
    have ex := boolsD_v dv en
    subst ex
    exact ⟨a, ns, rfl, s, q _ _ _ .refl dv_bool⟩
  · cases e
def maxL : List Int → Option Int
  | [] => none
  | x :: r => some (r.foldl max x)
def minL : List Int → Option Int
  | [] => none
  | x :: r => some (r.foldl min x)
theorem foldl_max_le : ∀ (r : List Int) (x : Int), x ≤ r.foldl max x ∧ (∀ y ∈ r, y ≤ r.foldl max x) ∧ (r.foldl max x = x ∨ r.foldl max x ∈ r)
  | [], x => ⟨Int.le_refl _, fun _ h => (by cases h), .inl rfl⟩
  | a :: r, x => by
    obtain ⟨h1, h2, h3⟩ := foldl_max_le r (max x a)
    rw [List.foldl_cons]
    refine ⟨by omega, fun y hy => ?_, ?_⟩
    · rcases List.mem_cons.mp hy with rfl | hy
      · omega
      · exact h2 y hy
    · rcases h3 with h3 | h3
      · by_cases c : a ≤ x
        · exact .inl (by omega)
        · exact .inr (by rw [h3, show max x a = a by omega]; exact List.mem_cons_self)
      · exact .inr (List.mem_cons_of_mem _ h3)
theorem foldl_min_le : ∀ (r : List Int) (x : Int), r.foldl min x ≤ x ∧ (∀ y ∈ r, r.foldl min x ≤ y) ∧ (r.foldl min x = x ∨ r.foldl min x ∈ r)
  | [], x => ⟨Int.le_refl _, fun _ h => (by cases h), .inl rfl⟩
  | a :: r, x => by
    obtain ⟨h1, h2, h3⟩ := foldl_min_le r (min x a)
    rw [List.foldl_cons]
    refine ⟨by omega, fun y hy => ?_, ?_⟩
    · rcases List.mem_cons.mp hy with rfl | hy
      · omega
      · exact h2 y hy
    · rcases h3 with h3 | h3
      · by_cases c : x ≤ a
        · exact .inl (by omega)
        · exact .inr (by rw [h3, show min x a = a by omega]; exact List.mem_cons_self)
      · exact .inr (List.mem_cons_of_mem _ h3)
theorem maxL_spec {ns : List Int} {m : Int} (h : maxL ns = some m) : m ∈ ns ∧ ∀ y ∈ ns, y ≤ m := by
  cases ns with
  | nil => cases h
  | cons x r =>
    cases h
    obtain ⟨h1, h2, h3⟩ := foldl_max_le r x
    refine ⟨?_, fun y hy => ?_⟩
    · rcases h3 with h3 | h3
      · rw [h3]; exact List.mem_cons_self
      · exact List.mem_cons_of_mem _ h3
    · rcases List.mem_cons.mp hy with rfl | hy
      · exact h1
      · exact h2 y hy
theorem minL_spec {ns : List Int} {m : Int} (h : minL ns = some m) : m ∈ ns ∧ ∀ y ∈ ns, m ≤ y := by
  cases ns with
  | nil => cases h
  | cons x r =>
    cases h
    obtain ⟨h1, h2, h3⟩ := foldl_min_le r x
    refine ⟨?_, fun y hy => ?_⟩
    · rcases h3 with h3 | h3
      · rw [h3]; exact List.mem_cons_self
      · exact List.mem_cons_of_mem _ h3
    · rcases List.mem_cons.mp hy with rfl | hy
      · exact h1
      · exact h2 y hy
def gMax : List D → Option D
  | [.list ds] => do let ns ← intsD ds; let m ← maxL ns; pure (.int m)
  | [.tuple ds] => do let ns ← intsD ds; let m ← maxL ns; pure (.int m)
  | _ => none
def gMin : List D → Option D
  | [.list ds] => do let ns ← intsD ds; let m ← minL ns; pure (.int m)
  | [.tuple ds] => do let ns ← intsD ds; let m ← minL ns; pure (.int m)
  | _ => none
theorem g_max : ClD K (rMaxA K) gMax := by
  intro G H ds d vs l h e Q q
  unfold gMax at e
  split at e
  · obtain ⟨v, rfl, a, xs, rfl, s, dv⟩ := vws1 h
    simp only [Option.bind_eq_bind, Option.bind_eq_some_iff, Option.pure_def, Option.some.injEq] at e
    obtain ⟨ns, en, m, em, rfl⟩ := e
    have ex := intsD_v dv en
    subst ex
    obtain ⟨m1, m2⟩ := maxL_spec em
    refine ⟨a, ns, rfl, .inl s, List.length_pos_of_mem m1, fun m' k1 k2 => ?_⟩
    have : m' = m := by have := m2 m' k1; have := k2 m m1; omega
    subst this
    exact q _ _ _ .refl dv_int
  · obtain ⟨v, rfl, a, xs, rfl, s, dv⟩ := vws1 h
    simp only [Option.bind_eq_bind, Option.bind_eq_some_iff, Option.pure_def, Option.some.injEq] at e
    obtain ⟨ns, en, m, em, rfl⟩ := e
    have ex := intsD_v dv en
    subst ex
    obtain ⟨m1, m2⟩ := maxL_spec em
    refine ⟨a, ns, rfl, .inr (sqt_le l s), List.length_pos_of_mem m1, fun m' k1 k2 => ?_⟩
    have : m' = m := by have := m2 m' k1; have := k2 m m1; omega
    subst this
    exact q _ _ _ .refl dv_int
  · cases e
theorem g_min : ClD K (rMinA K) gMin := by
  intro G H ds d vs l h e Q q
  unfold gMin at e
  split at e
  · obtain ⟨v, rfl, a, xs, rfl, s, dv⟩ := vws1 h
    simp only [Option.bind_eq_bind, Option.bind_eq_some_iff, Option.pure_def, Option.some.injEq] at e
    obtain ⟨ns, en, m, em, rfl⟩ := e
    have ex := intsD_v dv en
    subst ex
    obtain ⟨m1, m2⟩ := minL_spec em
    refine ⟨a, ns, rfl, .inl s, List.length_pos_of_mem m1, fun m' k1 k2 => ?_⟩
    have : m' = m := by have := m2 m' k1; have := k2 m m1; omega
    subst this
    exact q _ _ _ .refl dv_int
  · obtain ⟨v, rfl, a, xs, rfl, s, dv⟩ := vws1 h
    simp only [Option.bind_eq_bind, Option.bind_eq_some_iff, Option.pure_def, Option.some.injEq] at e
    obtain ⟨ns, en, m, em, rfl⟩ := e
    have ex := intsD_v dv en
    subst ex
    obtain ⟨m1, m2⟩ := minL_spec em
    refine ⟨a, ns, rfl, .inr (sqt_le l s), List.length_pos_of_mem m1, fun m' k1 k2 => ?_⟩
    have : m' = m := by have := m2 m' k1; have := k2 m m1; omega
    subst this
    exact q _ _ _ .refl dv_int
  · cases e
/-! tuple(x), list(x), sorted(x) -/
def gTuple : List D → Option D
  | [.list ds] => some (.tuple ds)
  | [.tuple ds] => some (.tuple ds)
  | _ => none
theorem g_tuple : ClD K (fun xs H Q => ∃ p ys, xs = [.ref p] ∧ ((SqL K H p ys ∧ ∀ l, H l = none → Q (.ref l) (upd H l (.tup ys))) ∨ (SqT K H p ys ∧ Q (.ref p) H))) gTuple := by
  intro G H ds d vs l h e Q q
  unfold gTuple at e
  split at e
  · obtain ⟨v, rfl, a, xs, rfl, s, dv⟩ := vws1 h
    cases e
    exact ⟨a, xs, rfl, .inl ⟨s, new_tup rfl dv l q⟩⟩
  · obtain ⟨v, rfl, a, xs, rfl, s, dv⟩ := vws1 h
    cases e
    exact ⟨a, xs, rfl, .inr ⟨sqt_le l s, q _ _ _ .refl (dv_tupG dv s)⟩⟩
  · cases e
def gList : List D → Option Own
  | [.list ds] => some (.lst ds)
  | [.tuple ds] => some (.lst ds)
  | _ => none
theorem g_list : ClN K (fun xs H Q => ∃ p ys, xs = [.ref p] ∧ (SqL K H p ys ∨ SqT K H p ys) ∧ ∀ l, H l = none → Q (.ref l) (upd H l (.lst ys))) gList := by
  intro G H ds o vs l h e Q q
  unfold gList at e
  split at e
  · obtain ⟨v, rfl, a, xs, rfl, s, dv⟩ := vws1 h
    cases e
    exact ⟨a, xs, rfl, .inl s, fun p hp => q p _ hp ⟨xs, rfl, dv⟩⟩
  · obtain ⟨v, rfl, a, xs, rfl, s, dv⟩ := vws1 h
    cases e
    exact ⟨a, xs, rfl, .inr (sqt_le l s), fun p hp => q p _ hp ⟨xs, rfl, dv⟩⟩
  · cases e
end
end DV

set_option Elab.async false
set_option linter.all false
set_option maxRecDepth 100000
set_option maxHeartbeats 2000000
set_option autoImplicit false
/-! DvStmt: what is walked, targets, statements, loops, comprehensions. -/
namespace DV
open PySem L2

/-! ### what is walked -/
/-- the iterator gives ds, one by one -/
def ItD (K : Kf) (J : It) (G0 : Hp) (ds : List D) : Prop := ∀ G H, Ex G0 G → Le G H → ∀ i : Nat,
  (∀ d, ds[i]? = some d → J.go i H ∧ ∀ x H', J.yld i H x H' → ∃ G', Al G H G' H' ∧ Dv K G' d x) ∧ (ds.length ≤ i → J.stop i H)
def EvI (K : Kf) (W : Wish) (w : TI) (f : Md (List D)) : Prop := ∀ c G ρ σ H, Rel K c G ρ σ H → ∀ R : It → Hp → Prop,
  Out K W c G σ (f ρ) (fun ds _ G' H' => ∀ J, ItD K J G' ds → R J H') → w σ H R
section
variable {K : Kf} {W : Wish}
theorem itd_list {G0 : Hp} {a : Addr} {vs : List V} {ds : List D} (s : SqL K G0 a vs) (h : DvAll K G0 ds vs) : ItD K (Itl K a) G0 ds := by
  intro G H e l i
  have s' : SqL K H a vs := sql_le l (sql_ex e s)
  have h' := DvAll.ex e _ h
  refine ⟨fun d hd => ?_, fun hl => ⟨vs, s', by rw [h.length]; exact hl⟩⟩
  obtain ⟨v, hv, q⟩ := h'.get hd
  refine ⟨⟨vs, v, s', hv⟩, fun x H' y => ?_⟩
  obtain ⟨rfl, y⟩ := y
  have := y vs s'
  rw [hv] at this; cases this
  exact ⟨G, .refl, q⟩
theorem itd_tup {G0 : Hp} {a : Addr} {vs : List V} {ds : List D} (s : G0 a = some (.tup vs)) (h : DvAll K G0 ds vs) : ItD K (Itt K a) G0 ds := by
  intro G H e l i
  have s' : SqT K H a vs := sqt_le l (sqt_ex e s)
  have h' := DvAll.ex e _ h
  refine ⟨fun d hd => ?_, fun hl => ⟨vs, s', by rw [h.length]; exact hl⟩⟩
  obtain ⟨v, hv, q⟩ := h'.get hd
  refine ⟨⟨vs, v, s', hv⟩, fun x H' y => ?_⟩
  obtain ⟨rfl, y⟩ := y
  have := y vs s'
  rw [hv] at this; cases this
  exact ⟨G, .refl, q⟩
/-- a list or a tuple, whichever it is -/
def iSeq (K : Kf) (tl : TE) : TI := fun σ H R => tl σ H fun x H1 => (∃ a, x = .ref a ∧ (∃ xs, SqL K H1 a xs) ∧ R (Itl K a) H1) ∨ ∃ a, x = .ref a ∧ (∃ xs, SqT K H1 a xs) ∧ R (Itt K a) H1
theorem pi_seq {X : Cx} {tg l : Expr} {tl : TE} (hl : PE X l tl) : PI X tg l (iSeq X.K tl) := by
  refine ⟨fun pins s σ H R I h => ?_⟩
  refine thn (hl.run pins s σ H _ I h) fun v s1 ⟨x, H1, I1, r1, q1⟩ => ?_
  rcases q1 with ⟨a, e, ⟨xs, hq⟩, q⟩ | ⟨a, e, ⟨xs, hq⟩, q⟩
  · subst e
    cases r1
    obtain ⟨its, rv, p, hz⟩ := I1.list hq
    refine wpAny_pyIter_list p.isList ?_
    exact pi_one (tk := s1.toks) I1 { cls := .type "list_iterator", data := .fields #[.ref a, .int 0 0] } (turn_list a _) ⟨_, Heap.get?_push_size _ rfl, rfl, rfl⟩ q
  · subst e
    cases r1
    obtain ⟨its, rv, p, hz⟩ := I1.tuple hq
    refine wpAny_pyIter_tuple (show s1.heap.IsTuple a its.toArray from p) ?_
    exact pi_one (tk := s1.toks) I1 { cls := .type "tuple_iterator", data := .fields #[.ref a, .int 0 0] } (turn_tuple a _) ⟨_, Heap.get?_push_size _ rfl, rfl, rfl⟩ q
def items : D → Option (List D)
  | .list ds => some ds
  | .tuple ds => some ds
  | _ => none
def mSeq (f : Md Opd) : Md (List D) := Md.bind f fun o ρ => Md.opt (do let d ← im ρ o; items d) ρ
theorem ei_seq {tl : TE} {f : Md Opd} (h : EvO K W tl f) : EvI K W (iSeq K tl) (mSeq f) := by
  intro c G ρ σ H R Q q
  refine h c G ρ σ H R _ (q.bind.mono fun o ρ1 G1 H1 e1 R1 h1 v r => ?_)
  obtain ⟨ds, eo, h3⟩ := h1.opt
  simp only [Option.bind_eq_bind, Option.bind_eq_some_iff] at eo
  obtain ⟨d, q1, q2⟩ := eo
  have dv := dv_of R1 r q1
  cases d with
  | list es =>
    cases q2
    unfold Dv at dv
    obtain ⟨a, vs, rfl, s, q⟩ := dv
    exact .inl ⟨a, rfl, ⟨vs, sql_le R1.le s⟩, h3.ret R1 _ (itd_list s q)⟩
  | tuple es =>
    cases q2
    unfold Dv at dv
    obtain ⟨a, vs, rfl, s, q⟩ := dv
    exact .inr ⟨a, rfl, ⟨vs, sqt_le R1.le s⟩, h3.ret R1 _ (itd_tup s q)⟩
  | _ => cases q2
/-! range -/
def rangeD (lo hi : Int) : List D := (List.range (hi - lo).toNat).map fun i => .int (lo + (i : Nat))
theorem itd_range {G0 : Hp} {lo hi : Int} : ItD K (Itr lo (hi - lo).toNat) G0 (rangeD lo hi) := by
  intro G H e l i
  unfold rangeD
  refine ⟨fun d hd => ?_, fun hl => by
    show (hi - lo).toNat ≤ i
    simpa only [List.length_map, List.length_range] using hl⟩
  rw [List.getElem?_map] at hd
  obtain ⟨j, hj, rfl⟩ := Option.map_eq_some_iff.mp hd
  obtain ⟨h1, h2⟩ := List.getElem?_eq_some_iff.mp hj
  have hl : i < (hi - lo).toNat := by simpa using h1
  have ej : j = i := by rw [← h2]; simp
  subst ej
  refine ⟨hl, fun x H' y => ?_⟩
  obtain ⟨rfl, rfl⟩ := y
  exact ⟨G, .refl, dv_int⟩
def small62 (i : Int) : Bool := decide (-(2 ^ 62) ≤ i) && decide (i < 2 ^ 62)
def mRange1 (fa : Md (List Opd)) : Md (List D) := Md.bind fa fun os ρ => match rss ρ os with
  | some [.int n] => if small62 n then .ok (rangeD 0 n) ρ else .stuck
  | _ => .stuck
def mRange2 (fa : Md (List Opd)) : Md (List D) := Md.bind fa fun os ρ => match rss ρ os with
  | some [.int m, .int n] => if small62 m && small62 n then .ok (rangeD m n) ρ else .stuck
  | _ => .stuck
theorem small62_ok {i : Int} (h : small62 i = true) : -(2 ^ 62) ≤ i ∧ i < 2 ^ 62 := by
  unfold small62 at h
  rw [Bool.and_eq_true] at h
  exact ⟨of_decide_eq_true h.1, of_decide_eq_true h.2⟩
theorem ei_range1 {ta : TA} {fa : Md (List Opd)} (h : EvA K W ta fa) : EvI K W (iRng1 ta) (mRange1 fa) := by
  intro c G ρ σ H R Q q
  refine h c G ρ σ H R _ (q.bind.mono fun os ρ1 G1 H1 e1 R1 h1 vs r => ?_)
  split at h1
  · rename_i n eo
    split at h1
    · rename_i hn
      obtain ⟨v, rfl, hv⟩ := vws1 (vws_of R1 r eo)
      obtain ⟨b1, b2⟩ := small62_ok hn
      have z := h1.ret R1 _ (itd_range (G0 := G1) (lo := 0) (hi := n))
      rw [show v = .int n from hv]
      exact ⟨n, rfl, b1, b2, by simpa using z⟩
    · exact False.elim h1
  · exact False.elim h1
theorem ei_range2 {ta : TA} {fa : Md (List Opd)} (h : EvA K W ta fa) : EvI K W (iRng2 ta) (mRange2 fa) := by
  intro c G ρ σ H R Q q
  refine h c G ρ σ H R _ (q.bind.mono fun os ρ1 G1 H1 e1 R1 h1 vs r => ?_)
  split at h1
  · rename_i m n eo
    split at h1
    · rename_i hn
      rw [Bool.and_eq_true] at hn
      obtain ⟨v, w, rfl, hv, hw⟩ := vws2 (vws_of R1 r eo)
      obtain ⟨b1, b2⟩ := small62_ok hn.1
      obtain ⟨b3, b4⟩ := small62_ok hn.2
      rw [show v = .int m from hv, show w = .int n from hw]
      exact ⟨m, n, rfl, ⟨b1, b2, b3, b4⟩, h1.ret R1 _ itd_range⟩
    · exact False.elim h1
  · exact False.elim h1
/-! a text, sign by sign -/
def signs (z : Str) : List D := z.cps.toList.map fun c => .str ⟨#[c]⟩
theorem itd_str {G0 : Hp} {z : Str} : ItD K (Its z) G0 (signs z) := by
  intro G H e l i
  unfold signs
  refine ⟨fun d hd => ?_, fun hl => by
    show z.cps.size ≤ i
    simpa using hl⟩
  rw [List.getElem?_map] at hd
  obtain ⟨c, hj, rfl⟩ := Option.map_eq_some_iff.mp hd
  obtain ⟨h1, h2⟩ := List.getElem?_eq_some_iff.mp hj
  refine ⟨by show i < z.cps.size; simpa using h1, fun x H' y => ?_⟩
  obtain ⟨rfl, c', hc, rfl⟩ := y
  have : c' = c := by
    rw [Array.getElem?_toList] at hj
    rw [hc] at hj
    exact Option.some.inj hj
  subst this
  exact ⟨G, .refl, dv_str⟩
def mStr (f : Md Opd) : Md (List D) := Md.bind f fun o ρ => match rs ρ o with
  | some (.str z) => .ok (signs z) ρ
  | _ => .stuck
theorem ei_str {tl : TE} {f : Md Opd} (h : EvO K W tl f) : EvI K W (iStr tl) (mStr f) := by
  intro c G ρ σ H R Q q
  refine h c G ρ σ H R _ (q.bind.mono fun o ρ1 G1 H1 e1 R1 h1 v r => ?_)
  split at h1
  · rename_i z ez
    exact ⟨z, vw_of R1 r ez, h1.ret R1 _ itd_str⟩
  · exact False.elim h1
end

/-! ### enumerate of a list, of a tuple -/
def IteT (K : Kf) (a : Addr) : It :=
  ⟨fun i H => ∃ (xs : List V) (x : V), SqT K H a xs ∧ xs[i]? = some x, fun i H v H' => ∃ T x, v = .ref T ∧ H T = none ∧ H' = upd H T (.tup [.int (i : Nat), x]) ∧ ∀ xs, SqT K H a xs → xs[i]? = some x, fun i H => ∃ xs : List V, SqT K H a xs ∧ xs.length ≤ i⟩
theorem turn_enumT {P : Program} {w : World} {K : PySem.W.Frag} {elts : List Expr} {kk : Nat} {tpos : Pos} (a e it : Addr) :
    Turn P w K (.Tuple elts kk tpos) (IteT K a) [e, it] e (fun i h => (∃ old, IsEnum h e it ((i : Nat) : Int) old) ∧ h.IsTupleIter it a i ∧ e ≠ it) where
  mem := by simp
  obj := fun i h st b hb => by
    obtain ⟨⟨old, he⟩, ⟨o, ho, hc, hd⟩, _⟩ := st
    have e' : b = e ∨ b = it := by simpa using hb
    rcases e' with z | z
    · rw [z]; exact ⟨_, he, fun v q => nomatch q⟩
    · rw [z]; exact ⟨o, ho, fun v q => by rw [hd] at q; cases q⟩
  keep := fun i h h' st k => let ⟨⟨old, he⟩, hi, hne⟩ := st; ⟨⟨old, k e (by simp) _ he⟩, hi.at fun o q => k it (by simp) o q, hne⟩
  item := by
    intro X hP hw hK hc i pins s σ H E I hf st hg
    subst hP hw hK
    obtain ⟨⟨old, he⟩, hit, hne⟩ := st
    obtain ⟨xs, x, hq, hx⟩ := hg
    obtain ⟨its, rv, p, hz⟩ := I.tuple hq
    obtain ⟨u, hu, ru⟩ := rv.get hx
    have hel : e < s.heap.objs.size := Heap.lt_size he
    have hil : it < s.heap.objs.size := by obtain ⟨_, q, _⟩ := hit; exact Heap.lt_size q
    have pt : s.heap.IsTuple a its.toArray := p
    have hai : a ≠ it := fun z => by
      obtain ⟨o1, q1, c1, _⟩ := pt
      obtain ⟨o2, q2, c2, _⟩ := hit
      rw [z, q2] at q1; cases q1
      rw [c2] at c1; exact absurd (Value.type.inj c1) (by decide)
    have hae : e ≠ a := fun z => by
      obtain ⟨o1, q1, c1, _⟩ := pt
      rw [← z] at q1
      rw [show s.heap.get? e = some _ from he] at q1
      cases q1; exact absurd (Value.type.inj c1) (by decide)
    have hlt : i < its.toArray.size := by
      have := (List.getElem?_eq_some_iff.mp hu).1
      simpa using this
    refine wpAny_pyNext_enum_itemD (Draws.tuple (prog := X.prog) (w := X.w) (A := X.A.in1) (I.ok.hd hc) it a hai its.toArray) he ⟨hit, pt⟩ hlt hne (by simp [hne, hae]) fun u' h' tk hPu ho hst' hT hsz hk => ?_
    have eu : u' = u := by
      have hPu' : its.toArray[i]? = some u' := hPu
      have : its[i]? = some u' := by simpa using hPu'
      rw [hu] at this; exact (Option.some.inj this).symm
    subst eu
    refine ⟨_, rfl, wpAny_letOwnedTupleGo_enum (s := { s with heap := h', toks := tk + 1 }) ho fun h'' he' sb => ?_⟩
    have hT2 : h''.get? s.heap.objs.size = some { cls := .type "tuple", data := .seq #[.int i tk, u'] } := (sb.2 _ (Nat.ne_of_gt hel)).trans hT
    have new : ObjOk X.prog X.w (upd H s.heap.objs.size (.tup [.int (i : Nat), x])) h'' s.heap.objs.size (.tup [.int (i : Nat), x]) :=
      ⟨by show 2 ≤ sizeLine; decide, [.int i tk, u'], .cons ⟨_, rfl⟩ (.cons ru .nil), ⟨_, hT2, rfl, _, rfl⟩⟩
    have I1 : Inv X pins σ (upd H s.heap.objs.size (.tup [.int (i : Nat), x])) { s with heap := h'', toks := tk + 1 } :=
      I.turnedNew (ch := [e, it]) (fun b ob hb q => (sb.2 b (fun z => hb (by simp [z]))).trans (hk b ob (fun z => hb (by simp [z])) (fun z => hb (by simp [z])) q)) hf (Nat.le_refl _) new
    refine ⟨.ref s.heap.objs.size, _, I1, rfl, ⟨_, x, rfl, I.hok.fresh (Nat.le_refl _), rfl, fun ys hy => by rw [I.tuple_inj hy hq]; exact hx⟩, ⟨⟨u', ?_⟩, hst'.1.at fun o q => (sb.2 it (Ne.symm hne)).trans q, hne⟩, fun b hb => ?_⟩
    · have e1 : ((i + 1 : Nat) : Int) = (i : Int) + 1 := by omega
      rw [e1]; exact he'
    · have hb' : b < s.heap.objs.size := by
        have e' : b = e ∨ b = it := by simpa using hb
        rcases e' with z | z
        · rw [z]; exact hel
        · rw [z]; exact hil
      rw [upd_ne (Nat.ne_of_lt hb')]
      exact (hf b hb).1
  done := by
    intro X hP hw hK hc i pins s σ H E I hf st hg
    subst hP hw hK
    obtain ⟨⟨old, he⟩, hit, hne⟩ := st
    obtain ⟨xs, hq, hx⟩ := hg
    obtain ⟨its, rv, p, hz⟩ := I.tuple hq
    have pt : s.heap.IsTuple a its.toArray := p
    have hai : a ≠ it := fun z => by
      obtain ⟨o1, q1, c1, _⟩ := pt
      obtain ⟨o2, q2, c2, _⟩ := hit
      rw [z, q2] at q1; cases q1
      rw [c2] at c1; exact absurd (Value.type.inj c1) (by decide)
    obtain ⟨f0, f1, f2, f3, f4, f5⟩ := hf it (by simp)
    have hl := rv.length
    have hT : s.TypeIs (.ref e) "enumerate" := ⟨_, he, rfl⟩
    unfold pyNext
    refine wpAny_bind (wpAny_attempt (wpAny_callSpecial?_slot (name := Str.ofString "__next__") hT F.slot_enumerate_next
      (wpAny_call_entry F.slot_enumerate_next hT F.entry_enumerate_next ?_ (F.args_enumerate_next_1 _))))
    show wpAny _ _ (field (.ref e) 2 >>= _) _ _ _
    refine wpAny_bind (wpAny_field he rfl (x := .ref it) rfl ?_)
    refine wpAny_bind (wpAny_nextOf_tuple_end (I.ok.hd hc) hit pt (by simp; omega) fun h' x he' hx' => ?_)
    obtain ⟨o, ho, hc'⟩ := hx'
    refine wpAny_bind (wpAny_isInstance (T := "StopIteration") (b := true) ⟨o, ho, hc'⟩ isSubtype_stop ?_)
    exact wpAny_pure ⟨rfl, I.turned (t' := s.toks) (fun b o hb q => he' b o hb q) f0 f1 f3 f4 f5⟩
  self := fun A i s Q E st h => let ⟨⟨_, he⟩, _⟩ := st; wpAny_pyIter_enum he h
open AutoSeq1 (wpAny_loadPart') in
theorem meets_enumerate_newTup (l : Addr) (items : Array Value) (n : Nat) (dct : Option Addr) (sl : Array (Option Value)) :
    Meets (Builtin.«enumerate.__new__» ⟨[.type "enumerate", .ref l], []⟩) (fun _ R s => s.heap.get? l = some { cls := .type "tuple", dict := dct, data := .seq items n, slots := sl } ∧
      R (.ok (.ret (.ref (s.heap.push { cls := .type "tuple_iterator", data := .fields #[.ref l, .int 0 0] }).objs.size)))
        { s with heap := (s.heap.push { cls := .type "tuple_iterator", data := .fields #[.ref l, .int 0 0] }).push { cls := .type "enumerate", data := .fields #[.none, .bool false, .ref s.heap.objs.size, rawInt 0, .none, .none] } }) :=
  .of_wp fun prog w A R s h => by
    obtain ⟨hp, g, d, tk, os⟩ := s; obtain ⟨hl, h⟩ := h
    have hsub := sub_enumerate
    have hL : Heap.IsTuple (Shared.heap ⟨hp, g, d, tk, os⟩) l items := ⟨_, hl, rfl, n, rfl⟩
    wp_walk using wpAny_loadPart' hl
    refine wpAny_stack_any fun st => wpAny_pure ?_
    split
    · rename_i c _ _ _ _ _
      cases (c == Value.type "enumerate")
      · wp_walk using wpAny_loadPart' hl, wpAny_pyIter_tuple hL
        exact ⟨_, rfl, h⟩
      · wp_walk using wpAny_loadPart' hl, wpAny_pyIter_tuple hL
        exact ⟨_, rfl, h⟩
    · wp_walk using wpAny_loadPart' hl, wpAny_pyIter_tuple hL
      exact ⟨_, rfl, h⟩
section
variable {prog : Program} {w : World} {A : Around} {E : Value → Shared → Prop} {s : Shared}
theorem call_enumerate_tup {l : Addr} {items : Array Value} {Q : Value → Shared → Prop} (hL : s.heap.IsTuple l items)
    (h : ∀ h', IsEnum h' (s.heap.objs.size + 1) s.heap.objs.size 0 .none → h'.IsTupleIter s.heap.objs.size l 0 → h'.objs.size = s.heap.objs.size + 2 →
      (∀ b o, s.heap.get? b = some o → h'.get? b = some o) → Q (.ref (s.heap.objs.size + 1)) { s with heap := h' }) :
    wpAny (model prog w) A (call (.type "enumerate") [.ref l]) Q E s := by
  obtain ⟨⟨c, dct, dt, sl⟩, hl, hc, n, hd⟩ := hL
  replace hc : c = .type "tuple" := hc
  replace hd : dt = .seq items n := hd
  subst hc hd
  refine callType_new F.called_enumerate (by decide) (F.typeCall_enumerate_1 _) (F.newCall_enumerate_1 _) (fun obj => F.args_object_init_2 obj _) F.entry_enumerate_new
    (meets_enumerate_newTup l items n dct sl) ⟨hl, ?_⟩
  have hz : (s.heap.push { cls := .type "tuple_iterator", data := .fields #[.ref l, .int 0 0] }).objs.size = s.heap.objs.size + 1 := Heap.size_push ..
  show _ ∧ _
  rw [hz]
  have he : IsEnum ((s.heap.push { cls := .type "tuple_iterator", data := .fields #[.ref l, .int 0 0] }).push
      { cls := .type "enumerate", data := .fields #[.none, .bool false, .ref s.heap.objs.size, rawInt 0, .none, .none] }) (s.heap.objs.size + 1) s.heap.objs.size 0 .none := by
    have := Heap.get?_push_size (s.heap.push { cls := .type "tuple_iterator", data := .fields #[.ref l, .int 0 0] })
      (o := { cls := .type "enumerate", data := .fields #[.none, .bool false, .ref s.heap.objs.size, rawInt 0, .none, .none] }) rfl
    rw [hz] at this; exact this
  refine ⟨⟨_, he, rfl⟩, h _ he ⟨_, Heap.get?_push_of_some _ (Heap.get?_push_size _ rfl), rfl, rfl⟩ (by rw [Heap.size_push, hz]) fun b o x => Heap.get?_push_of_some _ (Heap.get?_push_of_some _ x)⟩
end
def iEnumA (K : Kf) (ta : TA) : TI := fun σ H R => ta σ H fun vs H1 => (∃ a xs, vs = [.ref a] ∧ SqL K H1 a xs ∧ R (Ite K a) H1) ∨ ∃ a xs, vs = [.ref a] ∧ SqT K H1 a xs ∧ R (IteT K a) H1
open PySem.Spec PyProof.Rows in
theorem pi_enumA {X : Cx} {e : Expr} {ta : TA} {p pos tpos : Pos} {elts : List Expr} {kk : Nat} (hg : Gl X "enumerate") (hm : X.mg "enumerate" = none) (ha : PA X [e] ta) (hs : starEach [e] X.env = [(false, eval e X.env)] := by rfl) :
    PI X (.Tuple elts kk tpos) (.Call (.Name "enumerate" p) [e] [] pos) (iEnumA X.K ta) := by
  refine ⟨fun pins s σ H R I h => ?_⟩
  refine Call_ (ld_blt I hg hm boot_enumerate (PyProof.Rows.callWith_type1 (thn (ha.run pos pins s σ H _ I h) fun us s1 ⟨vs, H1, I1, r1, q1⟩ => ?_) hs rfl))
  have fin : ∀ b, b ∈ [s1.heap.objs.size + 1, s1.heap.objs.size] → FpOk X pins H1 b := fun b hb => by
    have e' : b = s1.heap.objs.size + 1 ∨ b = s1.heap.objs.size := by simpa using hb
    have hle : s1.heap.objs.size ≤ b := by
      rcases e' with z | z
      · rw [z]; exact Nat.le_add_right _ _
      · rw [z]; exact Nat.le_refl _
    exact I1.fpOk hle (I1.hok.fresh hle)
  rcases q1 with ⟨a, xs, ex, hq, q⟩ | ⟨a, xs, ex, hq, q⟩
  · subst ex
    cases r1 with
    | cons r rr =>
      cases rr
      cases r
      obtain ⟨its, rv, p', hz⟩ := I1.list hq
      refine call_enumerate_list p'.isList fun h' he hit hsz hk => wpAny_pyIter_enum he ?_
      have I2 : Inv X pins σ H1 { s1 with heap := h' } := I1.kept (t' := s1.toks) hk
      exact ⟨s1.heap.objs.size + 1, [s1.heap.objs.size + 1, s1.heap.objs.size], _, _, H1, rfl, I2, turn_enum a (s1.heap.objs.size + 1) s1.heap.objs.size, ⟨⟨.none, he⟩, hit, Nat.succ_ne_self _⟩, fin, q⟩
  · subst ex
    cases r1 with
    | cons r rr =>
      cases rr
      cases r
      obtain ⟨its, rv, p', hz⟩ := I1.tuple hq
      refine call_enumerate_tup (show s1.heap.IsTuple a its.toArray from p') fun h' he hit hsz hk => wpAny_pyIter_enum he ?_
      have I2 : Inv X pins σ H1 { s1 with heap := h' } := I1.kept (t' := s1.toks) hk
      exact ⟨s1.heap.objs.size + 1, [s1.heap.objs.size + 1, s1.heap.objs.size], _, _, H1, rfl, I2, turn_enumT a (s1.heap.objs.size + 1) s1.heap.objs.size, ⟨⟨.none, he⟩, hit, Nat.succ_ne_self _⟩, fin, q⟩
section
variable {K : Kf} {W : Wish}
def enumD : Nat → List D → List D
  | _, [] => []
  | n, d :: r => .tuple [.int (n : Nat), d] :: enumD (n + 1) r
theorem enumD_length : ∀ (n : Nat) (ds : List D), (enumD n ds).length = ds.length
  | _, [] => rfl
  | n, d :: r => by show (enumD (n + 1) r).length + 1 = r.length + 1; rw [enumD_length]
theorem enumD_get : ∀ (ds : List D) (n i : Nat), (enumD n ds)[i]? = (ds[i]?).map fun d => .tuple [.int ((n + i : Nat)), d]
  | [], n, i => by simp [enumD]
  | d :: r, n, 0 => by simp [enumD]
  | d :: r, n, i + 1 => by
    show (enumD (n + 1) r)[i]? = (r[i]?).map _
    rw [enumD_get r (n + 1) i]
    have : n + 1 + i = n + (i + 1) := by omega
    rw [this]
theorem dv_pair {G H : Hp} {T : Addr} {d e : D} {v w : V} (l : Le G H) (hT : H T = none) (h : Dv K G d v) (h' : Dv K G e w) : ∃ G', Al G H G' (upd H T (.tup [v, w])) ∧ Dv K G' (.tuple [d, e]) (.ref T) := by
  have al : Al G H (upd G T (.tup [v, w])) (upd H T (.tup [v, w])) := Al.one hT
  have ex := al.ex l
  exact ⟨_, al, dv_tup (.cons (Dv.ex ex _ h) (.cons (Dv.ex ex _ h') .nil)) upd_same⟩
theorem itd_enumL {G0 : Hp} {a : Addr} {vs : List V} {ds : List D} (s : SqL K G0 a vs) (h : DvAll K G0 ds vs) : ItD K (Ite K a) G0 (enumD 0 ds) := by
  intro G H e l i
  have s' : SqL K H a vs := sql_le l (sql_ex e s)
  have h' := DvAll.ex e _ h
  refine ⟨fun d hd => ?_, fun hl => ⟨vs, s', by rw [h.length]; rw [enumD_length] at hl; exact hl⟩⟩
  rw [enumD_get] at hd
  obtain ⟨d', hd', rfl⟩ := Option.map_eq_some_iff.mp hd
  obtain ⟨v, hv, q⟩ := h'.get hd'
  refine ⟨⟨vs, v, s', hv⟩, fun x H' y => ?_⟩
  obtain ⟨T, y', rfl, hT, rfl, y⟩ := y
  have := y vs s'
  rw [hv] at this; cases this
  rw [Nat.zero_add]
  exact dv_pair l hT dv_int q
theorem itd_enumT {G0 : Hp} {a : Addr} {vs : List V} {ds : List D} (s : G0 a = some (.tup vs)) (h : DvAll K G0 ds vs) : ItD K (IteT K a) G0 (enumD 0 ds) := by
  intro G H e l i
  have s' : SqT K H a vs := sqt_le l (sqt_ex e s)
  have h' := DvAll.ex e _ h
  refine ⟨fun d hd => ?_, fun hl => ⟨vs, s', by rw [h.length]; rw [enumD_length] at hl; exact hl⟩⟩
  rw [enumD_get] at hd
  obtain ⟨d', hd', rfl⟩ := Option.map_eq_some_iff.mp hd
  obtain ⟨v, hv, q⟩ := h'.get hd'
  refine ⟨⟨vs, v, s', hv⟩, fun x H' y => ?_⟩
  obtain ⟨T, y', rfl, hT, rfl, y⟩ := y
  have := y vs s'
  rw [hv] at this; cases this
  rw [Nat.zero_add]
  exact dv_pair l hT dv_int q
theorem vws_dvs {c : Cn} {G H : Hp} {ρ : Env} {σ : L2.St} (R : Rel K c G ρ σ H) {os : List Opd} {vs : List V} {d : D} (r : OReps K G σ os vs) (e : ims ρ os = some [d]) : ∃ v, vs = [v] ∧ Dv K G d v := by
  obtain ⟨v, r, rfl, h1, h2⟩ := (dvs_of R r e).cons_inv
  rw [h2.nil_inv]
  exact ⟨v, rfl, h1⟩
theorem vws_dvs2 {c : Cn} {G H : Hp} {ρ : Env} {σ : L2.St} (R : Rel K c G ρ σ H) {os : List Opd} {vs : List V} {d d' : D} (r : OReps K G σ os vs) (e : ims ρ os = some [d, d']) : ∃ v w, vs = [v, w] ∧ Dv K G d v ∧ Dv K G d' w := by
  obtain ⟨v, r, rfl, h1, h2⟩ := (dvs_of R r e).cons_inv
  obtain ⟨w, r, rfl, h3, h4⟩ := h2.cons_inv
  rw [h4.nil_inv]
  exact ⟨v, w, rfl, h1, h3⟩
def mEnum (fa : Md (List Opd)) : Md (List D) := Md.bind fa fun os ρ => match ims ρ os with
  | some [d] => (Md.opt (items d) ρ : Rs (List D)) |> fun r => match r with
    | .ok ds ρ => .ok (enumD 0 ds) ρ
    | _ => .stuck
  | _ => .stuck
theorem ei_enum {ta : TA} {fa : Md (List Opd)} (h : EvA K W ta fa) : EvI K W (iEnumA K ta) (mEnum fa) := by
  intro c G ρ σ H R Q q
  refine h c G ρ σ H R _ (q.bind.mono fun os ρ1 G1 H1 e1 R1 h1 vs r => ?_)
  split at h1
  · rename_i d eo
    obtain ⟨v, rfl, dv⟩ := vws_dvs R1 r eo
    cases d with
    | list es =>
      unfold Dv at dv
      obtain ⟨a, vs, rfl, s, q⟩ := dv
      exact .inl ⟨a, vs, rfl, sql_le R1.le s, h1.ret R1 _ (itd_enumL s q)⟩
    | tuple es =>
      unfold Dv at dv
      obtain ⟨a, vs, rfl, s, q⟩ := dv
      exact .inr ⟨a, vs, rfl, sqt_le R1.le s, h1.ret R1 _ (itd_enumT s q)⟩
    | _ => exact False.elim h1
  · exact False.elim h1
/-! zip of two lists, of two tuples -/
def zipD (as bs : List D) : List D := (as.zip bs).map fun p => .tuple [p.1, p.2]
theorem zipD_get {as bs : List D} {i : Nat} {d : D} (h : (zipD as bs)[i]? = some d) : ∃ a b, as[i]? = some a ∧ bs[i]? = some b ∧ d = .tuple [a, b] := by
  unfold zipD at h
  rw [List.getElem?_map] at h
  obtain ⟨p, hp, rfl⟩ := Option.map_eq_some_iff.mp h
  rw [List.getElem?_zip_eq_some] at hp
  exact ⟨p.1, p.2, hp.1, hp.2, rfl⟩
theorem itd_zipL {G0 : Hp} {a b : Addr} {vs ws : List V} {ds es : List D} (s : SqL K G0 a vs) (h : DvAll K G0 ds vs) (s2 : SqL K G0 b ws) (h2 : DvAll K G0 es ws) : ItD K (Itz K a b) G0 (zipD ds es) := by
  intro G H e l i
  have s' : SqL K H a vs := sql_le l (sql_ex e s)
  have h' := DvAll.ex e _ h
  have s2' : SqL K H b ws := sql_le l (sql_ex e s2)
  have h2' := DvAll.ex e _ h2
  refine ⟨fun d hd => ?_, fun hl => ⟨vs, ws, s', s2', ?_⟩⟩
  · obtain ⟨x, y, hx, hy, rfl⟩ := zipD_get hd
    obtain ⟨v, hv, q⟩ := h'.get hx
    obtain ⟨w, hw, q2⟩ := h2'.get hy
    refine ⟨⟨vs, ws, v, w, s', s2', hv, hw⟩, fun z H' y => ?_⟩
    obtain ⟨T, v', w', rfl, hT, rfl, y1, y2⟩ := y
    have e1 := y1 vs s'
    have e2 := y2 ws s2'
    rw [hv] at e1; cases e1
    rw [hw] at e2; cases e2
    exact dv_pair l hT q q2
  · rw [h.length, h2.length]
    unfold zipD at hl
    rw [List.length_map, List.length_zip] at hl
    omega
theorem itd_zipT {G0 : Hp} {a b : Addr} {vs ws : List V} {ds es : List D} (s : G0 a = some (.tup vs)) (h : DvAll K G0 ds vs) (s2 : G0 b = some (.tup ws)) (h2 : DvAll K G0 es ws) : ItD K (RZ.ItzT K a b) G0 (zipD ds es) := by
  intro G H e l i
  have s' : SqT K H a vs := sqt_le l (sqt_ex e s)
  have h' := DvAll.ex e _ h
  have s2' : SqT K H b ws := sqt_le l (sqt_ex e s2)
  have h2' := DvAll.ex e _ h2
  refine ⟨fun d hd => ?_, fun hl => ⟨vs, ws, s', s2', ?_⟩⟩
  · obtain ⟨x, y, hx, hy, rfl⟩ := zipD_get hd
    obtain ⟨v, hv, q⟩ := h'.get hx
    obtain ⟨w, hw, q2⟩ := h2'.get hy
    refine ⟨⟨vs, ws, v, w, s', s2', hv, hw⟩, fun z H' y => ?_⟩
    obtain ⟨T, v', w', rfl, hT, rfl, y1, y2⟩ := y
    have e1 := y1 vs s'
    have e2 := y2 ws s2'
    rw [hv] at e1; cases e1
    rw [hw] at e2; cases e2
    exact dv_pair l hT q q2
  · rw [h.length, h2.length]
    unfold zipD at hl
    rw [List.length_map, List.length_zip] at hl
    omega
def mZip (fa : Md (List Opd)) : Md (List D) := Md.bind fa fun os ρ => match ims ρ os with
  | some [.list ds, .list es] => .ok (zipD ds es) ρ
  | some [.tuple ds, .tuple es] => .ok (zipD ds es) ρ
  | _ => .stuck
theorem ei_zip {ta : TA} {fa : Md (List Opd)} (h : EvA K W ta fa) : EvI K W (RZ.iZipA K ta) (mZip fa) := by
  intro c G ρ σ H R Q q
  refine h c G ρ σ H R _ (q.bind.mono fun os ρ1 G1 H1 e1 R1 h1 vs r => ?_)
  split at h1
  · rename_i ds es eo
    obtain ⟨v, w, rfl, dv, dw⟩ := vws_dvs2 R1 r eo
    unfold Dv at dv dw
    obtain ⟨a, vs, rfl, s, q⟩ := dv
    obtain ⟨b, ws, rfl, s2, q2⟩ := dw
    exact ⟨a, b, vs, ws, rfl, .inl ⟨sql_le R1.le s, sql_le R1.le s2, h1.ret R1 _ (itd_zipL s q s2 q2)⟩⟩
  · rename_i ds es eo
    obtain ⟨v, w, rfl, dv, dw⟩ := vws_dvs2 R1 r eo
    unfold Dv at dv dw
    obtain ⟨a, vs, rfl, s, q⟩ := dv
    obtain ⟨b, ws, rfl, s2, q2⟩ := dw
    exact ⟨a, b, vs, ws, rfl, .inr ⟨sqt_le R1.le s, sqt_le R1.le s2, h1.ret R1 _ (itd_zipT s q s2 q2)⟩⟩
  · exact False.elim h1
end
end DV

set_option Elab.async false
set_option linter.all false
set_option maxRecDepth 100000
set_option maxHeartbeats 2000000
set_option autoImplicit false
/-! DvBlk: targets, statements, loops, comprehensions. -/
namespace DV
open PySem L2

/-! ### targets -/
/-- g stores d by tg, within the slots vs -/
def TgD (K : Kf) (vs : List Nat) (g : TG) (tg : D → Env → Option Env) : Prop := ∀ c G ρ σ H d v ρ', Rel K c G ρ σ H → Dv K G d v → tg d ρ = some ρ' → ∀ Q : St → Hp → Prop,
  (∀ σ', wipe σ' vs = wipe σ vs → Rel K c G ρ' σ' H → Q σ' H) → g v σ H Q
def TgsD (K : Kf) (vs : List Nat) (g : TGs) (tg : List D → Env → Option Env) : Prop := ∀ c G ρ σ H ds ws ρ', Rel K c G ρ σ H → DvAll K G ds ws → tg ds ρ = some ρ' → ∀ Q : St → Hp → Prop,
  (∀ σ', wipe σ' vs = wipe σ vs → Rel K c G ρ' σ' H → Q σ' H) → g ws σ H Q
theorem wipe_get {σ : St} {j : Nat} : ∀ {vs : List Nat}, (wipe σ vs)[j]? = if j ∈ vs ∧ j < σ.length then some none else σ[j]?
  | [] => by simp [wipe]
  | v :: vs => by
    unfold wipe
    by_cases h : v = j
    · subst h
      by_cases hl : v < σ.length
      · rw [List.getElem?_set_self (by rw [wipe_length]; exact hl), if_pos ⟨List.mem_cons_self, hl⟩]
      · rw [if_neg (fun z => hl z.2), List.getElem?_eq_none (by rw [List.length_set, wipe_length]; omega), List.getElem?_eq_none (by omega)]
    · rw [List.getElem?_set_ne h, wipe_get]
      have : (j ∈ v :: vs) ↔ j ∈ vs := ⟨fun z => (List.mem_cons.mp z).resolve_left (Ne.symm h), List.mem_cons_of_mem _⟩
      simp only [this]
theorem wipe_set {σ : St} {i : Nat} {x : Option V} {vs : List Nat} (h : i ∈ vs) : wipe (σ.set i x) vs = wipe σ vs := List.ext_getElem? fun j => by
  rw [wipe_get, wipe_get, List.length_set]
  by_cases hj : j ∈ vs
  · by_cases hl : j < σ.length
    · rw [if_pos ⟨hj, hl⟩, if_pos ⟨hj, hl⟩]
    · rw [if_neg (fun z => hl z.2), if_neg (fun z => hl z.2), List.getElem?_eq_none (by rw [List.length_set]; omega), List.getElem?_eq_none (by omega)]
  · rw [if_neg (fun z => hj z.1), if_neg (fun z => hj z.1), List.getElem?_set_ne (fun z => hj (by rw [← z]; exact h))]
def tN (i : Nat) (d : D) (ρ : Env) : Option Env := if canSet ρ i then some (ρ.set i (some (.imm d))) else none
theorem tg_name {K : Kf} {vs : List Nat} {i : Nat} (h : i ∈ vs := by decide) : TgD K vs (gName i) (tN i) := by
  intro c G ρ σ H d v ρ' R dv e Q q
  obtain ⟨hc, rfl⟩ := ifSome (show (if canSet ρ i = true then some (ρ.set i (some (.imm d))) else none) = some ρ' from e)
  exact q _ (wipe_set h) (R.setImm (R.canSet hc) dv)
def tsNil (ds : List D) (ρ : Env) : Option Env := match ds with
  | [] => some ρ
  | _ => none
def tsCons (t : D → Env → Option Env) (u : List D → Env → Option Env) (ds : List D) (ρ : Env) : Option Env := match ds with
  | d :: r => (t d ρ).bind (u r)
  | [] => none
theorem tgs_nil {K : Kf} {vs : List Nat} : TgsD K vs gNil tsNil := by
  intro c G ρ σ H ds ws ρ' R dv e Q q
  cases ds with
  | nil => cases e; exact ⟨dv.nil_inv, q σ rfl R⟩
  | cons d r => cases e
theorem tgs_cons {K : Kf} {vs : List Nat} {g : TG} {gs : TGs} {t : D → Env → Option Env} {u : List D → Env → Option Env} (h1 : TgD K vs g t) (h2 : TgsD K vs gs u) : TgsD K vs (gCons g gs) (tsCons t u) := by
  intro c G ρ σ H ds ws ρ' R dv e Q q
  cases ds with
  | nil => cases e
  | cons d r =>
    obtain ⟨v, r', rfl, q1, q2⟩ := dv.cons_inv
    obtain ⟨ρ1, e1, e2⟩ := Option.bind_eq_some_iff.mp (show (t d ρ).bind (u r) = some ρ' from e)
    refine ⟨v, r', rfl, h1 c G ρ σ H d v ρ1 R q1 e1 _ fun σ1 w1 R1 => ?_⟩
    exact h2 c G ρ1 σ1 H r r' ρ' R1 q2 e2 Q fun σ2 w2 R2 => q σ2 (w2.trans w1) R2
def tTupT (n : Nat) (t : List D → Env → Option Env) (d : D) (ρ : Env) : Option Env := match d with
  | .tuple ds => if ds.length = n then t ds ρ else none
  | _ => none
theorem tg_tup {K : Kf} {vs : List Nat} {gs : TGs} {t : List D → Env → Option Env} {n : Nat} (h : TgsD K vs gs t) : TgD K vs (gTup K n gs) (tTupT n t) := by
  intro c G ρ σ H d v ρ' R dv e Q q
  cases d with
  | tuple ds =>
    have e' : (if ds.length = n then t ds ρ else none) = some ρ' := e
    split at e'
    · rename_i hl
      unfold Dv at dv
      obtain ⟨a, ws, rfl, s, r⟩ := dv
      exact ⟨a, ws, rfl, sqt_le R.le s, by rw [r.length]; exact hl, h c G ρ σ H ds ws ρ' R r e' Q q⟩
    · cases e'
  | _ => cases e

/-! ### small statements -/
section
variable {K : Kf} {W : Wish}
def sNx : Md Fw := Md.ret .nx
def sSeq (f g : Md Fw) : Md Fw := Md.bind f fun x => match x with
  | .nx => g
  | y => Md.ret y
theorem st_next : StD K W tNext sNx := fun c G ρ σ H R D h => OutS.ret (P := fun fl _ σ' G' H' => Leave K c D fl σ' G' H') R h
theorem st_break : StD K W tBreak (Md.ret .br) := fun c G ρ σ H R D h => OutS.ret (P := fun fl _ σ' G' H' => Leave K c D fl σ' G' H') R h
theorem st_cont : StD K W tCont (Md.ret .ct) := fun c G ρ σ H R D h => OutS.ret (P := fun fl _ σ' G' H' => Leave K c D fl σ' G' H') R h
theorem st_seq {t u : TS} {f g : Md Fw} (h1 : StD K W t f) (h2 : StD K W u g) : StD K W (tSeq t u) (sSeq f g) := by
  intro c G ρ σ H R D h
  refine h1 c G ρ σ H R _ ?_
  unfold sSeq Md.bind at h
  cases e : f ρ with
  | ok fl ρ1 =>
    rw [e] at h
    intro σ1 G1 H1 e1 R1
    cases fl with
    | nx =>
      show u D σ1 H1
      exact h2 c G1 ρ1 σ1 H1 R1 D (OutS.weak e1 h)
    | br => exact h σ1 G1 H1 e1 R1
    | ct => exact h σ1 G1 H1 e1 R1
    | rt a => exact h σ1 G1 H1 e1 R1
  | raise x ρ1 => rw [e] at h; exact h
  | stuck => rw [e] at h; exact h
def sIf (t : Md Bool) (f g : Md Fw) : Md Fw := Md.bind t fun b => if b then f else g
theorem st_if {t : TT} {ft : Md Bool} {u v : TS} {f g : Md Fw} (h : EvT K W t ft) (h1 : StD K W u f) (h2 : StD K W v g) : StD K W (tIfS t u v) (sIf ft f g) := by
  intro c G ρ σ H R D q
  refine h c G ρ σ H R _ (Out.mono (OutS.bindE (σ := σ) q) fun b ρ1 G1 H1 e1 R1 h => ?_)
  cases b with
  | true =>
    rw [if_pos rfl] at h ⊢
    exact h1 c G1 ρ1 σ H1 R1 D h
  | false =>
    rw [if_neg Bool.false_ne_true] at h ⊢
    exact h2 c G1 ρ1 σ H1 R1 D h
def sDrop (f : Md Opd) : Md Fw := Md.bind f fun _ => sNx
theorem st_drop {t : TE} {f : Md Opd} (h : EvO K W t f) : StD K W (tDrop t) (sDrop f) := by
  intro c G ρ σ H R D q
  exact h c G ρ σ H R _ (Out.mono (OutS.bindE (σ := σ) q) fun o ρ1 G1 H1 e1 R1 h1 v r => OutS.ret (P := fun fl _ σ' G' H' => Leave K c D fl σ' G' H') R1 h1)
/-- return e: data, or a slot's own cell -/
def sRet (f : Md Opd) : Md Fw := Md.bind f fun o ρ => match o with
  | .dat d => .ok (.rt (.imm d)) ρ
  | .slot i => match ρ[i]? with
    | some (some (.imm d)) => .ok (.rt (.imm d)) ρ
    | some (some (.own false o)) => .ok (.rt (.own false o)) ρ
    | _ => .stuck
theorem st_ret {t : TE} {f : Md Opd} (h : EvO K W t f) : StD K W (tRet t) (sRet f) := by
  intro c G ρ σ H R D q
  refine h c G ρ σ H R _ (Out.mono (OutS.bindE (σ := σ) q) fun o ρ1 G1 H1 e1 R1 h1 v r => ?_)
  cases o with
  | dat d => exact OutS.ret (P := fun fl _ σ' G' H' => Leave K c D fl σ' G' H') R1 h1 v r
  | slot i =>
    simp only at h1
    split at h1
    · rename_i d e
      exact OutS.ret (P := fun fl _ σ' G' H' => Leave K c D fl σ' G' H') R1 h1 v (dv_of (o := .slot i) R1 r (by show (match ρ1[i]? with | some (some (.imm d)) => some d | _ => none) = some d; rw [e]))
    · rename_i o' e
      obtain ⟨p, ob, s, hp, rr, g, z⟩ := R1.own i false o' e
      have r' : σ[i]? = some (some v) := r
      rw [s] at r'; cases r'
      exact OutS.ret (P := fun fl _ σ' G' H' => Leave K c D fl σ' G' H') R1 h1 _ ⟨p, ob, rfl, hp, rr, g, z⟩
    · exact False.elim h1
def sRetN (f : Md Own) : Md Fw := Md.bind f fun o => Md.ret (.rt (.own false o))
theorem st_retN {t : TE} {f : Md Own} (h : EvN K W t f) : StD K W (tRet t) (sRetN f) := by
  intro c G ρ σ H R D q
  refine h c G ρ σ H R _ (Out.mono (OutS.bindE (σ := σ) q) fun o ρ1 G1 H1 e1 R1 h1 v r => ?_)
  obtain ⟨p, ob, rfl, hp, rr, g, z, kz, no⟩ := r
  exact OutS.ret (P := fun fl _ σ' G' H' => Leave K c D fl σ' G' H') R1 h1 _ ⟨p, ob, rfl, hp, rr, g, z⟩
def sRetNone : Md Fw := Md.ret (.rt (.imm .none))
theorem st_retNone : StD K W tRetN sRetNone := fun c G ρ σ H R D h => OutS.ret (P := fun fl _ σ' G' H' => Leave K c D fl σ' G' H') R h .non (show Dv K G .none .non from dv_non)
/-! stores to names -/
def sTg (tg : D → Env → Option Env) (f : Md Opd) : Md Fw := Md.bind f fun o ρ => match (im ρ o).bind fun d => tg d ρ with
  | some ρ' => .ok .nx ρ'
  | none => .stuck
theorem st_tg {t : TE} {f : Md Opd} {g : TG} {tg : D → Env → Option Env} {vs : List Nat} (h : EvO K W t f) (hg : TgD K vs g tg) : StD K W (tAsg t g) (sTg tg f) := by
  intro c G ρ σ H R D q
  refine h c G ρ σ H R _ (Out.mono (OutS.bindE (σ := σ) q) fun o ρ1 G1 H1 e1 R1 h1 v r => ?_)
  split at h1
  · rename_i ρ' e
    obtain ⟨d, ed, et⟩ := Option.bind_eq_some_iff.mp e
    exact hg c G1 ρ1 σ H1 d v ρ' R1 (dv_of R1 r ed) et _ fun σ' _ R2 => OutS.ret (P := fun fl _ σ' G' H' => Leave K c D fl σ' G' H') R2 h1
  · exact False.elim h1
def sSet (i : Nat) (f : Md Opd) : Md Fw := sTg (tN i) f
theorem st_set {t : TE} {f : Md Opd} {i : Nat} (h : EvO K W t f) : StD K W (tAsg t (gName i)) (sSet i f) := st_tg (vs := [i]) h (tg_name (by simp))
def sSetN (i : Nat) (f : Md Own) : Md Fw := Md.bind f fun o ρ => if canSet ρ i then .ok .nx (ρ.set i (some (.own false o))) else .stuck
theorem st_setN {t : TE} {f : Md Own} {i : Nat} (h : EvN K W t f) : StD K W (tAsg t (gName i)) (sSetN i f) := by
  intro c G ρ σ H R D q
  refine h c G ρ σ H R _ (Out.mono (OutS.bindE (σ := σ) q) fun o ρ1 G1 H1 e1 R1 h1 v r => ?_)
  split at h1
  · rename_i hc
    obtain ⟨p, ob, rfl, hp, rr, g, z, kz, no⟩ := r
    exact OutS.ret (P := fun fl _ σ' G' H' => Leave K c D fl σ' G' H') (R1.setOwn (R1.canSet hc) hp rr g z kz no) h1
  · exact False.elim h1
/-- x = y: y's cell goes over to x -/
def sMove (i j : Nat) : Md Fw := fun ρ => match ρ[j]? with
  | some (some (.own false o)) => if canSet ρ i && decide (i ≠ j) then .ok .nx ((ρ.set j none).set i (some (.own false o))) else .stuck
  | _ => .stuck
theorem st_move {i j : Nat} : StD K W (tAsg (tVar j) (gName i)) (sMove i j) := by
  intro c G ρ σ H R D q
  unfold sMove at q
  split at q
  · rename_i o e
    split at q
    · rename_i hc
      rw [Bool.and_eq_true, decide_eq_true_eq] at hc
      obtain ⟨p, ob, s, hp, rr, g, z⟩ := R.own j false o e
      refine ⟨_, s, ?_⟩
      have lj := (List.getElem?_eq_some_iff.mp e).1
      have R1 : Rel K c G (ρ.set j none) (σ.set j (some (.ref p))) H := R.drop (R.canSet (by unfold DV.canSet; rw [e]))
      have es : σ.set j (some (.ref p)) = σ := List.ext_getElem? fun k => by
        by_cases hk : j = k
        · subst hk; rw [List.getElem?_set_self (by rw [← R.len]; exact lj), s]
        · rw [List.getElem?_set_ne hk]
      rw [es] at R1
      have no : NotOwn (ρ.set j none) σ p := fun k b o' hk hs => by
        rcases get_set hk with ⟨rfl, q, hl⟩ | ⟨ne, q2⟩
        · cases q
        · exact ne (R.dis j k false o b o' p e q2 s hs)
      have kz : c.keep p = none := by
        cases ek : c.keep p with
        | none => rfl
        | some u => exact absurd s ((R.kp p u ek).2.2 j false o e)
      have hc2 : canSet (ρ.set j none) i = true := by
        have h1 := hc.1
        unfold DV.canSet at h1 ⊢
        rw [List.getElem?_set_ne (Ne.symm hc.2)]
        exact h1
      exact OutS.ret (P := fun fl _ σ' G' H' => Leave K c D fl σ' G' H') (R1.setOwn (R1.canSet hc2) hp rr g z kz no) q
    · exact False.elim q
  · exact False.elim q
/-- a slot's cell comes to stand still (no code) -/
def sFrz (i : Nat) (f : Md Fw) : Md Fw := fun ρ => match ρ[i]? with
  | some (some (.own false o)) => match ownD o with
    | some d => f (ρ.set i (some (.imm d)))
    | none => .stuck
  | some (some (.imm _)) => f ρ
  | _ => .stuck
theorem st_frz {t : TS} {f : Md Fw} {i : Nat} (h : StD K W t f) : StD K W t (sFrz i f) := by
  intro c G ρ σ H R D q
  unfold sFrz at q
  split at q
  · rename_i o e
    split at q
    · rename_i d ed
      obtain ⟨p, ob, s, g, R2, dv⟩ := R.frzSlot e ed
      exact h c _ _ σ H R2 D (OutS.weak (Ex.new g) q)
    · exact False.elim q
  · exact h c G ρ σ H R D q
  · exact False.elim q
end

/-! ### for -/
/-- over the data ds -/
def forL (tg : D → Env → Option Env) (body : Md Fw) : List D → Md Fw
  | [], ρ => .ok .nx ρ
  | d :: ds, ρ => match tg d ρ with
    | none => .stuck
    | some ρ1 => match body ρ1 with
      | .ok .nx ρ2 => forL tg body ds ρ2
      | .ok .ct ρ2 => forL tg body ds ρ2
      | .ok .br ρ2 => .ok .nx ρ2
      | .ok (.rt a) ρ2 => .ok (.rt a) ρ2
      | .raise e ρ2 => .raise e ρ2
      | .stuck => .stuck
def sFor (it : Md (List D)) (tg : D → Env → Option Env) (body : Md Fw) : Md Fw := Md.bind it fun ds => forL tg body ds
section
variable {K : Kf} {W : Wish}
/-- the iterator gives ds wherever the run stands -/
def ItR (K : Kf) (J : It) (c : Cn) (G0 : Hp) (ds : List D) : Prop := ∀ G ρ σ H, Ex G0 G → Rel K c G ρ σ H → ∀ i : Nat,
  (∀ d, ds[i]? = some d → J.go i H ∧ ∀ x H', J.yld i H x H' → ∃ G', Al G H G' H' ∧ Dv K G' d x) ∧ (ds.length ≤ i → J.stop i H)
theorem ItD.r {J : It} {c : Cn} {G0 : Hp} {ds : List D} (h : ItD K J G0 ds) : ItR K J c G0 ds := fun G ρ σ H e R i => h G H e R.le i
theorem for_core {c : Cn} {G1 H1 : Hp} {ρ1 : Env} {σ : St} {D : Ends} {J : It} {ds : List DV.D} {g : TG} {tb : TS} {tg : DV.D → Env → Option Env} {body : Md Fw} {vs : List Nat} (hJ : ItR K J c G1 ds) (hg : TgD K vs g tg) (hb : StD K W tb body) (R1 : Rel K c G1 ρ1 σ H1)
    (h1 : OutS K W c G1 (forL tg body ds ρ1) (fun fl _ σ' G' H' => Leave K c D fl σ' G' H')) :
    ∃ W : Nat → Nat → St → Hp → Prop, (∃ m, W 0 m σ H1) ∧ ∀ i m σ H, W i m σ H →
      (J.stop i H ∧ D.nx σ H) ∨ (J.go i H ∧ ∃ N : St → Hp → Prop, (∀ σ' H', N σ' H' → ∃ m', m' < m ∧ W (i + 1) m' σ' H') ∧ ∀ x H', J.yld i H x H' → g x σ H' fun σ2 H2 => tb { D with nx := N, ct := N, bk := D.nx } σ2 H2) := by
  let P : Fw → Env → St → Hp → Hp → Prop := fun fl _ σ' G' H' => Leave K c D fl σ' G' H'
  refine ⟨fun i m σ' H' => ∃ G' ρ', m = ds.length - i ∧ i ≤ ds.length ∧ Ex G1 G' ∧ Rel K c G' ρ' σ' H' ∧ OutS K W c G' (forL tg body (ds.drop i) ρ') P, ⟨ds.length, G1, ρ1, by omega, Nat.zero_le _, Ex.refl _, R1, by rw [List.drop_zero]; exact h1⟩, ?_⟩
  rintro i m σ2 H2 ⟨G2, ρ2, rfl, hi, ex2, R2, h2⟩
  obtain ⟨j1, j2⟩ := hJ G2 ρ2 σ2 H2 ex2 R2 i
  by_cases hl : i < ds.length
  · have hd : ds[i]? = some ds[i] := List.getElem?_eq_getElem hl
    obtain ⟨go, yl⟩ := j1 _ hd
    have ed : ds.drop i = ds[i] :: ds.drop (i + 1) := List.drop_eq_getElem_cons hl
    rw [ed] at h2
    refine .inr ⟨go, fun σ' H' => ∃ G' ρ', Ex G1 G' ∧ Rel K c G' ρ' σ' H' ∧ OutS K W c G' (forL tg body (ds.drop (i + 1)) ρ') P, fun σ' H' ⟨G', ρ', a, b, d⟩ => ⟨ds.length - (i + 1), by omega, G', ρ', rfl, hl, a, b, d⟩, fun x H3 hy => ?_⟩
    obtain ⟨G3, al, dv⟩ := yl x H3 hy
    obtain ⟨R3, ex3, _⟩ := Rel.al al R2
    unfold forL at h2
    split at h2
    · exact False.elim h2
    · rename_i ρ3 et
      refine hg c G3 ρ2 σ2 H3 _ x ρ3 R3 dv et _ fun σ3 _ R4 => ?_
      refine hb c G3 ρ3 σ3 H3 R4 _ ?_
      have ex13 := ex2.trans ex3
      cases eb : body ρ3 with
      | ok fl ρ4 =>
        rw [eb] at h2
        intro σ4 G4 H4 e4 R5
        have ex14 := ex13.trans e4
        cases fl with
        | nx => exact ⟨G4, ρ4, ex14, R5, OutS.weak (ex3.trans e4) h2⟩
        | ct => exact ⟨G4, ρ4, ex14, R5, OutS.weak (ex3.trans e4) h2⟩
        | br => exact h2 σ4 G4 H4 (ex3.trans e4) R5
        | rt a => exact h2 σ4 G4 H4 (ex3.trans e4) R5
      | raise x ρ4 =>
        rw [eb] at h2
        exact fun σ4 G4 H4 e4 R5 => h2 σ4 G4 H4 (ex3.trans e4) R5
      | stuck => rw [eb] at h2; exact h2
  · have e : i = ds.length := by omega
    subst e
    rw [List.drop_length] at h2
    exact .inl ⟨j2 (Nat.le_refl _), OutS.ret (P := P) R2 h2⟩
theorem st_for {wi : TI} {g : TG} {tb : TS} {fi : Md (List D)} {tg : D → Env → Option Env} {body : Md Fw} {vs : List Nat} (hi : EvI K W wi fi) (hg : TgD K vs g tg) (hb : StD K W tb body) : StD K W (tFor wi g tb) (sFor fi tg body) := by
  intro c G ρ σ H R D q
  refine hi c G ρ σ H R _ (Out.mono (OutS.bindE (σ := σ) q) fun ds ρ1 G1 H1 e1 R1 h1 J hJ => ?_)
  exact for_core hJ.r hg hb R1 h1
/-! while, at most n turns -/
def whileL (t : Md Bool) (body : Md Fw) : Nat → Md Fw
  | 0, _ => .stuck
  | n + 1, ρ => match t ρ with
    | .ok false ρ1 => .ok .nx ρ1
    | .ok true ρ1 => match body ρ1 with
      | .ok .nx ρ2 => whileL t body n ρ2
      | .ok .ct ρ2 => whileL t body n ρ2
      | .ok .br ρ2 => .ok .nx ρ2
      | .ok (.rt a) ρ2 => .ok (.rt a) ρ2
      | .raise e ρ2 => .raise e ρ2
      | .stuck => .stuck
    | .raise e ρ2 => .raise e ρ2
    | .stuck => .stuck
theorem st_while {t : TT} {ft : Md Bool} {tb : TS} {body : Md Fw} {n : Nat} (ht : EvT K W t ft) (hb : StD K W tb body) : StD K W (tWhile t tb) (whileL ft body n) := by
  intro c G ρ σ H R D q
  let P : Fw → Env → St → Hp → Hp → Prop := fun fl _ σ' G' H' => Leave K c D fl σ' G' H'
  refine ⟨fun m σ' H' => ∃ G' ρ', Ex G G' ∧ Rel K c G' ρ' σ' H' ∧ OutS K W c G' (whileL ft body m ρ') P, ⟨n, G, ρ, Ex.refl _, R, q⟩, ?_⟩
  rintro m σ1 H1 ⟨G1, ρ1, ex1, R1, h1⟩
  cases m with
  | zero => exact False.elim h1
  | succ m =>
    refine ht c G1 ρ1 σ1 H1 R1 _ ?_
    unfold whileL at h1
    cases et : ft ρ1 with
    | ok b ρ2 =>
      rw [et] at h1
      intro G2 H2 e2 R2
      cases b with
      | false =>
        rw [if_neg Bool.false_ne_true]
        exact h1 σ1 G2 H2 e2 R2
      | true =>
        rw [if_pos rfl]
        refine ⟨fun σ' H' => ∃ G' ρ', Ex G G' ∧ Rel K c G' ρ' σ' H' ∧ OutS K W c G' (whileL ft body m ρ') P, fun σ' H' ⟨G', ρ', a, b, d⟩ => ⟨m, Nat.lt_succ_self m, G', ρ', a, b, d⟩, ?_⟩
        refine hb c G2 ρ2 σ1 H2 R2 _ ?_
        dsimp only at h1
        cases eb : body ρ2 with
        | ok fl ρ4 =>
          rw [eb] at h1
          intro σ4 G4 H4 e4 R5
          have ex14 := (ex1.trans e2).trans e4
          cases fl with
          | nx => exact ⟨G4, ρ4, ex14, R5, OutS.weak (e2.trans e4) h1⟩
          | ct => exact ⟨G4, ρ4, ex14, R5, OutS.weak (e2.trans e4) h1⟩
          | br => exact h1 σ4 G4 H4 (e2.trans e4) R5
          | rt a => exact h1 σ4 G4 H4 (e2.trans e4) R5
        | raise x ρ4 =>
          rw [eb] at h1
          exact fun σ4 G4 H4 e4 R5 => h1 σ4 G4 H4 (e2.trans e4) R5
        | stuck => rw [eb] at h1; exact h1
    | raise x ρ2 =>
      rw [et] at h1
      exact fun G2 H2 e2 R2 => h1 σ1 G2 H2 e2 R2
    | stuck => rw [et] at h1; exact h1
end

/-! ### comprehensions -/
def wipeE (ρ : Env) : List Nat → Env
  | [] => ρ
  | v :: vs => (wipeE ρ vs).set v none
theorem wipeE_get {ρ : Env} {j : Nat} : ∀ {vs : List Nat}, (wipeE ρ vs)[j]? = if j ∈ vs ∧ j < ρ.length then some none else ρ[j]?
  | [] => by simp [wipeE]
  | v :: vs => by
    have hw : ∀ ws : List Nat, (wipeE ρ ws).length = ρ.length := fun ws => by
      induction ws with
      | nil => rfl
      | cons w ws ih => unfold wipeE; rw [List.length_set, ih]
    unfold wipeE
    by_cases h : v = j
    · subst h
      by_cases hl : v < ρ.length
      · rw [List.getElem?_set_self (by rw [hw]; exact hl), if_pos ⟨List.mem_cons_self, hl⟩]
      · rw [if_neg (fun z => hl z.2), List.getElem?_eq_none (by rw [List.length_set, hw]; omega), List.getElem?_eq_none (by omega)]
    · rw [List.getElem?_set_ne h, wipeE_get]
      have : (j ∈ v :: vs) ↔ j ∈ vs := ⟨fun z => (List.mem_cons.mp z).resolve_left (Ne.symm h), List.mem_cons_of_mem _⟩
      simp only [this]
/-- the slots vs of ρ stand in ρ' again -/
def backE (ρ : Env) (vs : List Nat) (ρ' : Env) : Env := match vs with
  | [] => ρ'
  | v :: vs => (backE ρ vs ρ').set v ((ρ[v]?).getD none)
theorem backE_len {ρ ρ' : Env} : ∀ {vs : List Nat}, (backE ρ vs ρ').length = ρ'.length
  | [] => rfl
  | v :: vs => by unfold backE; rw [List.length_set, backE_len]
theorem backE_get {ρ ρ' : Env} {j : Nat} : ∀ {vs : List Nat}, (backE ρ vs ρ')[j]? = if j ∈ vs ∧ j < ρ'.length then some ((ρ[j]?).getD none) else ρ'[j]?
  | [] => by simp [backE]
  | v :: vs => by
    unfold backE
    by_cases h : v = j
    · subst h
      by_cases hl : v < ρ'.length
      · rw [List.getElem?_set_self (by rw [backE_len]; exact hl), if_pos ⟨List.mem_cons_self, hl⟩]
      · rw [if_neg (fun z => hl z.2), List.getElem?_eq_none (by rw [List.length_set, backE_len]; omega), List.getElem?_eq_none (by omega)]
    · rw [List.getElem?_set_ne h, backE_get]
      have : (j ∈ v :: vs) ↔ j ∈ vs := ⟨fun z => (List.mem_cons.mp z).resolve_left (Ne.symm h), List.mem_cons_of_mem _⟩
      simp only [this]
/-- no cell stands there -/
def noOwn (ρ : Env) (i : Nat) : Bool := match ρ[i]? with
  | some (some (.own _ _)) => false
  | _ => true
section
variable {K : Kf} {c : Cn} {G G' H H' : Hp} {ρ ρ' : Env} {σ : St} {vs : List Nat}
theorem Rel.wipe (R : Rel K c G ρ σ H) (h : ∀ j ∈ vs, noOwn ρ j = true) : Rel K c G (wipeE ρ vs) (L2.wipe σ vs) H := by
  have hw : (wipeE ρ vs).length = ρ.length := by
    clear h
    induction vs with
    | nil => rfl
    | cons w ws ih => unfold wipeE; rw [List.length_set, ih]
  have away : ∀ {j : Nat} {a : A}, (wipeE ρ vs)[j]? = some (some a) → ρ[j]? = some (some a) ∧ (L2.wipe σ vs)[j]? = σ[j]? := fun {j a} e => by
    rw [wipeE_get] at e
    split at e
    · cases e
    · rename_i hj
      refine ⟨e, ?_⟩
      rw [wipe_get, if_neg (by rw [← R.len]; exact hj)]
  have own' : ∀ {j : Nat} {b o}, ρ[j]? = some (some (.own b o)) → (wipeE ρ vs)[j]? = some (some (.own b o)) ∧ (L2.wipe σ vs)[j]? = σ[j]? := fun {j b o} e => by
    have nj : j ∉ vs := fun z => by
      have := h j z
      unfold noOwn at this
      rw [e] at this; cases this
    exact ⟨by rw [wipeE_get, if_neg (fun z => nj z.1)]; exact e, by rw [wipe_get, if_neg (fun z => nj z.1)]⟩
  refine ⟨R.le, R.fr, R.g0, R.gnew, by rw [hw, wipe_length]; exact R.len, fun j d e => ?_, fun j b o e => ?_, fun i j b o b' o' p h1 h2 h3 h4 => ?_, fun j p e => ?_, fun p o e => ?_⟩
  · obtain ⟨e1, e2⟩ := away e
    rw [e2]; exact R.imm j d e1
  · obtain ⟨e1, e2⟩ := away e
    rw [e2]; exact R.own j b o e1
  · obtain ⟨e1, e2⟩ := away h1
    obtain ⟨e3, e4⟩ := away h2
    rw [e2] at h3; rw [e4] at h4
    exact R.dis i j b o b' o' p e1 e3 h3 h4
  · obtain ⟨s, o, r⟩ := R.pin j p e
    obtain ⟨e1, e2⟩ := own' r
    exact ⟨by rw [e2]; exact s, o, e1⟩
  · obtain ⟨k1, k2, k3⟩ := R.kp p o e
    refine ⟨k1, k2, fun j b o' hj hs => ?_⟩
    obtain ⟨e1, e2⟩ := away hj
    rw [e2] at hs
    exact k3 j b o' e1 hs
/-- behind the block the slots stand as they stood -/
theorem Rel.back (R : Rel K c G ρ σ H) (R' : Rel K c G' ρ' (L2.wipe σ vs) H') (ex : Ex G G') (h : ∀ j ∈ vs, noOwn ρ j = true) : Rel K c G' (backE ρ vs ρ') σ H' := by
  have hl : ρ'.length = ρ.length := by rw [R'.len, wipe_length, R.len]
  have cases' : ∀ {j : Nat} {a : A}, (backE ρ vs ρ')[j]? = some (some a) → (j ∈ vs ∧ ρ[j]? = some (some a)) ∨ (j ∉ vs ∧ ρ'[j]? = some (some a) ∧ (L2.wipe σ vs)[j]? = σ[j]?) := fun {j a} e => by
    rw [backE_get] at e
    split at e
    · rename_i hj
      refine .inl ⟨hj.1, ?_⟩
      have e' := Option.some.inj e
      cases q : ρ[j]? with
      | none => rw [q] at e'; cases e'
      | some x => rw [q] at e'; have e'' : x = some a := e'; rw [e'']
    · rename_i hj
      have nj : j ∉ vs := fun z => hj ⟨z, (List.getElem?_eq_some_iff.mp e).1⟩
      exact .inr ⟨nj, e, by rw [wipe_get, if_neg (fun z => nj z.1)]⟩
  have own' : ∀ {j : Nat} {b o}, (backE ρ vs ρ')[j]? = some (some (.own b o)) → ρ'[j]? = some (some (.own b o)) ∧ (L2.wipe σ vs)[j]? = σ[j]? := fun {j b o} e => by
    rcases cases' e with ⟨hj, e⟩ | ⟨_, e, s⟩
    · have := h j hj
      unfold noOwn at this
      rw [e] at this; cases this
    · exact ⟨e, s⟩
  refine ⟨R'.le, R'.fr, R'.g0, R'.gnew, by rw [backE_len, hl]; exact R.len, fun j d e => ?_, fun j b o e => ?_, fun i j b o b' o' p h1 h2 h3 h4 => ?_, fun j p e => ?_, fun p o e => ?_⟩
  · rcases cases' e with ⟨hj, e⟩ | ⟨_, e, s⟩
    · obtain ⟨v, s, q⟩ := R.imm j d e
      exact ⟨v, s, q.ex ex⟩
    · rw [← s]; exact R'.imm j d e
  · obtain ⟨e1, s⟩ := own' e
    rw [← s]; exact R'.own j b o e1
  · obtain ⟨e1, s1⟩ := own' h1
    obtain ⟨e2, s2⟩ := own' h2
    rw [← s1] at h3; rw [← s2] at h4
    exact R'.dis i j b o b' o' p e1 e2 h3 h4
  · obtain ⟨s, o, r⟩ := R'.pin j p e
    have nj : j ∉ vs := fun z => by
      have lj := (List.getElem?_eq_some_iff.mp r).1
      rw [wipe_get, if_pos ⟨z, by rw [← R.len, ← hl]; exact lj⟩] at s
      cases s
    refine ⟨by rw [wipe_get, if_neg (fun z => nj z.1)] at s; exact s, o, ?_⟩
    rw [backE_get, if_neg (fun z => nj z.1)]; exact r
  · obtain ⟨k1, k2, k3⟩ := R'.kp p o e
    refine ⟨k1, k2, fun j b o' hj hs => ?_⟩
    obtain ⟨e1, s1⟩ := own' hj
    rw [← s1] at hs
    exact k3 j b o' e1 hs
end

section
variable {K : Kf} {W : Wish}
/-- the turns of a comprehension -/
def lcL (vs : List Nat) (tg : D → Env → Option Env) (test : Md Bool) (elt : Md Opd) : List D → List D → Md (List D)
  | [], acc, ρ => .ok acc ρ
  | d :: ds, acc, ρ => match tg d ρ with
    | none => .stuck
    | some ρ1 => match test ρ1 with
      | .ok false ρ2 => if vs.all (noOwn ρ2) then lcL vs tg test elt ds acc (wipeE ρ2 vs) else .stuck
      | .ok true ρ2 => match elt ρ2 with
        | .ok o ρ3 => match im ρ3 o with
          | some e => if acc.length < lim ∧ vs.all (noOwn ρ3) = true then lcL vs tg test elt ds (acc ++ [e]) (wipeE ρ3 vs) else .stuck
          | none => .stuck
        | _ => .stuck
      | _ => .stuck
def mLc (vs : List Nat) (it : Md (List D)) (tg : D → Env → Option Env) (test : Md Bool) (elt : Md Opd) : Md Own := Md.bind it fun ds ρ =>
  if vs.all (noOwn ρ) then match lcL vs tg test elt ds [] (wipeE ρ vs) with
    | .ok acc ρ' => .ok (.lst acc) (backE ρ vs ρ')
    | _ => .stuck
  else .stuck
theorem et_yes : EvT K W tYes (Md.ret true) := fun c G ρ σ H R Q h => h.ret R
/-- one thing more is laid aside -/
def Cn.with (c : Cn) (p : Addr) (o : HO) : Cn := { c with keep := upd c.keep p o }
theorem Rel.with {c : Cn} {G H : Hp} {ρ : Env} {σ : St} (R : Rel K c G ρ σ H) {p : Addr} {o : HO} (h : H p = some o) (hg : KOk G p o) (no : NotOwn ρ σ p) : Rel K (c.with p o) G ρ σ H := by
  refine ⟨R.le, R.fr, R.g0, R.gnew, R.len, R.imm, R.own, R.dis, R.pin, fun a u e => ?_⟩
  have e' : upd c.keep p o a = some u := e
  by_cases q : a = p
  · subst q; rw [upd_same] at e'; cases e'; exact ⟨h, hg, no⟩
  · rw [upd_ne q] at e'; exact R.kp a u e'
theorem Rel.unwith {c : Cn} {G H : Hp} {ρ : Env} {σ : St} {p : Addr} {o : HO} (R : Rel K (c.with p o) G ρ σ H) (hk : c.keep p = none) : Rel K c G ρ σ H ∧ H p = some o ∧ KOk G p o ∧ NotOwn ρ σ p := by
  refine ⟨⟨R.le, R.fr, R.g0, R.gnew, R.len, R.imm, R.own, R.dis, R.pin, fun a u e => R.kp a u ?_⟩, R.kp p o (by show upd c.keep p o p = some o; exact upd_same)⟩
  show upd c.keep p o a = some u
  rw [upd_ne (ne_of_none e hk)]; exact e
/-- the thing laid aside changes -/
theorem Rel.aside {c : Cn} {G H : Hp} {ρ : Env} {σ : St} (R : Rel K c G ρ σ H) {p : Addr} {ob : HO} (hg : G p = none) (h0 : c.H0 p = none) (hk : c.keep p = none) (no : NotOwn ρ σ p) : Rel K c G ρ σ (upd H p ob) := by
  refine ⟨R.le.mut hg, fun a o e f => ?_, R.g0, R.gnew, R.len, R.imm, fun i b o e => ?_, R.dis, R.pin, fun a o e => ?_⟩
  · rw [upd_ne (ne_of_none e h0)]; exact R.fr a o e f
  · obtain ⟨a, ob', s, ha, q, g, z⟩ := R.own i b o e
    have ne : a ≠ p := fun z => no i b o e (by rw [← z]; exact s)
    exact ⟨a, ob', s, by rw [upd_ne ne]; exact ha, q, g, z⟩
  · obtain ⟨k1, k2, k3⟩ := R.kp a o e
    exact ⟨by rw [upd_ne (ne_of_none e hk)]; exact k1, k2, k3⟩
theorem noOwn_wipe {ρ : Env} {vs : List Nat} : ∀ j ∈ vs, noOwn (wipeE ρ vs) j = true := fun j hj => by
  unfold noOwn
  rw [wipeE_get]
  by_cases h : j < ρ.length
  · rw [if_pos ⟨hj, h⟩]
  · rw [if_neg (fun z => h z.2), List.getElem?_eq_none (by omega)]
theorem NotOwn.wipe {ρ : Env} {σ : St} {p : Addr} {vs : List Nat} (hl : ρ.length = σ.length) (no : NotOwn ρ σ p) : NotOwn (wipeE ρ vs) (L2.wipe σ vs) p := fun j b o hj hs => by
  rw [wipeE_get] at hj
  split at hj
  · cases hj
  · rename_i h
    rw [wipe_get, if_neg (by rw [← hl]; exact h)] at hs
    exact no j b o hj hs
theorem wipe_wipe {σ : St} {vs : List Nat} : L2.wipe (L2.wipe σ vs) vs = L2.wipe σ vs := List.ext_getElem? fun j => by
  rw [wipe_get, wipe_get, wipe_length]
  split <;> rfl
/-- a comprehension's run over ds (lcL's answer is accF, ρF) -/
theorem lc_core {c : Cn} {G1 H1 : Hp} {ρ1 : Env} {σ : St} {J : It} {ds : List D} {g : TG} {tt : TT} {te : TE} {vs : List Nat} {tg : D → Env → Option Env} {test : Md Bool} {elt : Md Opd} {Q : VK}
    (hJ : ItR K J c G1 ds) (hg : TgD K vs g tg) (ht : EvT K V0 tt test) (he : EvO K V0 te elt) (R1 : Rel K c G1 ρ1 σ H1) (hv : ∀ j ∈ vs, noOwn ρ1 j = true) {accF : List D} {ρF : Env} (eF : lcL vs tg test elt ds [] (wipeE ρ1 vs) = .ok accF ρF)
    (h1 : ∀ G' H', Ex G1 G' → Rel K c G' (backE ρ1 vs ρF) σ H' → ∀ v, NRep K c G' (backE ρ1 vs ρF) σ H' (.lst accF) v → Q v H') {p : Addr} (hp : H1 p = none) :
    ∃ W : Nat → Nat → Hp → Prop, (∃ m, W 0 m (upd H1 p (.lst []))) ∧ ∀ i m H, W i m H →
      (J.stop i H ∧ Q (.ref p) H) ∨ (J.go i H ∧ ∃ Nx : Hp → Prop, (∀ H', Nx H' → ∃ m', m' < m ∧ W (i + 1) m' H') ∧ ∀ x H', J.yld i H x H' → g x (L2.wipe σ vs) H' fun σ2 H2 => L2.wipe σ2 vs = L2.wipe σ vs ∧ tt σ2 H2 fun b H3 =>
        if b = true then te σ2 H3 fun y H4 => ∃ acc, H4 p = some (.lst acc) ∧ acc.length < sizeLine ∧ Nx (upd H4 p (.lst (acc ++ [y]))) else Nx H3) := by
  have hgp := R1.gh hp
  have h0p := R1.h0 hp
  have hkp := R1.k0 hp
  have nop := R1.notOwn hp
  have R0 : Rel K c G1 ρ1 σ (upd H1 p (.lst [])) := R1.side hp
  refine ⟨fun i m H' => ∃ G' ρ' acc vacc, m = ds.length - i ∧ i ≤ ds.length ∧ Ex G1 G' ∧ Rel K c G' ρ' (L2.wipe σ vs) H' ∧ (∀ j ∈ vs, noOwn ρ' j = true) ∧ H' p = some (.lst vacc) ∧ DvAll K G' acc vacc ∧ G' p = none ∧ NotOwn ρ' (L2.wipe σ vs) p ∧ lcL vs tg test elt (ds.drop i) acc ρ' = .ok accF ρF,
    ⟨ds.length, G1, wipeE ρ1 vs, [], [], by omega, Nat.zero_le _, Ex.refl _, R0.wipe hv, noOwn_wipe, upd_same, .nil, hgp, NotOwn.wipe R1.len nop, by rw [List.drop_zero]; exact eF⟩, ?_⟩
  rintro i m H2 ⟨G2, ρ2, acc, vacc, rfl, hi, ex2, R2, nw, hpv, dv2, hg2, no2, h2⟩
  obtain ⟨j1, j2⟩ := hJ G2 ρ2 _ H2 ex2 R2 i
  by_cases hl : i < ds.length
  · have hd : ds[i]? = some ds[i] := List.getElem?_eq_getElem hl
    obtain ⟨go, yl⟩ := j1 _ hd
    have ed : ds.drop i = ds[i] :: ds.drop (i + 1) := List.drop_eq_getElem_cons hl
    rw [ed] at h2
    refine .inr ⟨go, fun H' => ∃ G' ρ' acc vacc, Ex G1 G' ∧ Rel K c G' ρ' (L2.wipe σ vs) H' ∧ (∀ j ∈ vs, noOwn ρ' j = true) ∧ H' p = some (.lst vacc) ∧ DvAll K G' acc vacc ∧ G' p = none ∧ NotOwn ρ' (L2.wipe σ vs) p ∧ lcL vs tg test elt (ds.drop (i + 1)) acc ρ' = .ok accF ρF,
      fun H' ⟨G', ρ', a, b, r⟩ => ⟨ds.length - (i + 1), by omega, G', ρ', a, b, rfl, hl, r⟩, fun x H3 hy => ?_⟩
    obtain ⟨G3, al, dvx⟩ := yl x H3 hy
    have R2' : Rel K (c.with p (.lst vacc)) G2 ρ2 (L2.wipe σ vs) H2 := R2.with hpv (.inl hg2) no2
    obtain ⟨R3, ex3, _⟩ := Rel.al al R2'
    unfold lcL at h2
    split at h2
    · cases h2
    · rename_i ρ3 et
      refine hg _ G3 ρ2 _ H3 _ x ρ3 R3 dvx et _ fun σ3 w3 R4 => ⟨by rw [w3]; exact wipe_wipe, ?_⟩
      refine ht _ G3 ρ3 σ3 H3 R4 _ ?_
      -- behind the turn
      have fin : ∀ {G5 H5 : Hp} {ρ5 : Env} {acc' : List D} {vacc' : List V}, Ex G3 G5 → Rel K c G5 ρ5 σ3 H5 → NotOwn ρ5 σ3 p → (wipeE ρ5 vs = wipeE ρ5 vs) → (∀ j ∈ vs, noOwn ρ5 j = true) → H5 p = some (.lst vacc') → DvAll K G5 acc' vacc' → G5 p = none →
          lcL vs tg test elt (ds.drop (i + 1)) acc' (wipeE ρ5 vs) = .ok accF ρF →
          ∃ G' ρ' acc vacc, Ex G1 G' ∧ Rel K c G' ρ' (L2.wipe σ vs) H5 ∧ (∀ j ∈ vs, noOwn ρ' j = true) ∧ H5 p = some (.lst vacc) ∧ DvAll K G' acc vacc ∧ G' p = none ∧ NotOwn ρ' (L2.wipe σ vs) p ∧ lcL vs tg test elt (ds.drop (i + 1)) acc ρ' = .ok accF ρF := by
        intro G5 H5 ρ5 acc' vacc' ex5 R5 no5 _ nw5 hp5 dv5 hg5 h5
        refine ⟨G5, wipeE ρ5 vs, acc', vacc', (ex2.trans ex3).trans ex5, ?_, noOwn_wipe, hp5, dv5, hg5, ?_, h5⟩
        · have := R5.wipe nw5
          rw [w3, wipe_wipe] at this
          exact this
        · have := NotOwn.wipe (vs := vs) R5.len no5
          rw [w3, wipe_wipe] at this
          exact this
      have inv : ∀ {G5 H5 : Hp} {ρ5 : Env}, Rel K (c.with p (.lst vacc)) G5 ρ5 σ3 H5 → Rel K c G5 ρ5 σ3 H5 ∧ H5 p = some (.lst vacc) ∧ G5 p = none ∧ NotOwn ρ5 σ3 p := fun R5 => by
        obtain ⟨a1, a2, a3, a4⟩ := R5.unwith hkp
        refine ⟨a1, a2, ?_, a4⟩
        rcases a3 with a3 | ⟨_, _, a3, _⟩
        · exact a3
        · cases a3
      cases e4 : test ρ3 with
      | ok b ρ4 =>
        rw [e4] at h2
        intro G4 H4 x4 R5
        cases b with
        | false =>
          rw [if_neg Bool.false_ne_true]
          obtain ⟨Rc, hp4, hg4, no4⟩ := inv R5
          dsimp only at h2
          split at h2
          case isFalse => cases h2
          rename_i hnw
          have nw5 : ∀ j ∈ vs, noOwn ρ4 j = true := List.all_eq_true.mp hnw
          exact fin x4 Rc no4 rfl nw5 hp4 (DvAll.ex (ex3.trans x4) _ dv2) hg4 h2
        | true =>
          rw [if_pos rfl]
          dsimp only at h2
          refine he _ G4 ρ4 σ3 H4 R5 _ ?_
          cases e5 : elt ρ4 with
          | ok o ρ5 =>
            rw [e5] at h2
            dsimp only at h2
            intro G5 H5 x5 R6 v rv
            split at h2
            · rename_i e ee
              split at h2
              · rename_i hlen
                obtain ⟨Rc, hp5, hg5, no5⟩ := inv R6
                have nw5 : ∀ j ∈ vs, noOwn ρ5 j = true := List.all_eq_true.mp hlen.2
                have dvacc := DvAll.ex ((ex3.trans x4).trans x5) _ dv2
                refine ⟨vacc, hp5, by rw [dvacc.length]; exact lim_lt hlen.1, ?_⟩
                exact fin (x4.trans x5) (Rc.aside hg5 h0p hkp no5) no5 rfl nw5 upd_same (dvacc.append (.cons (dv_of R6 rv ee) .nil)) hg5 h2
              · cases h2
            · cases h2
          | raise z ρ5 => rw [e5] at h2; cases h2
          | stuck => rw [e5] at h2; cases h2
      | raise z ρ4 => rw [e4] at h2; cases h2
      | stuck => rw [e4] at h2; cases h2
  · have e : i = ds.length := by omega
    subst e
    rw [List.drop_length] at h2
    have h2' : (Rs.ok acc ρ2 : Rs (List D)) = .ok accF ρF := h2
    cases h2'
    refine .inl ⟨j2 (Nat.le_refl _), h1 G2 H2 ex2 (R1.back R2 ex2 hv) _ ⟨p, .lst vacc, rfl, hpv, ⟨vacc, rfl, dv2⟩, hg2, h0p, hkp, ?_⟩⟩
    intro j b o hj hs
    rw [backE_get] at hj
    split at hj
    · rename_i hj2
      have hn := hv j hj2.1
      unfold noOwn at hn
      cases q : ρ1[j]? with
      | none => rw [q] at hj; cases hj
      | some y =>
        rw [q] at hj
        have : y = some (.own b o) := Option.some.inj hj
        rw [q, this] at hn; cases hn
    · rename_i hj2
      have nj : j ∉ vs := fun z => hj2 ⟨z, (List.getElem?_eq_some_iff.mp hj).1⟩
      exact no2 j b o hj (by rw [wipe_get, if_neg (fun z => nj z.1)]; exact hs)

theorem en_lc {wi : TI} {g : TG} {tt : TT} {te : TE} {vs : List Nat} {fi : Md (List D)} {tg : D → Env → Option Env} {test : Md Bool} {elt : Md Opd}
    (hi : EvI K W wi fi) (hg : TgD K vs g tg) (ht : EvT K V0 tt test) (he : EvO K V0 te elt) : EvN K W (tLc wi g tt te vs) (mLc vs fi tg test elt) := by
  intro c G ρ σ H R Q q
  refine hi c G ρ σ H R _ (q.bind.mono fun ds ρ1 G1 H1 e1 R1 h1 J hJ p hp => ?_)
  split at h1
  · rename_i hv
    rw [List.all_eq_true] at hv
    split at h1
    · rename_i accF ρF eF
      exact lc_core hJ.r hg ht he R1 hv eF h1 hp
    · exact False.elim h1
  · exact False.elim h1
end
end DV

set_option Elab.async false
set_option linter.all false
set_option maxRecDepth 100000
set_option maxHeartbeats 2000000
set_option autoImplicit false
/-! DvFn: defs and their calls. -/
namespace DV
open PySem L2

def startE (n : Nat) (as : List A) : Env := as.map some ++ List.replicate (n - as.length) none
/-- what a caller gets back of a def's slots: the cells it lent -/
def keepA (np i : Nat) (a : Option A) : Option A := if i < np then match a with
  | some (.own b o) => some (.own b o)
  | _ => none
  else none
def keepO (np : Nat) (ρ : Env) : Env := ρ.mapIdx (keepA np)
/-- a def's run: n names, its body -/
def runFn (n : Nat) (body : Md Fw) (as : List A) : Rs A := match body (startE n as) with
  | .ok (.rt a) ρ => .ok a (keepO as.length ρ)
  | .ok .nx ρ => .ok (.imm .none) (keepO as.length ρ)
  | .ok _ _ => .stuck
  | .raise e ρ => .raise e ρ
  | .stuck => .stuck
/-- what a def promises that raises nothing: n parameters, k names -/
def spOf (K : Kf) (n k : Nat) (m : List A → Rs A) : Sp := fun vs H Q _ => vs.length = n ∧ ∃ (c : Cn) (G : Hp) (as : List A), c.H0 = H ∧ c.G0 = G ∧
  Rel K c G (startE k as) (vs.map some ++ List.replicate (k - vs.length) none) H ∧
  Sat (m as) (fun a ρ' => ∀ v σ' G' H', Ex G G' → Rel K c G' ρ' σ' H' → RRep K c G' H' a v → Q v H') fun _ _ => False
theorem keepO_get {np : Nat} {ρ : Env} {i : Nat} {a : A} (h : (keepO np ρ)[i]? = some (some a)) : ρ[i]? = some (some a) ∧ ∃ b o, a = .own b o := by
  unfold keepO at h
  rw [List.getElem?_mapIdx] at h
  cases e : ρ[i]? with
  | none => rw [e] at h; cases h
  | some x =>
    rw [e] at h
    have h : keepA np i x = some a := Option.some.inj h
    unfold keepA at h
    split at h
    · split at h
      · cases h; exact ⟨rfl, _, _, rfl⟩
      · cases h
    · cases h
theorem keepO_own {np : Nat} {ρ : Env} {i : Nat} {b : Bool} {o : Own} (hi : i < np) (h : ρ[i]? = some (some (.own b o))) : (keepO np ρ)[i]? = some (some (.own b o)) := by
  unfold keepO
  rw [List.getElem?_mapIdx, h]
  show some (keepA np i (some (.own b o))) = _
  unfold keepA
  rw [if_pos hi]
theorem Rel.keepO {K : Kf} {c : Cn} {G H : Hp} {ρ : Env} {σ : St} {np : Nat} (R : Rel K c G ρ σ H) (hp : ∀ (j : Nat) p, c.pins[j]? = some (some p) → j < np) : Rel K c G (keepO np ρ) σ H := by
  refine ⟨R.le, R.fr, R.g0, R.gnew, ?_, fun j e hj => ?_, fun j b2 o2 hj => ?_, fun j k b1 o1 b2 o2 p2 h1 h2 h3 h4 => ?_, fun j p hj => ?_, fun a u e => ?_⟩
  · unfold DV.keepO; rw [List.length_mapIdx]; exact R.len
  · obtain ⟨_, _, _, q⟩ := keepO_get hj; cases q
  · exact R.own j b2 o2 (keepO_get hj).1
  · exact R.dis j k b1 o1 b2 o2 p2 (keepO_get h1).1 (keepO_get h2).1 h3 h4
  · obtain ⟨s, o, q⟩ := R.pin j p hj
    exact ⟨s, o, keepO_own (hp j p hj) q⟩
  · obtain ⟨k1, k2, k3⟩ := R.kp a u e
    exact ⟨k1, k2, fun j b o hj hs => k3 j b o (keepO_get hj).1 hs⟩
theorem startE_lt {n : Nat} {as : List A} {i : Nat} {a : A} (h : (startE n as)[i]? = some (some a)) : i < as.length := by
  unfold startE at h
  by_cases hl : i < as.length
  · exact hl
  · rw [List.getElem?_append_right (by simpa using hl), List.getElem?_replicate] at h
    split at h <;> cases h
section
variable {P : Program} {w : World} {K : PySem.W.Frag} {mg : Str → Option Value} {base : Heap}
theorem fn_ok {x qual : Str} {st : Stmt} {f : Addr} {fd : FuncData} {N ps : List Str} {k : Nat} {body : Md Fw} (F : Fun K x qual st f fd) (S : FnScope N ps (defScope st))
    (hb : ∀ (cdv : Value) (A : Around) (out : List PySem.Env) (s : Shared) (H : Hp) (E : XK), Room k (A.deeper (PyProof.Rows.envOfC qual (defScope st) s.heap.objs.size f cdv)) →
      ∃ t, PSs (cxOf CX0 P w K mg base N qual (defScope st) f cdv A out s H E).nox (defBody st) t ∧ StD K V0 t body) :
    FnOk P w K mg base CX0 (k + 1) f fd ps (spOf K ps.length N.length (runFn N.length body)) := by
  refine F.ok S (fun vs H Q E h => h.1) (fun cdv A outer s H vs Q E hr h => ?_)
  obtain ⟨t, pt, ht⟩ := hb cdv A outer s H E hr
  refine ⟨t, pt, ?_⟩
  obtain ⟨hl, c, G, as, hH, hG, R, sat⟩ := h
  refine ht c G _ _ H R _ ?_
  have pl : ∀ (j : Nat) p, c.pins[j]? = some (some p) → j < as.length := fun j p e => by
    obtain ⟨_, o, q⟩ := R.pin j p e
    exact startE_lt q
  unfold runFn at sat
  cases e : body (startE N.length as) with
  | ok fl ρ' =>
    rw [e] at sat
    intro σ' G' H' ex R'
    cases fl with
    | nx => exact sat .non σ' G' H' ex (R'.keepO pl) (show Dv K G' .none .non from dv_non)
    | rt a => exact fun v r => sat v σ' G' H' ex (R'.keepO pl) r
    | br => exact False.elim sat
    | ct => exact False.elim sat
  | raise x ρ' => rw [e] at sat; exact False.elim sat
  | stuck => rw [e] at sat; exact sat
end

/-! ### calls -/
def argOf (ρ : Env) : Opd → Option A
  | .dat d => some (.imm d)
  | .slot i => match ρ[i]? with
    | some (some (.imm d)) => some (.imm d)
    | some (some (.own _ o)) => some (.own true o)
    | _ => none
def argsOf (ρ : Env) : List Opd → Option (List A)
  | [] => some []
  | o :: os => do let a ← argOf ρ o; let as ← argsOf ρ os; pure (a :: as)
def slotOf : Opd → Option Nat
  | .dat _ => none
  | .slot i => some i
def isSlot (i : Nat) : Opd → Bool
  | .dat _ => false
  | .slot j => decide (j = i)
/-- a def's cells as they came back -/
def backA (os : List Opd) (ρ' : Env) (i : Nat) (a : Option A) : Option A := match os.findIdx? (isSlot i) with
  | none => a
  | some j => match a with
    | some (.own b _) => match ρ'[j]? with
      | some (some (.own _ o')) => some (.own b o')
      | _ => none
    | a => a
def cellsBack (os : List Opd) (ρ' ρ : Env) : Env := ρ.mapIdx (backA os ρ')
def mCallA (n : Nat) (m : List A → Rs A) (fa : Md (List Opd)) : Md A := Md.bind fa fun os ρ => match argsOf ρ os with
  | some as => if os.length = n ∧ (os.filterMap slotOf).Nodup then match m as with
    | .ok a ρ' => .ok a (cellsBack os ρ' ρ)
    | _ => .stuck
    else .stuck
  | none => .stuck
/-- a result: data, or a new cell -/
def ARes (K : Kf) (c : Cn) (G : Hp) (ρ : Env) (σ : St) (H : Hp) : A → V → Prop
  | .imm d, v => Dv K G d v
  | .own _ o, v => NRep K c G ρ σ H o v
  | .pair o1 o2, v => ∃ t p1 p2, v = .ref t ∧ H t = some (.tup [.ref p1, .ref p2]) ∧ NRep K c G ρ σ H o1 (.ref p1) ∧ NRep K c G ρ σ H o2 (.ref p2) ∧ p1 ≠ p2
def EvR (K : Kf) (W : Wish) (t : TE) (f : Md A) : Prop := ∀ c G ρ σ H, Rel K c G ρ σ H → ∀ Q : VK,
  Out K W c G σ (f ρ) (fun a ρ' G' H' => ∀ v, ARes K c G' ρ' σ H' a v → Q v H') → t σ H Q
def mImm (f : Md A) : Md Opd := Md.bind f fun a ρ => match a with
  | .imm d => .ok (.dat d) ρ
  | .own _ o => match ownD o with
    | some d => .ok (.dat d) ρ
    | none => .stuck
  | .pair _ _ => .stuck
def mOwn (f : Md A) : Md Own := Md.bind f fun a ρ => match a with
  | .own _ o => .ok o ρ
  | _ => .stuck
section
variable {K : Kf} {W : Wish}
theorem ev_imm {t : TE} {f : Md A} (h : EvR K W t f) : EvO K W t (mImm f) := by
  intro c G ρ σ H R Q q
  refine h c G ρ σ H R _ (q.bind.mono fun a ρ1 G1 H1 e1 R1 h1 v r => ?_)
  cases a with
  | imm d => exact h1.ret R1 v r
  | own b o =>
    dsimp only at h1
    split at h1
    · rename_i d ed
      obtain ⟨p, ob, rfl, hp, rr, g, z, kz, no⟩ := r
      have e2 := Ex.new (o := ob) g
      exact h1 _ _ e2 (R1.still hp g z kz no) _ (own_dv (rr.ex e2) upd_same ed)
    · exact False.elim h1
  | pair o1 o2 => exact False.elim h1
theorem en_own {t : TE} {f : Md A} (h : EvR K W t f) : EvN K W t (mOwn f) := by
  intro c G ρ σ H R Q q
  refine h c G ρ σ H R _ (q.bind.mono fun a ρ1 G1 H1 e1 R1 h1 v r => ?_)
  cases a with
  | imm d => exact False.elim h1
  | own b o => exact h1.ret R1 v r
  | pair o1 o2 => exact False.elim h1
/-- return f(..) -/
def sRetA (f : Md A) : Md Fw := Md.bind f fun a ρ => match a with
  | .imm d => .ok (.rt (.imm d)) ρ
  | .own _ o => .ok (.rt (.own false o)) ρ
  | .pair _ _ => .stuck
theorem st_retA {t : TE} {f : Md A} (h : EvR K W t f) : StD K W (tRet t) (sRetA f) := by
  intro c G ρ σ H R D q
  refine h c G ρ σ H R _ (Out.mono (OutS.bindE (σ := σ) q) fun a ρ1 G1 H1 e1 R1 h1 v r => ?_)
  cases a with
  | imm d => exact OutS.ret (P := fun fl _ σ' G' H' => Leave K c D fl σ' G' H') R1 h1 v r
  | own b o =>
    obtain ⟨p, ob, rfl, hp, rr, g, z, kz, no⟩ := r
    exact OutS.ret (P := fun fl _ σ' G' H' => Leave K c D fl σ' G' H') R1 h1 _ ⟨p, ob, rfl, hp, rr, g, z⟩
  | pair o1 o2 => exact False.elim h1
end
section
variable {K : Kf} {c : Cn} {G H : Hp} {ρ : Env} {σ : St}
theorem args_at : ∀ {os : List Opd} {vs : List V} {as : List A}, OReps K G σ os vs → argsOf ρ os = some as → vs.length = as.length ∧ os.length = as.length ∧ ∀ (j : Nat) a, as[j]? = some a → ∃ o v, os[j]? = some o ∧ vs[j]? = some v ∧ ORep K G σ o v ∧ argOf ρ o = some a
  | _, _, _, .nil, e => by
    cases e
    exact ⟨rfl, rfl, fun j a h => by simp at h⟩
  | _, _, _, .cons (a := o) (b := v) h t, e => by
    unfold argsOf at e
    simp only [Option.bind_eq_bind, Option.bind_eq_some_iff, Option.pure_def, Option.some.injEq] at e
    obtain ⟨a, e1, as, e2, rfl⟩ := e
    obtain ⟨l1, l2, f⟩ := args_at t e2
    refine ⟨by rw [List.length_cons, List.length_cons, l1], by rw [List.length_cons, List.length_cons, l2], fun j a' hj => ?_⟩
    cases j with
    | zero =>
      have : a = a' := Option.some.inj hj
      subst this
      exact ⟨o, v, rfl, rfl, h, e1⟩
    | succ j => exact f j a' hj
def pinOf : A → V → Option Addr
  | .own _ _, .ref p => some p
  | _, _ => none
theorem nodup_slots : ∀ {os : List Opd}, (os.filterMap slotOf).Nodup → ∀ {i j k : Nat}, os[i]? = some (.slot k) → os[j]? = some (.slot k) → i = j
  | [], _, i, j, k, h, _ => by simp at h
  | o :: os, nd, i, j, k, h1, h2 => by
    have nd' : (os.filterMap slotOf).Nodup := by
      cases o with
      | dat d => exact nd
      | slot z => exact (List.nodup_cons.mp nd).2
    have notin : ∀ {z m : Nat}, o = .slot z → os[m]? = some (.slot z) → False := fun {z m} e hm => by
      subst e
      refine (List.nodup_cons.mp nd).1 (List.mem_filterMap.mpr ⟨.slot z, List.mem_of_getElem? hm, rfl⟩)
    cases i with
    | zero =>
      cases j with
      | zero => rfl
      | succ j =>
        have e : o = .slot k := Option.some.inj h1
        exact (notin e h2).elim
    | succ i =>
      cases j with
      | zero =>
        have e : o = .slot k := Option.some.inj h2
        exact (notin e h1).elim
      | succ j => rw [nodup_slots nd' (i := i) (j := j) (k := k) h1 h2]
theorem startE_get {n : Nat} {as : List A} {i : Nat} {a : A} (h : (startE n as)[i]? = some (some a)) : as[i]? = some a := by
  unfold startE at h
  by_cases hl : i < as.length
  · rw [List.getElem?_append_left (by simpa using hl), List.getElem?_map] at h
    cases e : as[i]? with
    | none => rw [e] at h; cases h
    | some b => rw [e] at h; cases h; rfl
  · rw [List.getElem?_append_right (by simpa using hl), List.getElem?_replicate] at h
    split at h <;> cases h
theorem start_get {n : Nat} {vs : List V} {i : Nat} {v : V} (h : vs[i]? = some v) : (vs.map some ++ List.replicate n none : St)[i]? = some (some v) := by
  rw [List.getElem?_append_left (by simpa using (List.getElem?_eq_some_iff.mp h).1), List.getElem?_map, h]
  rfl
theorem arg_own {o : Opd} {b : Bool} {ow : Own} (h : argOf ρ o = some (.own b ow)) : b = true ∧ ∃ k b0, o = .slot k ∧ ρ[k]? = some (some (.own b0 ow)) := by
  cases o with
  | dat d => cases h
  | slot k =>
    simp only [argOf] at h
    split at h
    · cases h
    · rename_i b0 o' e
      cases h
      exact ⟨rfl, k, b0, rfl, e⟩
    · cases h
theorem arg_imm {o : Opd} {d : D} (h : argOf ρ o = some (.imm d)) : im ρ o = some d := by
  cases o with
  | dat d' => cases h; rfl
  | slot k =>
    simp only [argOf] at h
    simp only [im]
    split at h
    · rename_i d' e
      cases h; rw [e]
    · cases h
    · cases h
/-- the callee's start -/
theorem Rel.enter (R : Rel K c G ρ σ H) {n : Nat} {os : List Opd} {vs : List V} {as : List A} (r : OReps K G σ os vs) (e : argsOf ρ os = some as) (nd : (os.filterMap slotOf).Nodup) :
    Rel K ⟨G, H, List.zipWith pinOf as vs, fun _ => none⟩ G (startE n as) (vs.map some ++ List.replicate (n - vs.length) none) H := by
  obtain ⟨l1, l2, f⟩ := args_at r e
  have pins : ∀ {j : Nat} {p : Addr}, (List.zipWith pinOf as vs)[j]? = some (some p) → ∃ b o, as[j]? = some (.own b o) ∧ vs[j]? = some (.ref p) := fun {j p} h => by
    rw [List.getElem?_zipWith] at h
    cases ea : as[j]? with
    | none => rw [ea] at h; simp at h
    | some a =>
      cases ev : vs[j]? with
      | none => rw [ea, ev] at h; simp at h
      | some v =>
        rw [ea, ev] at h
        have h' : pinOf a v = some p := Option.some.inj h
        cases a with
        | imm d => cases h'
        | pair o1 o2 => cases h'
        | own b o =>
          cases v with
          | ref q => cases h'; exact ⟨b, o, rfl, rfl⟩
          | _ => cases h'
  refine ⟨R.le, fun p o h _ => h, Ex.refl _, fun p o h => .inl h, ?_, fun i d h => ?_, fun i b o h => ?_, fun i j b o b' o' p h1 h2 h3 h4 => ?_, fun j p h => ?_, fun p o h => by cases h⟩
  · unfold startE
    rw [List.length_append, List.length_append, List.length_map, List.length_map, List.length_replicate, List.length_replicate, l1]
  · obtain ⟨o, v, h1, h2, h3, h4⟩ := f i _ (startE_get h)
    exact ⟨v, start_get h2, dv_of R h3 (arg_imm h4)⟩
  · have ha := startE_get h
    obtain ⟨op, v, h1, h2, h3, h4⟩ := f i _ ha
    obtain ⟨rfl, k, b0, rfl, ek⟩ := arg_own h4
    obtain ⟨p, ob, s, hp, q, g, z⟩ := R.own k b0 o ek
    have h3' : σ[k]? = some (some v) := h3
    rw [s] at h3'; cases h3'
    refine ⟨p, ob, start_get h2, hp, q, g, ?_⟩
    show (List.zipWith pinOf as vs)[i]? = some (some p)
    rw [List.getElem?_zipWith, ha, h2]
    rfl
  · obtain ⟨op, v, a1, a2, a3, a4⟩ := f i _ (startE_get h1)
    obtain ⟨op', v', b1, b2, b3, b4⟩ := f j _ (startE_get h2)
    obtain ⟨_, k, b0, rfl, ek⟩ := arg_own a4
    obtain ⟨_, k', b0', rfl, ek'⟩ := arg_own b4
    rw [start_get a2] at h3
    rw [start_get b2] at h4
    cases h3
    cases h4
    have : k = k' := R.dis k k' b0 o b0' o' p ek ek' a3 b3
    subst this
    exact nodup_slots nd a1 b1
  · obtain ⟨b, o, ha, hv⟩ := pins h
    obtain ⟨op, v, a1, a2, a3, a4⟩ := f j _ ha
    obtain ⟨rfl, k, b0, rfl, ek⟩ := arg_own a4
    refine ⟨start_get hv, o, ?_⟩
    unfold startE
    rw [List.getElem?_append_left (by simpa using (List.getElem?_eq_some_iff.mp ha).1), List.getElem?_map, ha]
    rfl
theorem back_get {os : List Opd} {ρ' : Env} {i : Nat} : (cellsBack os ρ' ρ)[i]? = (ρ[i]?).map fun a => match a with
    | some (.own b o) => match os.findIdx? (isSlot i) with
      | some j => match ρ'[j]? with
        | some (some (.own _ o')) => some (.own b o')
        | _ => none
      | none => some (.own b o)
    | a => a := by
  unfold cellsBack
  rw [List.getElem?_mapIdx]
  cases e : ρ[i]? with
  | none => rfl
  | some a =>
    show some (backA os ρ' i a) = some _
    unfold backA
    congr 1
    cases e2 : os.findIdx? (isSlot i) with
    | none =>
      cases a with
      | none => rfl
      | some a => cases a <;> rfl
    | some j =>
      cases a with
      | none => rfl
      | some a => cases a <;> rfl
theorem find_slot {os : List Opd} {i j : Nat} (h : os.findIdx? (isSlot i) = some j) : os[j]? = some (.slot i) := by
  obtain ⟨hl, h1, _⟩ := List.findIdx?_eq_some_iff_getElem.mp h
  rw [List.getElem?_eq_getElem hl]
  cases e : os[j] with
  | dat d => rw [e] at h1; cases h1
  | slot k =>
    rw [e] at h1
    have : k = i := of_decide_eq_true h1
    rw [this]
/-- behind the call -/
theorem Rel.leave (R : Rel K c G ρ σ H) {os : List Opd} {vs : List V} {as : List A} (r : OReps K G σ os vs) (e : argsOf ρ os = some as) (nd : (os.filterMap slotOf).Nodup) {G' H' : Hp} {ρ' : Env} {σ' : St} (ex : Ex G G')
    (R' : Rel K ⟨G, H, List.zipWith pinOf as vs, fun _ => none⟩ G' ρ' σ' H') : Rel K c G' (cellsBack os ρ' ρ) σ H' ∧ ∀ p, H p = none → NotOwn (cellsBack os ρ' ρ) σ p := by
  obtain ⟨l1, l2, f⟩ := args_at r e
  have pins : ∀ {j : Nat} {p : Addr}, (List.zipWith pinOf as vs)[j]? = some (some p) → ∃ k b0 o, os[j]? = some (.slot k) ∧ ρ[k]? = some (some (.own b0 o)) ∧ σ[k]? = some (some (.ref p)) := fun {j p} h => by
    rw [List.getElem?_zipWith] at h
    cases ea : as[j]? with
    | none => rw [ea] at h; simp at h
    | some a =>
      cases ev : vs[j]? with
      | none => rw [ea, ev] at h; simp at h
      | some v =>
        rw [ea, ev] at h
        have h' : pinOf a v = some p := Option.some.inj h
        cases a with
        | imm d => cases h'
        | pair o1 o2 => cases h'
        | own b o =>
          cases v with
          | ref q =>
            cases h'
            obtain ⟨op, v, a1, a2, a3, a4⟩ := f j _ ea
            obtain ⟨rfl, k, b0, rfl, ek⟩ := arg_own a4
            rw [ev] at a2; cases a2
            exact ⟨k, b0, o, a1, ek, a3⟩
          | _ => cases h'
  have pinned : ∀ {j k : Nat} {b0 : Bool} {o : Own} {p : Addr}, os[j]? = some (.slot k) → ρ[k]? = some (some (.own b0 o)) → σ[k]? = some (some (.ref p)) → (List.zipWith pinOf as vs)[j]? = some (some p) := fun {j k b0 o p} h1 h2 h3 => by
    have hj : j < as.length := by rw [← l2]; exact (List.getElem?_eq_some_iff.mp h1).1
    obtain ⟨op, v, a1, a2, a3, a4⟩ := f j _ (List.getElem?_eq_getElem hj)
    rw [h1] at a1; cases a1
    have a3' : σ[k]? = some (some v) := a3
    rw [h3] at a3'; cases a3'
    simp only [argOf, h2] at a4
    rw [List.getElem?_zipWith, List.getElem?_eq_getElem hj, a2, ← Option.some.inj a4]
    rfl
  -- an own cell's place behind the call
  have ownB : ∀ {i : Nat} {b o}, (cellsBack os ρ' ρ)[i]? = some (some (.own b o)) → ∃ o0, ρ[i]? = some (some (.own b o0)) ∧
      ((∃ (j : Nat) (b' : Bool), os[j]? = some (Opd.slot i) ∧ ρ'[j]? = some (some (A.own b' o))) ∨ (o0 = o ∧ ∀ j : Nat, os[j]? ≠ some (Opd.slot i))) := fun {i b o} h => by
    rw [back_get] at h
    cases q : ρ[i]? with
    | none => rw [q] at h; cases h
    | some a =>
      rw [q] at h
      have h := Option.some.inj h
      cases a with
      | none => cases h
      | some a =>
        cases a with
        | imm d => cases h
        | pair o1 o2 => cases h
        | own b0 o0 =>
          dsimp only at h
          split at h
          · rename_i j ej
            split at h
            · rename_i b' o' e'
              cases h
              exact ⟨o0, rfl, .inl ⟨j, b', find_slot ej, e'⟩⟩
            · cases h
          · rename_i ej
            cases h
            refine ⟨o, rfl, .inr ⟨rfl, fun j hj => ?_⟩⟩
            have := List.findIdx?_eq_none_iff.mp ej _ (List.mem_of_getElem? hj)
            simp [isSlot] at this
  have immB : ∀ {i : Nat} {d}, (cellsBack os ρ' ρ)[i]? = some (some (.imm d)) → ρ[i]? = some (some (.imm d)) := fun {i d} h => by
    rw [back_get] at h
    cases q : ρ[i]? with
    | none => rw [q] at h; cases h
    | some a =>
      rw [q] at h
      have h := Option.some.inj h
      cases a with
      | none => cases h
      | some a =>
        cases a with
        | imm d' => exact congrArg some h
        | pair o1 o2 => cases h
        | own b0 o0 =>
          dsimp only at h
          split at h
          · split at h <;> cases h
          · cases h
  have keepsP : ∀ {p : Addr} {o : HO}, H p = some o → (∀ j, (List.zipWith pinOf as vs)[j]? ≠ some (some p)) → H' p = some o := fun {p o} h n => R'.fr p o h n
  have gNone : ∀ {p : Addr} {o : HO}, H p = some o → G p = none → G' p = none := fun {p o} h g => by
    cases q : G' p with
    | none => rfl
    | some u =>
      rcases R'.gnew p u q with z | z
      · rw [show G p = some u from z] at g; cases g
      · rw [show H p = none from z] at h; cases h
  have notPin : ∀ {p : Addr}, NotOwn ρ σ p → ∀ j, (List.zipWith pinOf as vs)[j]? ≠ some (some p) := fun {p} no j h => by
    obtain ⟨k, b0, o, _, ek, sk⟩ := pins h
    exact no k b0 o ek sk
  refine ⟨⟨R'.le, fun p o h n => ?_, R.g0.trans ex, fun p o h => ?_, ?_, fun i d h => ?_, fun i b o h => ?_, fun i j b o b' o' p h1 h2 h3 h4 => ?_, fun j p h => ?_, fun p o h => ?_⟩, fun p hp i b o h hs => ?_⟩
  · have hH := R.fr p o h n
    refine keepsP hH fun j hj => ?_
    obtain ⟨k, b0, o0, _, ek, sk⟩ := pins hj
    obtain ⟨p', ob, s, _, _, _, z⟩ := R.own k b0 o0 ek
    rw [sk] at s; cases s
    cases b0 with
    | true => exact n k z
    | false => rw [show c.H0 p = none from z] at h; cases h
  · rcases R'.gnew p o h with z | z
    · exact R.gnew p o z
    · exact .inr (R.h0 z)
  · unfold cellsBack
    rw [List.length_mapIdx]; exact R.len
  · obtain ⟨v, s, q⟩ := R.imm i d (immB h)
    exact ⟨v, s, q.ex ex⟩
  · obtain ⟨o0, e0, q⟩ := ownB h
    obtain ⟨p, ob, s, hp, r0, g, z⟩ := R.own i b o0 e0
    rcases q with ⟨j, b', hj, e'⟩ | ⟨rfl, nj⟩
    · have pj := pinned hj e0 s
      obtain ⟨p', ob', s', hp', r', g', z'⟩ := R'.own j b' o e'
      obtain ⟨s2, o2, e2⟩ := R'.pin j p pj
      rw [s2] at s'; cases s'
      exact ⟨p, ob', s, hp', r', g', z⟩
    · refine ⟨p, ob, s, keepsP hp fun j hj => ?_, r0.ex ex, gNone hp g, z⟩
      obtain ⟨k, b0, o1, hk, ek, sk⟩ := pins hj
      have : i = k := R.dis i k b o0 b0 o1 p e0 ek s sk
      subst this
      exact nj j hk
  · obtain ⟨o0, e0, _⟩ := ownB h1
    obtain ⟨o1, e1, _⟩ := ownB h2
    exact R.dis i j b o0 b' o1 p e0 e1 h3 h4
  · obtain ⟨s, o, e0⟩ := R.pin j p h
    refine ⟨s, ?_⟩
    rw [back_get, e0]
    cases q : os.findIdx? (isSlot j) with
    | none => exact ⟨o, rfl⟩
    | some k =>
      obtain ⟨s2, o2, e2⟩ := R'.pin k p (pinned (find_slot q) e0 s)
      exact ⟨o2, by simp only [Option.map_some, e2]⟩
  · obtain ⟨k1, k2, k3⟩ := R.kp p o h
    refine ⟨keepsP k1 (notPin k3), ?_, fun i b ow hi hs => ?_⟩
    · rcases k2 with k2 | ⟨ob, kvs, e1, e2⟩
      · exact .inl (gNone k1 k2)
      · exact .inr ⟨ob, kvs, e1, ex _ _ e2⟩
    obtain ⟨o0, e0, _⟩ := ownB hi
    exact k3 i b o0 e0 hs
  · obtain ⟨o0, e0, _⟩ := ownB h
    exact R.notOwn hp i b o0 e0 hs
end
section
variable {K : Kf} {W : Wish}
theorem er_call {ta : TA} {fa : Md (List Opd)} {m : List A → Rs A} {n k : Nat} (ha : EvA K W ta fa) : EvR K W (tCall (spOf K n k m) [] E0 ta) (mCallA n m fa) := by
  intro c G ρ σ H R Q q
  refine ha c G ρ σ H R _ (q.bind.mono fun os ρ1 G1 H1 e1 R1 h1 vs r => ?_)
  split at h1
  · rename_i as ea
    split at h1
    · rename_i hn
      obtain ⟨l1, l2, _⟩ := args_at r ea
      rw [List.append_nil]
      refine ⟨by omega, _, G1, as, rfl, rfl, R1.enter r ea hn.2, ?_⟩
      cases em : m as with
      | ok a ρ' =>
        rw [em] at h1
        intro v σ' G' H' ex R' rr
        obtain ⟨R2, no⟩ := R1.leave r ea hn.2 ex R'
        refine h1 G' H' ex R2 v ?_
        cases a with
        | imm d => exact rr
        | own b o =>
          obtain ⟨p, ob, rfl, hp, q1, g, z⟩ := rr
          have z' : H1 p = none := z
          exact ⟨p, ob, rfl, hp, q1, g, R1.h0 z', R1.k0 z', no p z'⟩
        | pair o1 o2 =>
          obtain ⟨t, p1, p2, ob1, ob2, rfl, ht, hp1, q1, g1, z1, hp2, q2, g2, z2, ne⟩ := rr
          have z1' : H1 p1 = none := z1
          have z2' : H1 p2 = none := z2
          exact ⟨t, p1, p2, rfl, ht, ⟨p1, ob1, rfl, hp1, q1, g1, R1.h0 z1', R1.k0 z1', no p1 z1'⟩, ⟨p2, ob2, rfl, hp2, q2, g2, R1.h0 z2', R1.k0 z2', no p2 z2'⟩, ne⟩
      | raise x ρ' => rw [em] at h1; exact h1
      | stuck => rw [em] at h1; exact h1
    · exact False.elim h1
  · exact False.elim h1
theorem er_call0 {m : List A → Rs A} {k : Nat} : EvR K W (tCall (spOf K 0 k m) [] E0 tNil) (mCallA 0 m mNil) := er_call ea_nil
end
end DV

set_option Elab.async false
set_option linter.all false
set_option maxRecDepth 100000
set_option maxHeartbeats 2000000
set_option autoImplicit false
/-! DvMut: cells that change; dicts; isinstance. -/
namespace DV
open PySem L2

/-! ### methods that change a list -/
/-- a method of the cell at p -/
def OwnMt (K : Kf) (r : V → List V → Hp → VK → Prop) (g : List D → List D → Option (D × List D)) : Prop := ∀ (G H : Hp) (p : Addr) (xs : List V) (ds es es' : List D) (vs : List V) (d : D), Le G H → H p = some (.lst xs) → DvAll K G es xs → DvAll K G ds vs → g es ds = some (d, es') → ∀ Q : VK,
  (∀ v xs', Dv K G d v → DvAll K G es' xs' → Q v (upd H p (.lst xs'))) → r (.ref p) vs H Q
def isLst (ρ : Env) (i : Nat) : Bool := match ρ[i]? with
  | some (some (.own _ (.lst _))) => true
  | _ => false
def mMeth (i : Nat) (g : List D → List D → Option (D × List D)) (fa : Md (List Opd)) : Md Opd := fun ρ => if isLst ρ i then
  (Md.bind fa fun os ρ => match ρ[i]?, ims ρ os with
    | some (some (.own b (.lst es))), some ds => match g es ds with
      | some (d, es') => .ok (.dat d) (ρ.set i (some (.own b (.lst es'))))
      | none => .stuck
    | _, _ => .stuck) ρ
  else .stuck
section
variable {K : Kf} {W : Wish}
theorem isLst_at {c : Cn} {G H : Hp} {ρ : Env} {σ : St} (R : Rel K c G ρ σ H) {i : Nat} (h : isLst ρ i = true) : ∃ b ds p xs, ρ[i]? = some (some (.own b (.lst ds))) ∧ σ[i]? = some (some (.ref p)) ∧ H p = some (.lst xs) := by
  unfold isLst at h
  split at h
  · rename_i b ds e
    obtain ⟨p, ob, s, hp, ⟨xs, rfl, _⟩, _⟩ := R.own i b _ e
    exact ⟨b, ds, p, xs, e, s, hp⟩
  · cases h
theorem meth_fin {c : Cn} {G1 H1 : Hp} {ρ1 : Env} {σ : St} {i : Nat} {p : Addr} {r : V → List V → Hp → VK → Prop} {g : List D → List D → Option (D × List D)} {os : List Opd} {vs : List V} {Q : VK} (hr : OwnMt K r g) (R1 : Rel K c G1 ρ1 σ H1) (s : σ[i]? = some (some (.ref p))) (rr : OReps K G1 σ os vs)
    (h1 : Out K W c G1 σ (match ρ1[i]?, ims ρ1 os with
      | some (some (.own b (.lst es))), some ds => match g es ds with
        | some (d, es') => .ok (Opd.dat d) (ρ1.set i (some (.own b (.lst es'))))
        | none => .stuck
      | _, _ => .stuck) (fun o _ G' H' => ∀ v, ORep K G' σ o v → Q v H')) : r (.ref p) vs H1 Q := by
  split at h1
  · rename_i b es ds eo ei
    split at h1
    · rename_i d es' eg
      obtain ⟨p', ob, s', hp, ⟨xs, rfl, dv⟩, g0, z⟩ := R1.own i b _ eo
      rw [s] at s'; cases s'
      refine hr G1 H1 p xs ds es es' vs d R1.le hp dv (dvs_of R1 rr ei) eg Q fun v xs' dd dl => ?_
      exact h1 G1 _ (Ex.refl _) (R1.mut eo s ⟨xs', rfl, dl⟩) v dd
    · exact False.elim h1
  · exact False.elim h1
theorem ev_methB {r : V → List V → Hp → VK → Prop} {g : List D → List D → Option (D × List D)} {ta : TA} {fa : Md (List Opd)} {i : Nat} (hr : OwnMt K r g) (ha : EvA K W ta fa) : EvO K W (tBM K "list" r (tVar i) ta) (mMeth i g fa) := by
  intro c G ρ σ H R Q q
  unfold mMeth at q
  split at q
  · rename_i hl
    obtain ⟨b, ds, p, xs, e, s, hp⟩ := isLst_at R hl
    refine ⟨_, s, .inl ⟨rfl, xs, SqL.of hp⟩, ?_⟩
    refine ha c G ρ σ H R _ (q.bind.mono fun os ρ1 G1 H1 e1 R1 h1 vs rr => ?_)
    exact meth_fin hr R1 s rr h1
  · exact False.elim q
theorem ev_methB0 {r : V → List V → Hp → VK → Prop} {g : List D → List D → Option (D × List D)} {i : Nat} (hr : OwnMt K r g) : EvO K W (tBM0 K "list" r (tVar i)) (mMeth i g mNil) := by
  intro c G ρ σ H R Q q
  unfold mMeth at q
  split at q
  · rename_i hl
    obtain ⟨b, ds, p, xs, e, s, hp⟩ := isLst_at R hl
    exact ⟨_, s, .inl ⟨rfl, xs, SqL.of hp⟩, meth_fin hr R s .nil q⟩
  · exact False.elim q
def gAppend (es ds : List D) : Option (D × List D) := match ds with
  | [d] => if es.length < lim then some (.none, es ++ [d]) else none
  | _ => none
theorem g_append : OwnMt K rAppend gAppend := by
  intro G H p xs ds es es' vs d l hp dv dvs e Q q
  unfold gAppend at e
  split at e
  · rename_i d'
    obtain ⟨v, r, rfl, h1, h2⟩ := dvs.cons_inv
    rw [h2.nil_inv]
    obtain ⟨hl, e'⟩ := ifSome e
    cases e'
    exact ⟨p, xs, v, rfl, rfl, hp, by rw [dv.length]; exact lim_lt hl, q _ _ dv_non (dv.append (.cons h1 .nil))⟩
  · cases e
def gPop (es ds : List D) : Option (D × List D) := match ds with
  | [] => (es[es.length - 1]?).map fun d => (d, es.dropLast)
  | _ => none
theorem g_pop : OwnMt K rPop gPop := by
  intro G H p xs ds es es' vs d l hp dv dvs e Q q
  unfold gPop at e
  split at e
  · obtain ⟨d', ed, e'⟩ := Option.map_eq_some_iff.mp e
    cases e'
    obtain ⟨v, hv, h1⟩ := dv.get ed
    rw [dvs.nil_inv]
    exact ⟨p, xs, v, rfl, rfl, hp, by rw [dv.length]; exact hv, q _ _ h1 dv.dropLast⟩
  · cases e
def gPopAt (es ds : List D) : Option (D × List D) := match ds with
  | [.int i] => if small62 i then match ixN es.length i with
    | some j => (es[j]?).map fun d => (d, es.eraseIdx j)
    | none => none
    else none
  | _ => none
theorem g_popAt : OwnMt K rPopAt gPopAt := by
  intro G H p xs ds es es' vs d l hp dv dvs e Q q
  unfold gPopAt at e
  split at e
  · rename_i i
    split at e
    case isFalse => cases e
    rename_i hi
    obtain ⟨b1, b2⟩ := small62_ok hi
    split at e
    · rename_i j ej
      obtain ⟨d', ed, e'⟩ := Option.map_eq_some_iff.mp e
      cases e'
      obtain ⟨v, hv, h1⟩ := dv.get ed
      obtain ⟨w, r, rfl, g1, g2⟩ := dvs.cons_inv
      rw [g2.nil_inv]
      unfold Dv at g1
      subst g1
      obtain ⟨k1, k2, k3, k4⟩ := ixN_seq ej
      refine ⟨p, xs, i, j, v, rfl, rfl, hp, ?_, ?_, by rw [dv.length]; exact k1, hv, q _ _ h1 (dv.eraseIdx j)⟩
      · omega
      · omega
    · cases e
  · cases e

def gInsert (es ds : List D) : Option (D × List D) := match ds with
  | [.int i, d] => if es.length < lim ∧ 0 ≤ i ∧ i < 2 ^ 62 then some (.none, es.take i.toNat ++ [d] ++ es.drop i.toNat) else none
  | _ => none
theorem g_insert : OwnMt K (fun x vs H Q => ∃ (l : Addr) (xs : List V) (i : Int) (y : V), x = .ref l ∧ vs = [.int i, y] ∧ H l = some (.lst xs) ∧ xs.length < sizeLine ∧ 0 ≤ i ∧ i < 2 ^ 63 ∧
    Q .non (upd H l (.lst (xs.take i.toNat ++ [y] ++ xs.drop i.toNat)))) gInsert := by
  intro G H p xs ds es es' vs d l hp dv dvs e Q q
  unfold gInsert at e
  split at e
  · rename_i i d'
    obtain ⟨w, r, rfl, g1, g2⟩ := dvs.cons_inv
    obtain ⟨v, r, rfl, h1, h2⟩ := g2.cons_inv
    rw [h2.nil_inv]
    unfold Dv at g1
    subst g1
    obtain ⟨hl, e'⟩ := ifSome e
    cases e'
    exact ⟨p, xs, i, v, rfl, rfl, hp, by rw [dv.length]; exact lim_lt hl.1, hl.2.1, by omega, q _ _ dv_non (((dv.take _).append (.cons h1 .nil)).append (dv.drop _))⟩
  · cases e
def gReverse (es ds : List D) : Option (D × List D) := match ds with
  | [] => some (.none, es.reverse)
  | _ => none
theorem g_reverse : OwnMt K rReverse gReverse := by
  intro G H p xs ds es es' vs d l hp dv dvs e Q q
  unfold gReverse at e
  split at e
  · cases e
    rw [dvs.nil_inv]
    exact ⟨p, xs, rfl, rfl, hp, q _ _ dv_non dv.reverse⟩
  · cases e

/-! ### methods that only look -/
def MtD (K : Kf) (r : V → List V → Hp → VK → Prop) (g : D → List D → Option D) : Prop := ∀ (G H : Hp) (d1 d : D) (ds : List D) (x : V) (vs : List V), Le G H → Vw K G H d1 x → Vws K G H ds vs → g d1 ds = some d → ∀ Q : VK,
  (∀ v G' H', Al G H G' H' → Dv K G' d v → Q v H') → r x vs H Q
def isList : D → Bool
  | .list _ => true
  | _ => false
def mLook (g : D → List D → Option D) (f : Md Opd) (fa : Md (List Opd)) : Md Opd := Md.bind f fun o ρ => match rs ρ o with
  | some (.list _) => (Md.bind fa fun os ρ => Md.opt (do let d ← rs ρ o; let ds ← rss ρ os; let r ← g d ds; pure (.dat r)) ρ) ρ
  | _ => .stuck
theorem ev_look {r : V → List V → Hp → VK → Prop} {g : D → List D → Option D} {to : TE} {ta : TA} {f : Md Opd} {fa : Md (List Opd)} (hr : MtD K r g) (ho : EvO K W to f) (ha : EvA K W ta fa) : EvO K W (tBM K "list" r to ta) (mLook g f fa) := by
  intro c G ρ σ H R Q q
  refine ho c G ρ σ H R _ (q.bind.mono fun o ρ1 G1 H1 e1 R1 h1 x rx => ?_)
  split at h1
  · rename_i es eo
    obtain ⟨a, vs, rfl, s, dv⟩ := vw_of R1 rx eo
    refine ⟨.inl ⟨rfl, vs, s⟩, ?_⟩
    refine ha c G1 ρ1 σ H1 R1 _ (h1.bind.mono fun os ρ2 G2 H2 e2 R2 h2 ws rr => ?_)
    obtain ⟨o', eo', h3⟩ := h2.opt
    simp only [Option.bind_eq_bind, Option.bind_eq_some_iff, Option.pure_def, Option.some.injEq] at eo'
    obtain ⟨d1, q1, ds, q2, d, q3, rfl⟩ := eo'
    refine hr G2 H2 d1 d ds _ ws R2.le (vw_of R2 (rx.ex e2) q1) (vws_of R2 rr q2) q3 Q fun v G' H' al dv => ?_
    obtain ⟨R3, e3, _⟩ := Rel.al al R2
    exact h3 G' H' e3 R3 v dv
  · exact False.elim h1
def gIndex (d : D) (ds : List D) : Option D := match d, ds with
  | .list es, [e] => if SeqAt.shaped (.list es) && SeqAt.shaped e then (es.findIdx? fun z => PyData.eqv z e).map fun j => .int (j : Nat) else none
  | _, _ => none
theorem g_index : MtD K (rIndexD K) gIndex := by
  intro G H d1 d ds x vs l h1 h2 e Q q
  unfold gIndex at e
  split at e
  · rename_i es e0
    split at e
    case isFalse => cases e
    rename_i hs
    rw [Bool.and_eq_true] at hs
    obtain ⟨j, ej, rfl⟩ := Option.map_eq_some_iff.mp e
    obtain ⟨w, rfl, hw⟩ := vws1 h2
    obtain ⟨hj, k1, k2⟩ := List.findIdx?_eq_some_iff_getElem.mp ej
    have dp := dp_vw l (SeqAt.canLay_of_shaped hs.1) h1
    obtain ⟨a, xs, rfl, _⟩ := h1
    refine ⟨a, w, e0, es, j, es[j], rfl, rfl, dp, dp_vw l (SeqAt.canLay_of_shaped hs.2) hw, hs.1, hs.2, List.getElem?_eq_getElem hj, k1, fun m z' hm hz => ?_, q _ _ _ .refl dv_int⟩
    obtain ⟨hml, rfl⟩ := List.getElem?_eq_some_iff.mp hz
    have := k2 m hm
    simpa using this
  · cases e
end

/-! ### stores by place -/
section
variable {X : Cx}
theorem PSet.or {t u : TSet} (h : PSet X t) (h' : PSet X u) : PSet X (fun o i v H Q => t o i v H Q ∨ u o i v H Q) := by
  intro pins s σ H o i v ov iv uu Q I r1 r2 r3 q
  rcases q with q | q
  · exact h pins s σ H o i v ov iv uu Q I r1 r2 r3 q
  · exact h' pins s σ H o i v ov iv uu Q I r1 r2 r3 q
theorem PGet.or {t u : V → V → Hp → VK → Prop} (h : PGet X t) (h' : PGet X u) : PGet X (fun o i H Q => t o i H Q ∨ u o i H Q) := by
  intro pins s σ H o i ov iv Q I r1 r2 q
  rcases q with q | q
  · exact h pins s σ H o i ov iv Q I r1 r2 q
  · exact h' pins s σ H o i ov iv Q I r1 r2 q
def rSetD : TSet := fun o i v H Q => ∃ a H', o = .ref a ∧ DPut H a i v H' ∧ Q H'
theorem set_dict (hu : X.A.units + 1 < cLine) : PSet X rSetD := by
  intro pins s σ H o i v ov iv u Q I r1 r2 r3 h
  obtain ⟨a, H', rfl, g, q⟩ := h
  cases r1
  exact d_setItem hu I g r2 r3 fun s' I' => ⟨H', I', q⟩
def rSetAll : TSet := fun o i v H Q => rSetL o i v H Q ∨ rSetD o i v H Q
theorem set_all (hu : X.A.units + 1 < cLine) : PSet X rSetAll := PSet.or set_list (set_dict hu)
theorem get_list : PGet X (rIxL X.K) := by
  intro pins s σ H x y v u Q I rx ry h
  obtain ⟨p, xs, i, z, rfl, rfl, hq, he, q⟩ := h
  cases rx
  obtain ⟨t, rfl⟩ := ry
  obtain ⟨its, r, pl, hz⟩ := I.list hq
  obtain ⟨j, h1, h2, h3, h4, h5⟩ := atI_get he
  obtain ⟨w, ew, rw'⟩ := r.get h2
  have hl := r.length
  have hn := line63
  have fin : EP X pins σ Q w s := ⟨z, H, I, rw', q⟩
  by_cases h0 : 0 ≤ i
  · have hj : i.toNat = j := by
      rw [seqIndex_of h0 h5] at h1
      exact Option.some.inj h1
    exact wpAny_getItem_list pl.isList h0 (by omega) (by rw [hj]; simpa using ew) fin
  · have hj : (i + (its.toArray.size : Int)).toNat = j := by
      rw [seqIndex_neg (by omega) h4] at h1
      rw [List.size_toArray, ← hl]
      exact Option.some.inj h1
    exact wpAny_getItem_list_neg pl.isList (by omega) (by rw [List.size_toArray] <;> omega) (by omega) (by rw [hj]; simpa using ew) fin
theorem get_dict (hu : X.A.units + 1 < cLine) : PGet X rIxD := by
  intro pins s σ H x y v u Q I rx ry h
  obtain ⟨a, z, rfl, g, q⟩ := h
  cases rx
  exact d_getItem hu I g ry fun w' s' I' r' => ⟨z, H, I', r', q⟩
def rGetAll (K : Kf) : V → V → Hp → VK → Prop := fun o i H Q => rIxL K o i H Q ∨ rIxD o i H Q
theorem get_all (hu : X.A.units + 1 < cLine) : PGet X (rGetAll X.K) := PGet.or get_list (get_dict hu)
end
/-- a list of pairs as a table -/
def lookG {κ : Type} [DecidableEq κ] (kvs : List (κ × D)) (k : κ) : Option D := (kvs.find? fun kv => decide (kv.1 = k)).map (·.2)
def putG {κ : Type} [DecidableEq κ] (kvs : List (κ × D)) (k : κ) (v : D) : List (κ × D) :=
  if (kvs.any fun kv => decide (kv.1 = k)) = true then kvs.map (fun kv => if kv.1 = k then (kv.1, v) else kv) else kvs ++ [(k, v)]
theorem kv_any {κ : Type} [DecidableEq κ] {K : Kf} {G : Hp} {k : κ} : ∀ {kvs : List (κ × D)} {ks : List (κ × V)}, KvRep K G kvs ks → (kvs.any fun kv => decide (kv.1 = k)) = ks.any fun kv => decide (kv.1 = k)
  | _, _, .nil => rfl
  | _, _, .cons h t => by rw [List.any_cons, List.any_cons, kv_any t, h.1]
theorem kv_append {κ : Type} {K : Kf} {G : Hp} : ∀ {kvs kvs' : List (κ × D)} {ks ks' : List (κ × V)}, KvRep K G kvs ks → KvRep K G kvs' ks' → KvRep K G (kvs ++ kvs') (ks ++ ks')
  | _, _, _, _, .nil, q => q
  | _, _, _, _, .cons h t, q => .cons h (kv_append t q)
theorem kv_repl {κ : Type} [DecidableEq κ] {K : Kf} {G : Hp} {k : κ} {d : D} {v : V} (hd : Dv K G d v) : ∀ {kvs : List (κ × D)} {ks : List (κ × V)}, KvRep K G kvs ks → KvRep K G (kvs.map fun kv => if kv.1 = k then (kv.1, d) else kv) (ks.map fun kv => if kv.1 = k then (kv.1, v) else kv)
  | _, _, .nil => .nil
  | (a, x) :: r, (b, y) :: r', .cons h t => by
    obtain ⟨h1, h2⟩ := h
    have h1' : a = b := h1
    subst h1'
    refine .cons ?_ (kv_repl hd t)
    by_cases e : a = k
    · show (if a = k then (a, d) else (a, x)).1 = (if a = k then (a, v) else (a, y)).1 ∧ Dv K G (if a = k then (a, d) else (a, x)).2 (if a = k then (a, v) else (a, y)).2
      rw [if_pos e, if_pos e]; exact ⟨rfl, hd⟩
    · show (if a = k then (a, d) else (a, x)).1 = (if a = k then (a, v) else (a, y)).1 ∧ Dv K G (if a = k then (a, d) else (a, x)).2 (if a = k then (a, v) else (a, y)).2
      rw [if_neg e, if_neg e]; exact ⟨rfl, h2⟩
theorem kv_put {κ : Type} [DecidableEq κ] {K : Kf} {G : Hp} {k : κ} {d : D} {v : V} (hd : Dv K G d v) {kvs : List (κ × D)} {ks : List (κ × V)} (h : KvRep K G kvs ks) : KvRep K G (putG kvs k d) (putK ks k v) := by
  unfold putG putK
  rw [kv_any h]
  split
  · exact kv_repl hd h
  · exact kv_append h (.cons ⟨rfl, hd⟩ .nil)
theorem kv_look {κ : Type} [DecidableEq κ] {K : Kf} {G : Hp} {k : κ} : ∀ {kvs : List (κ × D)} {ks : List (κ × V)}, KvRep K G kvs ks → (lookG kvs k = none ∧ valV ks k = none) ∨ ∃ d v, lookG kvs k = some d ∧ valV ks k = some v ∧ Dv K G d v
  | _, _, .nil => .inl ⟨rfl, rfl⟩
  | (a, x) :: r, (b, y) :: r', .cons h t => by
    obtain ⟨h1, h2⟩ := h
    have h1' : a = b := h1
    subst h1'
    by_cases e : a = k
    · subst e
      refine .inr ⟨x, y, ?_, valV_pos rfl, h2⟩
      unfold lookG
      rw [List.find?_cons_of_pos (by simp)] <;> rfl
    · have : lookG ((a, x) :: r) k = lookG r k := by
        unfold lookG
        rw [List.find?_cons_of_neg (by simp [e])]
      rw [this, valV_neg (p := (a, y)) e]
      exact kv_look t
theorem kv_length {κ : Type} {K : Kf} {G : Hp} {kvs : List (κ × D)} {ks : List (κ × V)} (h : KvRep K G kvs ks) : ks.length = kvs.length := (Paired.length h).symm
def keysOf : List D → Option (List Key)
  | [] => some []
  | d :: r => do let k ← keyOf d; let ks ← keysOf r; pure (k :: ks)
theorem keysOf_v {K : Kf} {G : Hp} : ∀ {ds : List D} {vs : List V} {ks : List Key}, DvAll K G ds vs → keysOf ds = some ks → vs = ks.map kV
  | [], _, _, h, e => by rw [h.nil_inv]; cases e; rfl
  | d :: r, _, _, h, e => by
    obtain ⟨v, vs, rfl, h1, h2⟩ := h.cons_inv
    unfold keysOf at e
    simp only [Option.bind_eq_bind, Option.bind_eq_some_iff, Option.pure_def, Option.some.injEq] at e
    obtain ⟨k, e1, ks, e2, rfl⟩ := e
    rw [List.map_cons, keysOf_v h2 e2]
    have : v = kV k := by
      cases d with
      | int i => cases e1; unfold Dv at h1; exact h1
      | str s => cases e1; unfold Dv at h1; exact h1
      | _ => cases e1
    rw [this]
/-- the cell's content behind a store at k -/
def putO (o : Own) (k d : D) : Option Own := match o with
  | .lst es => match k with
    | .int i => (ixN es.length i).map fun j => .lst (es.set j d)
    | _ => none
  | .dK kvs => if kvs.length < lim then (keyOf k).map fun q => .dK (putG kvs q d) else none
  | .dT kvs => match k with
    | .tuple ds => if kvs.length < lim then (keysOf ds).map fun q => .dT (putG kvs q d) else none
    | _ => none
  | _ => none
/-- its item at k -/
def getO (o : Own) (k : D) : Option D := match o with
  | .lst es => match k with
    | .int i => atI es i
    | _ => none
  | .dK kvs => match keyOf k with
    | some q => lookG kvs q
    | none => none
  | .dT kvs => match k with
    | .tuple ds => match keysOf ds with
      | some q => lookG kvs q
      | none => none
    | _ => none
  | _ => none
section
variable {K : Kf} {W : Wish}
theorem put_run {G H : Hp} {o o' : Own} {ob : HO} {p : Addr} {k d : D} {y v : V} (l : Le G H) (hp : H p = some ob) (hr : ObRep K G o ob) (hk : Dv K G k y) (hd : Dv K G d v) (e : putO o k d = some o') {Q : Hp → Prop} (q : ∀ ob', ObRep K G o' ob' → Q (upd H p ob')) : rSetAll (.ref p) y v H Q := by
  cases o with
  | lst es =>
    obtain ⟨xs, rfl, dv⟩ := hr
    unfold putO at e
    dsimp only at e
    split at e
    · rename_i i
      obtain ⟨j, ej, rfl⟩ := Option.map_eq_some_iff.mp e
      unfold Dv at hk
      exact .inl ⟨p, xs, i, j, rfl, hk, hp, by rw [dv.length]; exact ej, q _ ⟨_, rfl, dv.set hd j⟩⟩
    · cases e
  | dK kvs =>
    obtain ⟨ks, rfl, dv⟩ := hr
    unfold putO at e
    dsimp only at e
    split at e
    case isFalse => cases e
    rename_i hl
    obtain ⟨k', ek, rfl⟩ := Option.map_eq_some_iff.mp e
    have ey := keyOf_vw (hk.vw l) ek
    exact .inr ⟨p, _, rfl, .inl ⟨ks, k', hp, ey, by rw [kv_length dv]; exact lim_lt hl, rfl⟩, q _ ⟨_, rfl, kv_put hd dv⟩⟩
  | dT kvs =>
    obtain ⟨ks, rfl, dv⟩ := hr
    unfold putO at e
    dsimp only at e
    split at e
    · rename_i ds
      split at e
      case isFalse => cases e
      rename_i hl
      obtain ⟨k', ek, rfl⟩ := Option.map_eq_some_iff.mp e
      unfold Dv at hk
      obtain ⟨b, vs, rfl, s, r⟩ := hk
      have ev := keysOf_v r ek
      subst ev
      exact .inr ⟨p, _, rfl, .inr ⟨ks, k', b, hp, rfl, tup_le l s, by rw [kv_length dv]; exact lim_lt hl, rfl⟩, q _ ⟨_, rfl, kv_put hd dv⟩⟩
    · cases e
  | ins C fs => cases e
theorem get_run {G H : Hp} {o : Own} {ob : HO} {p : Addr} {k d : D} {y : V} (l : Le G H) (hp : H p = some ob) (hr : ObRep K G o ob) (hk : Dv K G k y) (e : getO o k = some d) {Q : VK} (q : ∀ v, Dv K G d v → Q v H) : rGetAll K (.ref p) y H Q := by
  cases o with
  | lst es =>
    obtain ⟨xs, rfl, dv⟩ := hr
    unfold getO at e
    dsimp only at e
    split at e
    · rename_i i
      obtain ⟨v, ev, dd⟩ := atI_dv dv e
      unfold Dv at hk
      exact .inl ⟨p, xs, i, v, rfl, hk, SqL.of hp, ev, q v dd⟩
    · cases e
  | dK kvs =>
    obtain ⟨ks, rfl, dv⟩ := hr
    unfold getO at e
    dsimp only at e
    split at e
    · rename_i k' ek
      have ey := keyOf_vw (hk.vw l) ek
      rcases kv_look (k := k') dv with ⟨e1, e2⟩ | ⟨d', v, e1, e2, dd⟩
      · rw [e1] at e; cases e
      · rw [e1] at e; cases e
        exact .inr ⟨p, v, rfl, .inl ⟨ks, k', .inl hp, ey, e2.symm⟩, q v dd⟩
    · cases e
  | dT kvs =>
    obtain ⟨ks, rfl, dv⟩ := hr
    unfold getO at e
    dsimp only at e
    split at e
    · rename_i ds
      split at e
      · rename_i k' ek
        unfold Dv at hk
        obtain ⟨b, vs, rfl, s, r⟩ := hk
        have ev := keysOf_v r ek
        subst ev
        rcases kv_look (k := k') dv with ⟨e1, e2⟩ | ⟨d', v, e1, e2, dd⟩
        · rw [e1] at e; cases e
        · rw [e1] at e; cases e
          exact .inr ⟨p, v, rfl, .inr ⟨ks, k', b, .inl hp, rfl, tup_le l s, e2.symm⟩, q v dd⟩
      · cases e
    · cases e
  | ins C fs => cases e
/-- x[k] = e, x a slot's cell -/
def sPut (i : Nat) (fk fe : Md Opd) : Md Fw := Md.bind fe fun oe ρ1 => match ρ1[i]? with
  | some (some (.own _ _)) => (Md.bind fk fun ok ρ => match ρ[i]? with
    | some (some (.own b o)) => match (do let d ← im ρ oe; let k ← im ρ ok; putO o k d : Option Own) with
      | some o' => .ok .nx (ρ.set i (some (.own b o')))
      | none => .stuck
    | _ => .stuck) ρ1
  | _ => .stuck
theorem st_put {te ti : TE} {fe fk : Md Opd} {i : Nat} (he : EvO K W te fe) (hk : EvO K W ti fk) : StD K W (tAsg te (L2.gSub (tVar i) ti rSetAll)) (sPut i fk fe) := by
  intro c G ρ σ H R D q
  refine he c G ρ σ H R _ (Out.mono (OutS.bindE (σ := σ) q) fun oe ρ1 G1 H1 e1 R1 h1 v rv => ?_)
  split at h1
  · rename_i b0 o0 e0
    obtain ⟨p, ob, s, hp, hr, g, z⟩ := R1.own i b0 o0 e0
    refine ⟨_, s, ?_⟩
    refine hk c G1 ρ1 σ H1 R1 _ (Out.mono (OutS.bindE (σ := σ) h1) fun ok ρ2 G2 H2 e2 R2 h2 y ry => ?_)
    split at h2
    · rename_i b o eo
      split at h2
      · rename_i o' ep
        simp only [Option.bind_eq_bind, Option.bind_eq_some_iff] at ep
        obtain ⟨d, ed, k, ek, ep⟩ := ep
        obtain ⟨p', ob', s', hp', hr', g', z'⟩ := R2.own i b o eo
        rw [s] at s'; cases s'
        exact put_run R2.le hp' hr' (dv_of R2 ry ek) (dv_of R2 (rv.ex e2) ed) ep fun ob2 r2 => OutS.ret (P := fun fl _ σ' G' H' => Leave K c D fl σ' G' H') (R2.mut eo s r2) h2
      · exact False.elim h2
    · exact False.elim h2
  · exact False.elim h1
/-- x[k] op= e -/
def sAug (i : Nat) (g : D → D → Option D) (fk fe : Md Opd) : Md Fw := fun ρ0 => match ρ0[i]? with
  | some (some (.own _ _)) => (Md.bind fk fun ok ρ1 => match ρ1[i]? with
    | some (some (.own _ o)) => match (do let k ← im ρ1 ok; let x ← getO o k; pure (k, x) : Option (D × D)) with
      | some (k, x) => (Md.bind fe fun oe ρ => match ρ[i]? with
        | some (some (.own b o)) => match (do let y ← rs ρ oe; let z ← g x y; putO o k z : Option Own) with
          | some o' => .ok .nx (ρ.set i (some (.own b o')))
          | none => .stuck
        | _ => .stuck) ρ1
      | none => .stuck
    | _ => .stuck) ρ0
  | _ => .stuck
theorem st_aug {ti te : TE} {fe fk : Md Opd} {i : Nat} {r : R2} {g : D → D → Option D} (hg : Op2 K r g) (hk : EvO K W ti fk) (he : EvO K W te fe) : StD K W (tAugS (tVar i) ti te (rGetAll K) r rSetAll) (sAug i g fk fe) := by
  intro c G ρ σ H R D q
  unfold sAug at q
  split at q
  · rename_i b0 o0 e0
    obtain ⟨p, ob, s, hp, hr, g0, z⟩ := R.own i b0 o0 e0
    refine ⟨_, s, ?_⟩
    refine hk c G ρ σ H R _ (Out.mono (OutS.bindE (σ := σ) q) fun ok ρ1 G1 H1 e1 R1 h1 y ry => ?_)
    split at h1
    · rename_i b1 o1 eo
      obtain ⟨p1, ob1, s1, hp1, hr1, g1, z1⟩ := R1.own i b1 o1 eo
      rw [s] at s1; cases s1
      split at h1
      · rename_i k x ep
        simp only [Option.bind_eq_bind, Option.bind_eq_some_iff, Option.pure_def, Option.some.injEq, Prod.mk.injEq] at ep
        obtain ⟨k', ek, x', ex, rfl, rfl⟩ := ep
        have dk := dv_of R1 ry ek
        refine get_run R1.le hp1 hr1 dk ex fun v dx => ?_
        refine he c G1 ρ1 σ H1 R1 _ (Out.mono (OutS.bindE (σ := σ) h1) fun oe ρ2 G2 H2 e2 R2 h2 w rw' => ?_)
        split at h2
        · rename_i b o eo2
          split at h2
          · rename_i o' ep
            simp only [Option.bind_eq_bind, Option.bind_eq_some_iff] at ep
            obtain ⟨y', ey, z', ez, ep⟩ := ep
            refine hg G2 H2 x' y' z' v w R2.le ((dx.ex e2).vw R2.le) (vw_of R2 rw' ey) ez _ fun u G3 H3 al du => ?_
            obtain ⟨R3, e3, _⟩ := Rel.al al R2
            obtain ⟨p', ob', s', hp', hr', g', z''⟩ := R3.own i b o eo2
            rw [s] at s'; cases s'
            exact put_run R3.le hp' hr' ((dk.ex e2).ex e3) du ep fun ob2 r2 => OutS.ret (P := fun fl _ σ' G' H' => Leave K c D fl σ' G' H') (R3.mut eo2 s r2) (OutS.weak e3 h2)
          · exact False.elim h2
        · exact False.elim h2
      · exact False.elim h1
    · exact False.elim h1
  · exact False.elim q
/-- x op= e, x data -/
def sAugN (i : Nat) (g : D → D → Option D) (fe : Md Opd) : Md Fw := fun ρ0 => match ρ0[i]? with
  | some (some (.imm x)) => (Md.bind fe fun oe ρ => match (do let y ← rs ρ oe; g x y : Option D) with
    | some z => if canSet ρ i then .ok .nx (ρ.set i (some (.imm z))) else .stuck
    | none => .stuck) ρ0
  | _ => .stuck
theorem st_augN {te : TE} {fe : Md Opd} {i : Nat} {r : R2} {g : D → D → Option D} (hg : Op2 K r g) (he : EvO K W te fe) : StD K W (tAug i te r) (sAugN i g fe) := by
  intro c G ρ σ H R D q
  unfold sAugN at q
  split at q
  · rename_i x e0
    obtain ⟨v, s, dx⟩ := R.imm i x e0
    refine ⟨v, s, ?_⟩
    refine he c G ρ σ H R _ (Out.mono (OutS.bindE (σ := σ) q) fun oe ρ2 G2 H2 e2 R2 h2 w rw' => ?_)
    split at h2
    · rename_i z ez
      simp only [Option.bind_eq_bind, Option.bind_eq_some_iff] at ez
      obtain ⟨y', ey, ez⟩ := ez
      split at h2
      · rename_i hc
        refine hg G2 H2 x y' z v w R2.le ((dx.ex e2).vw R2.le) (vw_of R2 rw' ey) ez _ fun u G3 H3 al du => ?_
        obtain ⟨R3, e3, _⟩ := Rel.al al R2
        exact OutS.ret (P := fun fl _ σ' G' H' => Leave K c D fl σ' G' H') (R3.setImm (R3.canSet hc) du) (OutS.weak e3 h2)
      · exact False.elim h2
    · exact False.elim h2
  · exact False.elim q
/-- x += e, x a slot's list -/
def sAugL (i : Nat) (fe : Md Opd) : Md Fw := fun ρ0 => match ρ0[i]? with
  | some (some (.own _ (.lst _))) => (Md.bind fe fun oe ρ => match ρ[i]?, im ρ oe with
    | some (some (.own b (.lst es))), some (.list fs) => if es.length + fs.length ≤ lim then .ok .nx (ρ.set i (some (.own b (.lst (es ++ fs))))) else .stuck
    | _, _ => .stuck) ρ0
  | _ => .stuck
def rExtR (K : Kf) : R2 := fun x y H Q => ∃ l b xs zs, x = .ref l ∧ y = .ref b ∧ H l = some (.lst xs) ∧ Rd H b (.lst zs) ∧ xs.length + zs.length ≤ sizeLine ∧ Q (.ref l) (upd H l (.lst (xs ++ zs)))
end
end DV

set_option Elab.async false
set_option linter.all false
set_option maxRecDepth 100000
set_option maxHeartbeats 2000000
set_option autoImplicit false
/-! DvDict: dicts walked and made; isinstance; += of lists; tuples times a number. -/
namespace DV
open PySem L2
section
variable {K : Kf} {W : Wish}
/-! {} -/
def mDict : Md Own := Md.ret (.dK [])
def mDictT : Md Own := Md.ret (.dT [])
theorem en_dict : EvN K W tDNewK mDict := fun c G ρ σ H R Q h p hp => h G _ (Ex.refl _) (R.side hp) _ (R.nrep hp ⟨[], rfl, .nil⟩)
theorem en_dictT : EvN K W tDNewT mDictT := fun c G ρ σ H R Q h p hp => h G _ (Ex.refl _) (R.side hp) _ (R.nrep hp ⟨[], rfl, .nil⟩)
/-! d.get(k, x) -/
def gGet (d k x : D) : Option D := match d with
  | .dict kvs => match keyOf k with
    | some q => some ((lookD kvs q).getD x)
    | none => none
  | _ => none
def mGet (fd fk fx : Md Opd) : Md Opd := Md.bind fd fun od ρ0 => match rs ρ0 od with
  | some (.dict _) => (Md.bind fk fun ok => Md.bind fx fun ox ρ => Md.opt (do let d ← rs ρ od; let k ← rs ρ ok; let x ← im ρ ox; let r ← gGet d k x; pure (.dat r)) ρ) ρ0
  | _ => .stuck
theorem ev_get {td tk tx : TE} {fd fk fx : Md Opd} (hd : EvO K W td fd) (hk : EvO K W tk fk) (hx : EvO K W tx fx) : EvO K W (tDGet2 td tk tx) (mGet fd fk fx) := by
  intro c G ρ σ H R Q q
  refine hd c G ρ σ H R _ (q.bind.mono fun od ρ1 G1 H1 e1 R1 h1 x rx => ?_)
  split at h1
  · rename_i kvs0 e0
    obtain ⟨a, ks0, rfl, r0, _⟩ := vw_of R1 rx e0
    refine ⟨a, rfl, .inl ⟨ks0, r0⟩, ?_⟩
    refine hk c G1 ρ1 σ H1 R1 _ (h1.bind.mono fun ok ρ2 G2 H2 e2 R2 h2 y ry => ?_)
    refine hx c G2 ρ2 σ H2 R2 _ (h2.bind.mono fun ox ρ3 G3 H3 e3 R3 h3 z rz => ?_)
    obtain ⟨o, eo, h4⟩ := h3.opt
    simp only [Option.bind_eq_bind, Option.bind_eq_some_iff, Option.pure_def, Option.some.injEq] at eo
    obtain ⟨d, ed, k, ek, x, ex, r, er, rfl⟩ := eo
    unfold gGet at er
    split at er
    · rename_i kvs
      split at er
      · rename_i q' eq
        cases er
        obtain ⟨a', ks, ea, r, hk⟩ := vw_of R3 (rx.ex (e2.trans e3)) ed
        cases ea
        have ey := keyOf_vw (vw_of R3 (ry.ex e3) ek) eq
        subst ey
        have dz := dv_of R3 rz ex
        refine ⟨valV ks q', .inl ⟨ks, q', r, rfl, rfl⟩, h4.ret R3 _ ?_⟩
        rcases look_ks q' hk with ⟨e1, e2⟩ | ⟨d', v, e1, e2, dv⟩
        · rw [e1, e2]; exact dz
        · rw [e1, e2]; exact dv
      · cases er
    · cases er
  · exact False.elim h1

/-! ### a dict is walked: it is locked meanwhile -/
theorem Rel.locked {c : Cn} {G H : Hp} {ρ : Env} {σ : St} (R : Rel K c G ρ σ H) {p : Addr} {od : Obj} {ks : List (Key × V)} (hg : G p = some (.dK ks)) (hp : H p = some (.dK ks)) (h0 : c.H0 p = none) (hk : c.keep p = none) (no : NotOwn ρ σ p) :
    Rel K (c.with p (.frz od (.dK ks))) G ρ σ (upd H p (.frz od (.dK ks))) := by
  refine ⟨fun a o e => ?_, fun a o e f => ?_, R.g0, R.gnew, R.len, R.imm, fun i b o e => ?_, R.dis, R.pin, fun a o e => ?_⟩
  · by_cases ha : a = p
    · subst ha
      rw [hg] at e; cases e
      exact .inr ⟨od, ks, rfl, upd_same⟩
    · rw [upd_ne ha]; exact R.le a o e
  · have e' : c.H0 a = some o := e
    rw [upd_ne (ne_of_none e' h0)]; exact R.fr a o e f
  · obtain ⟨a, ob', s, ha, q, g, z⟩ := R.own i b o e
    have ne : a ≠ p := fun z => no i b o e (by rw [← z]; exact s)
    exact ⟨a, ob', s, by rw [upd_ne ne]; exact ha, q, g, z⟩
  · have e' : upd c.keep p (.frz od (.dK ks)) a = some o := e
    by_cases ha : a = p
    · subst ha
      rw [upd_same] at e'; cases e'
      exact ⟨upd_same, .inr ⟨od, ks, rfl, hg⟩, no⟩
    · rw [upd_ne ha] at e'
      obtain ⟨k1, k2, k3⟩ := R.kp a o e'
      exact ⟨by rw [upd_ne ha]; exact k1, k2, k3⟩
theorem Rel.unlocked {c : Cn} {G H : Hp} {ρ : Env} {σ : St} {p : Addr} {od : Obj} {ks : List (Key × V)} (R : Rel K (c.with p (.frz od (.dK ks))) G ρ σ H) (h0 : c.H0 p = none) (hk : c.keep p = none) :
    H p = some (.frz od (.dK ks)) ∧ Rel K c G ρ σ (upd H p (.dK ks)) := by
  obtain ⟨R', hp, kg, no⟩ := R.unwith hk
  refine ⟨hp, ⟨fun a o e => ?_, fun a o e f => ?_, R'.g0, R'.gnew, R'.len, R'.imm, fun i b o e => ?_, R'.dis, R'.pin, fun a o e => ?_⟩⟩
  · by_cases ha : a = p
    · subst ha
      rw [upd_same]
      rcases kg with kg | ⟨ob, kvs, e1, e2⟩
      · rw [kg] at e; cases e
      · cases e1
        rw [e2] at e; cases e
        exact .inl rfl
    · rw [upd_ne ha]; exact R'.le a o e
  · rw [upd_ne (ne_of_none e h0)]; exact R'.fr a o e f
  · obtain ⟨a, ob', s, ha, q, g, z⟩ := R'.own i b o e
    have ne : a ≠ p := fun z => no i b o e (by rw [← z]; exact s)
    exact ⟨a, ob', s, by rw [upd_ne ne]; exact ha, q, g, z⟩
  · obtain ⟨k1, k2, k3⟩ := R'.kp a o e
    exact ⟨by rw [upd_ne (ne_of_none e hk)]; exact k1, k2, k3⟩
def keysD (kvs : List (Key × D)) : List D := kvs.map fun p => keyD p.1
theorem kv_get' {kvs : List (Key × D)} {ks : List (Key × V)} {G : Hp} (h : KvRep K G kvs ks) : ∀ {i : Nat} {k : Key} {d : D}, kvs[i]? = some (k, d) → ∃ v, ks[i]? = some (k, v) ∧ Dv K G d v := by
  intro i k d e
  obtain ⟨⟨k', v⟩, h1, h2, h3⟩ := paired_get h e
  have h2' : k = k' := h2
  subst h2'
  exact ⟨v, h1, h3⟩
theorem dv_key {G : Hp} {k : Key} : Dv K G (keyD k) (kV k) := by
  cases k with
  | inl i => exact dv_int
  | inr s => exact dv_str
theorem itr_keys {c : Cn} {G0 : Hp} {p : Addr} {od : Obj} {kvs : List (Key × D)} {ks : List (Key × V)} (h : KvRep K G0 kvs ks) : ItR K (Itk p od ks) (c.with p (.frz od (.dK ks))) G0 (keysD kvs) := by
  intro G ρ σ H ex R i
  have hp : H p = some (.frz od (.dK ks)) := (R.kp p _ (by show upd c.keep p _ p = _; exact upd_same)).1
  have hl := kv_length h
  refine ⟨fun d hd => ?_, fun hi => ⟨hp, by unfold keysD at hi; rw [List.length_map] at hi; rw [hl]; exact hi⟩⟩
  unfold keysD at hd
  rw [List.getElem?_map] at hd
  obtain ⟨⟨k, d'⟩, hk, rfl⟩ := Option.map_eq_some_iff.mp hd
  obtain ⟨v, hv, _⟩ := kv_get' h hk
  refine ⟨⟨hp, (List.getElem?_eq_some_iff.mp hv).1⟩, fun x H' y => ?_⟩
  obtain ⟨rfl, k2, v2, e2, rfl⟩ := y
  rw [hv] at e2; cases e2
  exact ⟨G, .refl, dv_key⟩
theorem itr_vals {c : Cn} {G0 : Hp} {p : Addr} {od : Obj} {kvs : List (Key × D)} {ks : List (Key × V)} (h : KvRep K G0 kvs ks) : ItR K (Itd p od ks) (c.with p (.frz od (.dK ks))) G0 (kvs.map (·.2)) := by
  intro G ρ σ H ex R i
  have hp : H p = some (.frz od (.dK ks)) := (R.kp p _ (by show upd c.keep p _ p = _; exact upd_same)).1
  have hl := kv_length h
  refine ⟨fun d hd => ?_, fun hi => ⟨hp, by rw [List.length_map] at hi; rw [hl]; exact hi⟩⟩
  rw [List.getElem?_map] at hd
  obtain ⟨⟨k, d'⟩, hk, rfl⟩ := Option.map_eq_some_iff.mp hd
  obtain ⟨v, hv, dv⟩ := kv_get' h hk
  refine ⟨⟨hp, (List.getElem?_eq_some_iff.mp hv).1⟩, fun x H' y => ?_⟩
  obtain ⟨rfl, k2, e2⟩ := y
  rw [hv] at e2; cases e2
  exact ⟨G, .refl, dv.ex ex⟩
theorem itr_items {c : Cn} {G0 : Hp} {p : Addr} {od : Obj} {kvs : List (Key × D)} {ks : List (Key × V)} (h : KvRep K G0 kvs ks) : ItR K (Iti p od ks) (c.with p (.frz od (.dK ks))) G0 (kvs.map fun q => .tuple [keyD q.1, q.2]) := by
  intro G ρ σ H ex R i
  have hp : H p = some (.frz od (.dK ks)) := (R.kp p _ (by show upd c.keep p _ p = _; exact upd_same)).1
  have hl := kv_length h
  refine ⟨fun d hd => ?_, fun hi => ⟨hp, by rw [List.length_map] at hi; rw [hl]; exact hi⟩⟩
  rw [List.getElem?_map] at hd
  obtain ⟨⟨k, d'⟩, hk, rfl⟩ := Option.map_eq_some_iff.mp hd
  obtain ⟨v, hv, dv⟩ := kv_get' h hk
  refine ⟨⟨hp, (List.getElem?_eq_some_iff.mp hv).1⟩, fun x H' y => ?_⟩
  obtain ⟨T, k2, v2, e2, rfl, hT, rfl⟩ := y
  rw [hv] at e2; cases e2
  exact dv_pair R.le hT dv_key (dv.ex ex)
/-- for k in d, d a slot's own dict -/
def sForKeys (i : Nat) (tg : D → Env → Option Env) (body : Md Fw) : Md Fw := fun ρ => match ρ[i]? with
  | some (some (.own false (.dK kvs))) => forL tg body (keysD kvs) (ρ.set i (some (.imm (.dict (kvs.map fun p => (keyD p.1, p.2))))))
  | _ => .stuck
theorem st_forKeys {g : TG} {tb : TS} {tg : D → Env → Option Env} {body : Md Fw} {vs : List Nat} {i : Nat} (hg : TgD K vs g tg) (hb : StD K V0 tb body) : StD K V0 (tLock (tFor (iKeys (tVar i)) g tb)) (sForKeys i tg body) := by
  intro c G ρ σ H R D q
  unfold sForKeys at q
  split at q
  · rename_i kvs e
    obtain ⟨p, ob, s, hp, ⟨ks, rfl, hr⟩, hg0, z⟩ := R.own i false _ e
    have z' : c.H0 p = none := z
    have kz : c.keep p = none := by
      cases ek : c.keep p with
      | none => rfl
      | some u => exact absurd s ((R.kp p u ek).2.2 i false _ e)
    obtain ⟨p', ob', s', g', R2, dv⟩ := R.frzSlot e (d := .dict (kvs.map fun p => (keyD p.1, p.2))) rfl
    rw [s] at s'; cases s'
    have no : NotOwn (ρ.set i (some (.imm (.dict (kvs.map fun p => (keyD p.1, p.2)))))) σ p := fun j b o hj hs => by
      rcases get_set hj with ⟨rfl, q, hl⟩ | ⟨ne, q2⟩
      · cases q
      · exact ne (R.dis i j false _ b o p e q2 s hs)
    have eob : ob' = .dK ks := by
      have := R2.le p ob' upd_same
      rcases this with h | ⟨_, kv, e1, h⟩
      · rw [hp] at h; exact (Option.some.inj h).symm
      · rw [hp] at h; cases h
    subst eob
    refine ⟨p, .dK ks, hp, trivial, fun od => ?_⟩
    have R3 := R2.locked (od := od) upd_same hp z' kz no
    refine ⟨_, s, p, od, rfl, .inl ⟨ks, upd_same, ?_⟩⟩
    refine for_core (K := K) (W := V0) (c := c.with p (.frz od (.dK ks))) (itr_keys (hr.ex (Ex.new g'))) hg hb R3 ?_
    -- each way out unlocks
    have q' := OutS.weak (Ex.new (o := .dK ks) g') q
    cases ef : forL tg body (keysD kvs) (ρ.set i (some (.imm (.dict (kvs.map fun p => (keyD p.1, p.2)))))) with
    | ok fl ρ' =>
      rw [ef] at q'
      intro σ' G' H' ex R'
      obtain ⟨hp', R''⟩ := R'.unlocked z' kz
      have fin := q' σ' G' _ ex R''
      cases fl with
      | nx => exact ⟨hp', fin⟩
      | br => exact ⟨hp', fin⟩
      | ct => exact ⟨hp', fin⟩
      | rt a =>
        intro v rr
        refine ⟨hp', fin v ?_⟩
        have up : ∀ {a : Addr} {ob : HO}, H' a = some ob → (c.with p (.frz od (.dK ks))).H0 a = none → a ≠ p → upd H' p (.dK ks) a = some ob := fun {a ob} h _ ne => by rw [upd_ne ne]; exact h
        cases a with
        | imm d => exact rr
        | own b o =>
          obtain ⟨p1, ob1, rfl, h1, r1, g1, z1⟩ := rr
          have ne : p1 ≠ p := fun e => by
            subst e
            rw [hp'] at h1; cases h1
            cases o with
            | lst ds => obtain ⟨_, e, _⟩ := r1; cases e
            | dK ds => obtain ⟨_, e, _⟩ := r1; cases e
            | dT ds => obtain ⟨_, e, _⟩ := r1; cases e
            | ins C fs => obtain ⟨_, _, e, _⟩ := r1; cases e
          exact ⟨p1, ob1, rfl, up h1 z1 ne, r1, g1, z1⟩
        | pair o1 o2 =>
          obtain ⟨t, p1, p2, ob1, ob2, rfl, ht, h1, r1, g1, z1, h2, r2, g2, z2, nn⟩ := rr
          have ne1 : ∀ {o : Own} {p1 : Addr} {ob1 : HO}, H' p1 = some ob1 → ObRep K G' o ob1 → p1 ≠ p := fun {o p1 ob1} h1 r1 e => by
            subst e
            rw [hp'] at h1; cases h1
            cases o with
            | lst ds => obtain ⟨_, e, _⟩ := r1; cases e
            | dK ds => obtain ⟨_, e, _⟩ := r1; cases e
            | dT ds => obtain ⟨_, e, _⟩ := r1; cases e
            | ins C fs => obtain ⟨_, _, e, _⟩ := r1; cases e
          have net : t ≠ p := fun e => by subst e; rw [hp'] at ht; cases ht
          exact ⟨t, p1, p2, ob1, ob2, rfl, by rw [upd_ne net]; exact ht, up h1 z1 (ne1 h1 r1), r1, g1, z1, up h2 z2 (ne1 h2 r2), r2, g2, z2, nn⟩
    | raise x ρ' =>
      rw [ef] at q'
      intro σ' G' H' ex R'
      obtain ⟨hp', R''⟩ := R'.unlocked z' kz
      exact (show False from q' σ' G' _ ex R'')
    | stuck => rw [ef] at q'; exact q'
  · exact False.elim q
/-- a list comprehension over d.values(), d.items(), d, d a slot's own dict -/
def mLcD (vs : List Nat) (i : Nat) (sel : List (Key × D) → List D) (tg : D → Env → Option Env) (test : Md Bool) (elt : Md Opd) : Md Own := fun ρ => match ρ[i]? with
  | some (some (.own false (.dK kvs))) => if vs.all (noOwn ρ) && !(vs.contains i) then
      match lcL vs tg test elt (sel kvs) [] (wipeE (ρ.set i (some (.imm (.dict (kvs.map fun p => (keyD p.1, p.2)))))) vs) with
      | .ok acc ρ' => .ok (.lst acc) (backE (ρ.set i (some (.imm (.dict (kvs.map fun p => (keyD p.1, p.2)))))) vs ρ')
      | _ => .stuck
    else .stuck
  | _ => .stuck
theorem en_lcD {wi : TI} {g : TG} {tt : TT} {te : TE} {vs : List Nat} {tg : D → Env → Option Env} {test : Md Bool} {elt : Md Opd} {i : Nat} {sel : List (Key × D) → List D} {J : Addr → Obj → List (Key × V) → It}
    (hJ : ∀ {c : Cn} {G0 : Hp} {p : Addr} {od : Obj} {kvs : List (Key × D)} {ks : List (Key × V)}, KvRep K G0 kvs ks → ItR K (J p od ks) (c.with p (.frz od (.dK ks))) G0 (sel kvs))
    (hw : ∀ σ H R p od ks, σ[i]? = some (some (.ref p)) → H p = some (.frz od (.dK ks)) → R (J p od ks) H → wi σ H R)
    (hg : TgD K vs g tg) (ht : EvT K V0 tt test) (he : EvO K V0 te elt) : EvN K V0 (tLockE (tLc wi g tt te vs)) (mLcD vs i sel tg test elt) := by
  intro c G ρ σ H R Q q
  unfold mLcD at q
  split at q
  · rename_i kvs e
    split at q
    · rename_i hv
      rw [Bool.and_eq_true, List.all_eq_true] at hv
      split at q
      · rename_i accF ρF eF
        obtain ⟨p, ob, s, hp, ⟨ks, rfl, hr⟩, hg0, z⟩ := R.own i false _ e
        have z' : c.H0 p = none := z
        have kz : c.keep p = none := by
          cases ek : c.keep p with
          | none => rfl
          | some u => exact absurd s ((R.kp p u ek).2.2 i false _ e)
        obtain ⟨p', ob', s', g', R2, dv⟩ := R.frzSlot e (d := .dict (kvs.map fun p => (keyD p.1, p.2))) rfl
        rw [s] at s'; cases s'
        have no : NotOwn (ρ.set i (some (.imm (.dict (kvs.map fun p => (keyD p.1, p.2)))))) σ p := fun j b o hj hs => by
          rcases get_set hj with ⟨rfl, q, hl⟩ | ⟨ne, q2⟩
          · cases q
          · exact ne (R.dis i j false _ b o p e q2 s hs)
        have eob : ob' = .dK ks := by
          have := R2.le p ob' upd_same
          rcases this with h | ⟨_, kv, e1, h⟩
          · rw [hp] at h; exact (Option.some.inj h).symm
          · rw [hp] at h; cases h
        subst eob
        refine ⟨p, .dK ks, hp, trivial, fun od => ?_⟩
        have R3 := R2.locked (od := od) upd_same hp z' kz no
        refine hw σ _ _ p od ks s upd_same fun D hD => ?_
        have hv2 : ∀ j ∈ vs, noOwn (ρ.set i (some (.imm (.dict (kvs.map fun p => (keyD p.1, p.2)))))) j = true := fun j hj => by
          have ne : i ≠ j := fun e => by
            subst e
            have := hv.2
            simp [hj] at this
          have := hv.1 j hj
          unfold noOwn at this ⊢
          rw [List.getElem?_set_ne ne]; exact this
        refine lc_core (K := K) (c := c.with p (.frz od (.dK ks))) (Q := fun v H' => H' p = some (.frz od (.dK ks)) ∧ Q v (upd H' p (.dK ks))) (hJ (hr.ex (Ex.new g'))) hg ht he R3 hv2 eF ?_ hD
        intro G' H' ex R' v nr
        obtain ⟨hp', R''⟩ := R'.unlocked z' kz
        refine ⟨hp', q G' _ ((Ex.new g').trans ex) R'' v ?_⟩
        obtain ⟨p1, ob1, rfl, h1, r1, g1, z1, k1, n1⟩ := nr
        have ne : p1 ≠ p := fun e => by
          subst e
          rw [hp'] at h1; cases h1
          obtain ⟨_, e, _⟩ := r1; cases e
        have k1' : c.keep p1 = none := by
          have k2 : upd c.keep p (.frz od (.dK ks)) p1 = none := k1
          rw [upd_ne ne] at k2; exact k2
        exact ⟨p1, ob1, rfl, by rw [upd_ne ne]; exact h1, r1, g1, z1, k1', n1⟩
      · exact False.elim q
    · exact False.elim q
  · exact False.elim q
theorem en_lcVals {g : TG} {tt : TT} {te : TE} {vs : List Nat} {tg : D → Env → Option Env} {test : Md Bool} {elt : Md Opd} {i : Nat} (hg : TgD K vs g tg) (ht : EvT K V0 tt test) (he : EvO K V0 te elt) :
    EvN K V0 (tLockE (tLc (iVals (tVar i)) g tt te vs)) (mLcD vs i (fun kvs => kvs.map (·.2)) tg test elt) :=
  en_lcD (J := Itd) itr_vals (fun σ H R p od ks s hp h => ⟨_, s, p, od, ks, rfl, hp, h⟩) hg ht he
theorem en_lcItems {g : TG} {tt : TT} {te : TE} {vs : List Nat} {tg : D → Env → Option Env} {test : Md Bool} {elt : Md Opd} {i : Nat} (hg : TgD K vs g tg) (ht : EvT K V0 tt test) (he : EvO K V0 te elt) :
    EvN K V0 (tLockE (tLc (iItems (tVar i)) g tt te vs)) (mLcD vs i (fun kvs => kvs.map fun q => .tuple [keyD q.1, q.2]) tg test elt) :=
  en_lcD (J := Iti) itr_items (fun σ H R p od ks s hp h => ⟨_, s, p, od, ks, rfl, hp, h⟩) hg ht he
end
end DV

set_option Elab.async false
set_option linter.all false
set_option maxRecDepth 100000
set_option maxHeartbeats 2000000
set_option autoImplicit false
/-! DvExt: isinstance, sorted, two names at once, reversed copies. -/
namespace DV
open PySem L2
/-! ### isinstance -/
def tyN : D → String
  | .none => "NoneType"
  | .bool _ => "bool"
  | .int _ => "int"
  | .str _ => "str"
  | .list _ => "list"
  | .tuple _ => "tuple"
  | .dict _ => "dict"
def isA (t : String) (d : D) : Bool := match d with
  | .none => false
  | .bool _ => t == "bool" || t == "int"
  | .int _ => t == "int"
  | .str _ => t == "str"
  | .list _ => t == "list"
  | .tuple _ => t == "tuple"
  | .dict _ => t == "dict"
def clsN : List String := ["bool", "int", "str", "list", "tuple"]
theorem kit_all : ∀ a ∈ ["NoneType", "bool", "int", "str", "list", "tuple", "dict"], ∀ b ∈ clsN, kitB a b = some (a == b || (a == "bool" && b == "int")) := by decide +kernel
theorem tyN_mem (d : D) : tyN d ∈ ["NoneType", "bool", "int", "str", "list", "tuple", "dict"] := by cases d <;> simp [tyN]
theorem isA_eq (t : String) (h : t ∈ clsN) (d : D) : (tyN d == t || (tyN d == "bool" && t == "int")) = isA t d := by
  revert h
  have : ∀ t ∈ clsN, ((("NoneType" == t || ("NoneType" == "bool" && t == "int")) = false) ∧ (("bool" == t || ("bool" == "bool" && t == "int")) = (t == "bool" || t == "int")) ∧ (("int" == t || ("int" == "bool" && t == "int")) = (t == "int")) ∧ (("str" == t || ("str" == "bool" && t == "int")) = (t == "str"))
    ∧ (("list" == t || ("list" == "bool" && t == "int")) = (t == "list")) ∧ (("tuple" == t || ("tuple" == "bool" && t == "int")) = (t == "tuple")) ∧ (("dict" == t || ("dict" == "bool" && t == "int")) = (t == "dict"))) := by decide
  intro h
  obtain ⟨a, b, c, e, f, g, i⟩ := this t h
  cases d <;> assumption
theorem tyx_vw {K : Kf} {G H : Hp} (l : Le G H) {d : D} {v : V} (h : Vw K G H d v) : TyX K H v (.type (tyN d)) := by
  cases d with
  | none => rw [show v = .non from h]; exact .base .non
  | bool b => rw [show v = .bl b from h]; exact .base (.bl b)
  | int i => rw [show v = .int i from h]; exact .base (.int i)
  | str z => rw [show v = .str z from h]; exact .base (.str z)
  | list ds =>
    obtain ⟨a, vs, rfl, s, _⟩ := h
    rcases s with (s | ⟨o, s⟩) | ⟨o, its, n, e, c, _⟩
    · exact .base (.lst s)
    · exact .base (.frz s)
    · exact .kList e c
  | tuple ds =>
    obtain ⟨a, vs, rfl, s, _⟩ := h
    exact .base (.tup (tup_le l s))
  | dict kvs =>
    obtain ⟨a, ks, rfl, s, _⟩ := h
    rcases s with s | ⟨o, s⟩
    · exact .base (.dK s)
    · exact .fDict s
def mIsi (ts : List String) (f : Md Opd) : Md Opd := Md.bind f fun o ρ => match rs ρ o with
  | some d => .ok (.dat (.bool (ts.any fun t => isA t d))) ρ
  | none => .stuck
section
variable {K : Kf} {W : Wish}
theorem vw_rs {c : Cn} {G H : Hp} {ρ : Env} {σ : St} (R : Rel K c G ρ σ H) {o : Opd} {v : V} {d : D} (r : ORep K G σ o v) (e : rs ρ o = some d) : Vw K G H d v := vw_of R r e
theorem ev_isi {te : TE} {f : Md Opd} (t : String) (ht : t ∈ clsN) (h : EvO K W te f) : EvO K W (tCB (rIsi K) (tCons te (tCons (tC (.ty t)) tNil))) (mIsi [t] f) := by
  intro c G ρ σ H R Q q
  refine h c G ρ σ H R _ (q.bind.mono fun o ρ1 G1 H1 e1 R1 h1 v r => ?_)
  try dsimp only at h1
  split at h1
  · rename_i d ed
    have vw := vw_of R1 r ed
    refine ⟨v, .ty t, .type (tyN d), .type t, isA t d, rfl, .ty t, tyx_vw R1.le vw, ?_, ?_⟩
    · have := kit_all _ (tyN_mem d) t ht
      rw [isA_eq t ht] at this
      exact kit_ty this
    · refine h1.ret R1 _ ?_
      show V.bl (isA t d) = V.bl (isA t d || false)
      rw [Bool.or_false]
  · exact False.elim h1
theorem kitAny_ts (d : D) : ∀ ts : List String, (∀ t ∈ ts, t ∈ clsN) → PySem.W.kitAny K (.type (tyN d)) (ts.map Value.type) = some (ts.any fun t => isA t d)
  | [], _ => rfl
  | t :: ts, h => by
    have e := kit_all _ (tyN_mem d) t (h t (.head _))
    rw [isA_eq t (h t (.head _))] at e
    refine kitAny_cons (kit_ty e) (fun hb => ?_) fun hb => ?_
    · rw [kitAny_ts d ts fun t' m => h t' (.tail _ m), List.any_cons, hb, Bool.false_or]
    · rw [List.any_cons, hb, Bool.true_or]
theorem clsv_ts : ∀ ts : List String, Paired ClsV (ts.map V.ty) (ts.map Value.type)
  | [] => .nil
  | t :: ts => .cons (.ty t) (clsv_ts ts)
theorem ev_isi2 {te : TE} {f : Md Opd} (t u : String) (ht : t ∈ clsN) (hu : u ∈ clsN) (h : EvO K W te f) : EvO K W (tCB (rIsiT K) (tCons te (tCons (tTup (tCons (tC (.ty t)) (tCons (tC (.ty u)) tNil))) tNil))) (mIsi [t, u] f) := by
  intro c G ρ σ H R Q q
  refine h c G ρ σ H R _ (q.bind.mono fun o ρ1 G1 H1 e1 R1 h1 v r => ?_)
  try dsimp only at h1
  split at h1
  · rename_i d ed
    have vw := vw_of R1 r ed
    refine ⟨by show 2 ≤ sizeLine; rw [sizeLine_eq]; omega, fun p hp => ?_⟩
    have hg := R1.gh hp
    have le2 : Le G1 (upd H1 p (.tup [.ty t, .ty u])) := R1.le.mut hg
    have vw2 : Vw K G1 (upd H1 p (.tup [.ty t, .ty u])) d v := by
      cases d with
      | list ds =>
        obtain ⟨a, vs, rfl, s, z⟩ := vw
        exact ⟨a, vs, rfl, sql_ex (Ex.new hp) s, z⟩
      | dict ks =>
        obtain ⟨a, vs, rfl, s, z⟩ := vw
        exact ⟨a, vs, rfl, rd_ex (Ex.new hp) s, z⟩
      | _ => exact vw
    refine ⟨v, p, [.ty t, .ty u], .type (tyN d), [.type t, .type u], [t, u].any fun t => isA t d, rfl, upd_same, clsv_ts [t, u], tyx_vw le2 vw2, kitAny_ts d [t, u] (fun x m => ?_), ?_⟩
    · rcases List.mem_cons.mp m with rfl | m
      · exact ht
      · rw [List.mem_singleton.mp m]; exact hu
    · exact h1.ret (R1.side hp) _ rfl
  · exact False.elim h1
end
/-! ### sorted -/
def rSortedD (K : Kf) : List V → Hp → VK → Prop := fun vs H Q => ∃ (a : Addr) (xs : List V) (ds : List D) (S : V → D → Prop), vs = [.ref a] ∧ SqL K H a xs ∧ DpAll K H xs ds ∧ Paired S xs ds ∧ PySem.W.AllAlike ds ∧ PySem.W.Sortable ds ∧ (∀ d ∈ ds, d.depth ≤ 8) ∧
  ∀ p ys, H p = none → Paired S ys (ds.mergeSort (PySem.W.dataLe false id)) → Q (.ref p) (upd H p (.lst ys))
theorem each_paired {R : Value → D → Prop} : ∀ {us : List Value} {ds : List D}, PySem.W.EachIs R us ds → Paired R us ds
  | _, _, .nil => .nil
  | _, _, .cons h t => .cons h (each_paired t)
theorem each_two {S : V → D → Prop} : ∀ {xs : List V} {us : List Value} {ds : List D}, Vals xs us → Paired S xs ds → PySem.W.EachIs (fun u d => ∃ v, RelV v u ∧ S v d) us ds
  | _, _, _, .nil, .nil => .nil
  | _, _, _, .cons r t, .cons s z => .cons ⟨_, r, s⟩ (each_two t z)
theorem each_back {S : V → D → Prop} : ∀ {us : List Value} {ds : List D}, PySem.W.EachIs (fun u d => ∃ v, RelV v u ∧ S v d) us ds → ∃ ys, Vals ys us ∧ Paired S ys ds
  | _, _, .nil => ⟨[], .nil, .nil⟩
  | _, _, .cons ⟨v, r, s⟩ t => by
    obtain ⟨ys, a, b⟩ := each_back t
    exact ⟨v :: ys, .cons r a, .cons s b⟩
theorem paired_len {S : V → D → Prop} : ∀ {xs : List V} {ds : List D}, Paired S xs ds → xs.length = ds.length
  | _, _, .nil => rfl
  | _, _, .cons _ t => by rw [List.length_cons, List.length_cons, paired_len t]
theorem cr_sortedD {X : Cx} (hu : X.A.units + 65 < cLine) : CallR X (.builtin "sorted") (rSortedD X.K) := by
  intro pins s σ H vs us Q I r h
  obtain ⟨a, xs, ds, S, rfl, hs, dp, ps, hal, hk, hd, q⟩ := h
  obtain ⟨its, rv, hl, hz⟩ := I.list hs
  rw [Vals.ref1 r]
  obtain ⟨as, ra⟩ := Dp.readsAll I ds _ its dp rv
  have ra' : ReadsAll s.heap its (ds.map id) as := by rw [List.map_id]; exact ra
  have er := PySem.W.readsAll_each id ra'
  have e := each_two rv ps
  have hlen := paired_len ps
  refine PySem.W.sorted_data (enc := id) hl.isList e er (by rw [List.map_id]; exact hal) (by rw [List.map_id]; exact hk) (by rw [← hlen]; exact hz) (fun d m => ?_) fun out ho eo => ?_
  · have := hd d m
    show X.A.units + 2 + d.depth < cLine
    omega
  · obtain ⟨ep, he'⟩ := PyProof.Rows.sortedAll_at s.heap its out.toArray
    obtain ⟨ys, v1, v2⟩ := each_back eo
    have hl2 : ys.length ≤ sizeLine := by
      rw [v1.length, ho, ← hlen]; exact hz
    exact ⟨.ref _, upd H (s.heap.objs.size + 1) (.lst ys), I.laid (t' := s.toks) (fun _ _ => PyProof.Rows.sortedAll_old) (Nat.le_succ _) ⟨hl2, out, ep, v1, he'⟩, rfl, q _ ys (I.hok.fresh (Nat.le_succ _)) v2⟩
def tupOne : D → Bool
  | .tuple (_ :: _) => true
  | _ => false
def notTup : D → Bool
  | .none => false
  | .tuple _ => false
  | _ => true
def okSort (ds : List D) : Bool := ds.all (fun d => ds.all fun d' => PySem.W.alike d d') && (ds.all tupOne || ds.all notTup) && ds.all (fun d => decide (d.depth ≤ 8)) && PyData.canLayAll0 ds
def gSorted : List D → Option Own
  | [.list ds] => if okSort ds then some (.lst (ds.mergeSort (PySem.W.dataLe false id))) else none
  | _ => none
theorem paired_dv {K : Kf} {G : Hp} : ∀ {ds : List D} {xs : List V}, DvAll K G ds xs → Paired (fun v d => Dv K G d v) xs ds
  | [], _, h => by rw [h.nil_inv]; exact .nil
  | d :: ds, _, h => by
    obtain ⟨v, r, rfl, a, b⟩ := h.cons_inv
    exact .cons a (paired_dv b)
theorem dv_paired {K : Kf} {G : Hp} : ∀ {ds : List D} {xs : List V}, Paired (fun v d => Dv K G d v) xs ds → DvAll K G ds xs
  | _, _, .nil => .nil
  | _, _, .cons a b => .cons a (dv_paired b)
section
variable {K : Kf} {W : Wish}
theorem ok_sort {ds : List D} (h : okSort ds = true) : PySem.W.AllAlike ds ∧ PySem.W.Sortable ds ∧ (∀ d ∈ ds, d.depth ≤ 8) ∧ PyData.canLayAll0 ds = true := by
  unfold okSort at h
  simp only [Bool.and_eq_true, Bool.or_eq_true, List.all_eq_true, decide_eq_true_eq] at h
  obtain ⟨⟨⟨a, b⟩, c⟩, e⟩ := h
  refine ⟨fun d m d' m' => a d m d' m', ?_, c, e⟩
  rcases b with b | b
  · refine .inl fun d m => ?_
    have := b d m
    unfold tupOne at this
    split at this
    · exact ⟨_, _, rfl⟩
    · cases this
  · refine .inr fun d m => ?_
    have := b d m
    unfold notTup at this
    split at this
    · cases this
    · cases this
    · rename_i n1 n2
      exact ⟨n1, fun xs e => n2 xs e⟩
theorem g_sorted : ClN K (rSortedD K) gSorted := by
  intro G H ds o vs l h e Q q
  unfold gSorted at e
  split at e
  · rename_i es
    split at e
    · rename_i ok
      cases e
      obtain ⟨a1, a2, a3, a4⟩ := ok_sort ok
      cases h with
      | cons hv ht =>
        cases ht
        obtain ⟨a, xs, rfl, s, dv⟩ := hv
        exact ⟨a, xs, es, fun v d => Dv K G d v, rfl, s, dpAll_of l es a4 dv, paired_dv dv, a1, a2, a3, fun p ys hp pr => q p _ hp ⟨ys, rfl, dv_paired pr⟩⟩
    · cases e
  · cases e
end
/-! ### sum, max, min of lists and tuples of whole numbers -/
theorem dp_ints {K : Kf} {H : Hp} : ∀ ns : List Int, DpAll K H (ns.map V.int) (ns.map PyData.int)
  | [] => .nil
  | n :: ns => .cons (.int n) (dp_ints ns)
theorem alike_intsD (ns : List Int) : PySem.W.AlikeAll (ns.map PyData.int) := by
  refine ⟨fun x hx y hy => ?_, fun x hx => ?_⟩
  · obtain ⟨i, _, rfl⟩ := List.mem_map.mp hx
    obtain ⟨j, _, rfl⟩ := List.mem_map.mp hy
    rfl
  · obtain ⟨i, _, rfl⟩ := List.mem_map.mp hx
    exact fun z => nomatch z
theorem dep_intsD : ∀ xs : List Int, PyData.depthAll (xs.map .int) = 0
  | [] => rfl
  | x :: xs => by
    show max 0 (PyData.depthAll (xs.map .int)) = 0
    rw [dep_intsD xs]; rfl
theorem foldl_max_spec : ∀ (ns : List Int) (n : Int), ns.foldl max n ∈ n :: ns ∧ ∀ y ∈ n :: ns, y ≤ ns.foldl max n := fun ns n => by
  have := maxL_spec (ns := n :: ns) (m := ns.foldl max n) rfl
  exact this
theorem foldl_min_spec : ∀ (ns : List Int) (n : Int), ns.foldl min n ∈ n :: ns ∧ ∀ y ∈ n :: ns, ns.foldl min n ≤ y := fun ns n => by
  have := minL_spec (ns := n :: ns) (m := ns.foldl min n) rfl
  exact this
theorem cr_sumA {X : Cx} (hc : X.calm = true) : CallR X (.builtin "sum") (rSumA X.K) := by
  intro pins s σ H vs us Q I r h
  obtain ⟨a, ns, rfl, hs, q⟩ := h
  rcases hs with hs | hs
  · exact cr_sum hc pins s σ H _ us Q I r ⟨a, ns, rfl, hs, q⟩
  · obtain ⟨its, rv, ht, hz⟩ := I.tuple hs
    rw [Vals.ref1 r]
    obtain ⟨xs, e⟩ := rv.ints.allInts.items
    have hn : PySem.numsOf (PySem.intItems xs).toList = ns := by rw [← e]; exact rv.ints.numsOf
    rw [PySem.nums_intItems] at hn
    rw [e] at ht
    refine PySem.W.ktm_sumG (I.ok.hd hc) ht fun h' tk t' hk => ?_
    refine ⟨.int ns.sum, H, I.kept hk, ⟨t', ?_⟩, q⟩
    rw [PySem.preSum_eq, List.take_of_length_le (by simp), hn]
theorem cr_maxA {X : Cx} (hc : X.calm = true) (hu : X.A.units + 65 < cLine) : CallR X (.builtin "max") (rMaxA X.K) := by
  intro pins s σ H vs us Q I r h
  obtain ⟨a, ns, rfl, hs, hne, q⟩ := h
  rcases hs with hs | hs
  · exact cr_max hc pins s σ H _ us Q I r ⟨a, ns, rfl, hs, hne, q⟩
  · obtain ⟨its, rv, ht, hz⟩ := I.tuple hs
    rw [Vals.ref1 r]
    obtain ⟨as, ra⟩ := Dp.readsAll I _ _ its (dp_ints ns) rv
    cases ns with
    | nil => exact absurd hne (by simp)
    | cons n ns =>
      refine PySem.W.max_tuple_data (x := .int n) (xs := ns.map .int) (I.ok.hd hc) ht ra (alike_intsD (n :: ns)) (by have := dep_intsD (n :: ns); show X.A.units + 1 + PyData.depthAll ((n :: ns).map .int) < _; omega) fun i v h' tk bs _ rd hk => ?_
      rw [PySem.W.maxD_ints] at rd
      obtain ⟨m1, m2⟩ := foldl_max_spec ns n
      cases rd
      exact ⟨.int (ns.foldl max n), H, I.kept hk, ⟨_, rfl⟩, q _ m1 m2⟩
theorem cr_minA {X : Cx} (hc : X.calm = true) (hu : X.A.units + 65 < cLine) : CallR X (.builtin "min") (rMinA X.K) := by
  intro pins s σ H vs us Q I r h
  obtain ⟨a, ns, rfl, hs, hne, q⟩ := h
  rcases hs with hs | hs
  · exact cr_min hc pins s σ H _ us Q I r ⟨a, ns, rfl, hs, hne, q⟩
  · obtain ⟨its, rv, ht, hz⟩ := I.tuple hs
    rw [Vals.ref1 r]
    obtain ⟨as, ra⟩ := Dp.readsAll I _ _ its (dp_ints ns) rv
    cases ns with
    | nil => exact absurd hne (by simp)
    | cons n ns =>
      refine PySem.W.min_tuple_data (x := .int n) (xs := ns.map .int) (I.ok.hd hc) ht ra (alike_intsD (n :: ns)) (by have := dep_intsD (n :: ns); show X.A.units + 1 + PyData.depthAll ((n :: ns).map .int) < _; omega) fun i v h' tk bs _ rd hk => ?_
      rw [PySem.W.minD_ints] at rd
      obtain ⟨m1, m2⟩ := foldl_min_spec ns n
      cases rd
      exact ⟨.int (ns.foldl min n), H, I.kept hk, ⟨_, rfl⟩, q _ m1 m2⟩
section
variable {K : Kf} {W : Wish}
/-! ### x, y = a, b (two local names) -/
def sPar (i j : Nat) (fa : Md (List Opd)) : Md Fw := Md.bind fa fun os ρ => match ims ρ os with
  | some [d, e] => if canSet ρ i && canSet (ρ.set i (some (.imm d))) j then .ok .nx ((ρ.set i (some (.imm d))).set j (some (.imm e))) else .stuck
  | _ => .stuck
theorem st_par {i j : Nat} {ta : TA} {fa : Md (List Opd)} (h : EvA K W ta fa) : StD K W (tPar i j ta) (sPar i j fa) := by
  intro c G ρ σ H R D q
  refine h c G ρ σ H R _ (Out.mono (OutS.bindE (σ := σ) q) fun os ρ1 G1 H1 e1 R1 h1 vs r => ?_)
  split at h1
  · rename_i d e ed
    split at h1
    · rename_i hc
      rw [Bool.and_eq_true] at hc
      obtain ⟨v, w, rfl, dv, dw⟩ := vws_dvs2 R1 r ed
      have R2 := R1.setImm (R1.canSet hc.1) dv
      exact ⟨v, w, rfl, OutS.ret (P := fun fl _ σ' G' H' => Leave K c D fl σ' G' H') (R2.setImm (R2.canSet hc.2) dw) h1⟩
    · exact False.elim h1
  · exact False.elim h1
/-! ### xs[::-1], a list -/
def mRev (f : Md Opd) : Md Opd := Md.bind f fun o ρ => match rs ρ o with
  | some (.list ds) => .ok (.dat (.list ds.reverse)) ρ
  | _ => .stuck
theorem dvAll_app {G : Hp} : ∀ {as bs : List D} {us vs : List V}, DvAll K G as us → DvAll K G bs vs → DvAll K G (as ++ bs) (us ++ vs)
  | _, _, _, _, a, b => a.append b
theorem dvAll_rev {G : Hp} : ∀ {ds : List D} {vs : List V}, DvAll K G ds vs → DvAll K G ds.reverse vs.reverse
  | [], _, h => by rw [h.nil_inv]; exact .nil
  | d :: ds, _, h => by
    obtain ⟨v, r, rfl, a, b⟩ := h.cons_inv
    rw [List.reverse_cons, List.reverse_cons]
    exact (dvAll_rev b).append (.cons a .nil)
theorem ev_rev {te : TE} {f : Md Opd} (h : EvO K W te f) : EvO K W (tRevL K te) (mRev f) := by
  intro c G ρ σ H R Q q
  refine h c G ρ σ H R _ (q.bind.mono fun o ρ1 G1 H1 e1 R1 h1 v r => ?_)
  try dsimp only at h1
  split at h1
  · rename_i ds ed
    obtain ⟨a, xs, rfl, s, dv⟩ := vw_of R1 r ed
    refine ⟨a, xs, rfl, s, fun p hp => ?_⟩
    have g := Ex.new (o := .lst xs.reverse) (R1.gh hp)
    exact h1 _ _ g (R1.new hp) _ (dv_lst (DvAll.ex g _ (dvAll_rev dv)) upd_same)
  · exact False.elim h1
/-! ### dict comprehensions -/
def dcL (vs : List Nat) (tg : D → Env → Option Env) (test : Md Bool) (fk fv : Md Opd) : List D → List (Key × D) → Md (List (Key × D))
  | [], acc, ρ => .ok acc ρ
  | d :: ds, acc, ρ => match tg d ρ with
    | none => .stuck
    | some ρ1 => match test ρ1 with
      | .ok false ρ2 => if vs.all (noOwn ρ2) then dcL vs tg test fk fv ds acc (wipeE ρ2 vs) else .stuck
      | .ok true ρ2 => match fk ρ2 with
        | .ok ok ρ3 => match (im ρ3 ok).bind keyOf with
          | some k => match fv ρ3 with
            | .ok o ρ4 => match im ρ4 o with
              | some e => if acc.length < lim ∧ vs.all (noOwn ρ4) = true then dcL vs tg test fk fv ds (putG acc k e) (wipeE ρ4 vs) else .stuck
              | none => .stuck
            | _ => .stuck
          | none => .stuck
        | _ => .stuck
      | _ => .stuck
def mDc (vs : List Nat) (it : Md (List D)) (tg : D → Env → Option Env) (test : Md Bool) (fk fv : Md Opd) : Md Own := Md.bind it fun ds ρ =>
  if vs.all (noOwn ρ) then match dcL vs tg test fk fv ds [] (wipeE ρ vs) with
    | .ok acc ρ' => .ok (.dK acc) (backE ρ vs ρ')
    | _ => .stuck
  else .stuck
theorem dc_core {c : Cn} {G1 H1 : Hp} {ρ1 : Env} {σ : L2.St} {J : It} {ds : List D} {g : TG} {tt : TT} {tk te : TE} {vs : List Nat} {tg : D → Env → Option Env} {test : Md Bool} {fk elt : Md Opd} {Q : VK}
    (hJ : ItR K J c G1 ds) (hg : TgD K vs g tg) (ht : EvT K V0 tt test) (hk : EvO K V0 tk fk) (he : EvO K V0 te elt) (R1 : Rel K c G1 ρ1 σ H1) (hv : ∀ j ∈ vs, noOwn ρ1 j = true) {accF : List (Key × D)} {ρF : Env} (eF : dcL vs tg test fk elt ds [] (wipeE ρ1 vs) = .ok accF ρF)
    (h1 : ∀ G' H', Ex G1 G' → Rel K c G' (backE ρ1 vs ρF) σ H' → ∀ v, NRep K c G' (backE ρ1 vs ρF) σ H' (.dK accF) v → Q v H') {p : Addr} (hp : H1 p = none) :
    ∃ W : Nat → Nat → Hp → Prop, (∃ m, W 0 m (upd H1 p (.dK []))) ∧ ∀ i m H, W i m H →
      (J.stop i H ∧ Q (.ref p) H) ∨ (J.go i H ∧ ∃ Nx : Hp → Prop, (∀ H', Nx H' → ∃ m', m' < m ∧ W (i + 1) m' H') ∧ ∀ x H', J.yld i H x H' → g x (L2.wipe σ vs) H' fun σ2 H2 => L2.wipe σ2 vs = L2.wipe σ vs ∧ tt σ2 H2 fun b H3 =>
        if b = true then tk σ2 H3 fun y H4 => te σ2 H4 fun z H5 => ∃ kvs k, y = kV k ∧ H5 p = some (.dK kvs) ∧ kvs.length < sizeLine ∧ Nx (upd H5 p (.dK (putK kvs k z))) else Nx H3) := by
  have hgp := R1.gh hp
  have h0p := R1.h0 hp
  have hkp := R1.k0 hp
  have nop := R1.notOwn hp
  have R0 : Rel K c G1 ρ1 σ (upd H1 p (.dK [])) := R1.side hp
  refine ⟨fun i m H' => ∃ G' ρ' acc vacc, m = ds.length - i ∧ i ≤ ds.length ∧ Ex G1 G' ∧ Rel K c G' ρ' (L2.wipe σ vs) H' ∧ (∀ j ∈ vs, noOwn ρ' j = true) ∧ H' p = some (.dK vacc) ∧ KvRep K G' acc vacc ∧ G' p = none ∧ NotOwn ρ' (L2.wipe σ vs) p ∧ dcL vs tg test fk elt (ds.drop i) acc ρ' = .ok accF ρF,
    ⟨ds.length, G1, wipeE ρ1 vs, [], [], by omega, Nat.zero_le _, Ex.refl _, R0.wipe hv, noOwn_wipe, upd_same, .nil, hgp, NotOwn.wipe R1.len nop, by rw [List.drop_zero]; exact eF⟩, ?_⟩
  rintro i m H2 ⟨G2, ρ2, acc, vacc, rfl, hi, ex2, R2, nw, hpv, dv2, hg2, no2, h2⟩
  obtain ⟨j1, j2⟩ := hJ G2 ρ2 _ H2 ex2 R2 i
  by_cases hl : i < ds.length
  · have hd : ds[i]? = some ds[i] := List.getElem?_eq_getElem hl
    obtain ⟨go, yl⟩ := j1 _ hd
    have ed : ds.drop i = ds[i] :: ds.drop (i + 1) := List.drop_eq_getElem_cons hl
    rw [ed] at h2
    refine .inr ⟨go, fun H' => ∃ G' ρ' acc vacc, Ex G1 G' ∧ Rel K c G' ρ' (L2.wipe σ vs) H' ∧ (∀ j ∈ vs, noOwn ρ' j = true) ∧ H' p = some (.dK vacc) ∧ KvRep K G' acc vacc ∧ G' p = none ∧ NotOwn ρ' (L2.wipe σ vs) p ∧ dcL vs tg test fk elt (ds.drop (i + 1)) acc ρ' = .ok accF ρF,
      fun H' ⟨G', ρ', a, b, r⟩ => ⟨ds.length - (i + 1), by omega, G', ρ', a, b, rfl, hl, r⟩, fun x H3 hy => ?_⟩
    obtain ⟨G3, al, dvx⟩ := yl x H3 hy
    have R2' : Rel K (c.with p (.dK vacc)) G2 ρ2 (L2.wipe σ vs) H2 := R2.with hpv (.inl hg2) no2
    obtain ⟨R3, ex3, _⟩ := Rel.al al R2'
    unfold dcL at h2
    split at h2
    · cases h2
    · rename_i ρ3 et
      refine hg _ G3 ρ2 _ H3 _ x ρ3 R3 dvx et _ fun σ3 w3 R4 => ⟨by rw [w3]; exact wipe_wipe, ?_⟩
      refine ht _ G3 ρ3 σ3 H3 R4 _ ?_
      -- behind the turn
      have fin : ∀ {G5 H5 : Hp} {ρ5 : Env} {acc' : List (Key × D)} {vacc' : List (Key × V)}, Ex G3 G5 → Rel K c G5 ρ5 σ3 H5 → NotOwn ρ5 σ3 p → (wipeE ρ5 vs = wipeE ρ5 vs) → (∀ j ∈ vs, noOwn ρ5 j = true) → H5 p = some (.dK vacc') → KvRep K G5 acc' vacc' → G5 p = none →
          dcL vs tg test fk elt (ds.drop (i + 1)) acc' (wipeE ρ5 vs) = .ok accF ρF →
          ∃ G' ρ' acc vacc, Ex G1 G' ∧ Rel K c G' ρ' (L2.wipe σ vs) H5 ∧ (∀ j ∈ vs, noOwn ρ' j = true) ∧ H5 p = some (.dK vacc) ∧ KvRep K G' acc vacc ∧ G' p = none ∧ NotOwn ρ' (L2.wipe σ vs) p ∧ dcL vs tg test fk elt (ds.drop (i + 1)) acc ρ' = .ok accF ρF := by
        intro G5 H5 ρ5 acc' vacc' ex5 R5 no5 _ nw5 hp5 dv5 hg5 h5
        refine ⟨G5, wipeE ρ5 vs, acc', vacc', (ex2.trans ex3).trans ex5, ?_, noOwn_wipe, hp5, dv5, hg5, ?_, h5⟩
        · have := R5.wipe nw5
          rw [w3, wipe_wipe] at this
          exact this
        · have := NotOwn.wipe (vs := vs) R5.len no5
          rw [w3, wipe_wipe] at this
          exact this
      have inv : ∀ {G5 H5 : Hp} {ρ5 : Env}, Rel K (c.with p (.dK vacc)) G5 ρ5 σ3 H5 → Rel K c G5 ρ5 σ3 H5 ∧ H5 p = some (.dK vacc) ∧ (G5 p = none ∨ ∃ od kvs, HO.dK vacc = .frz od (.dK kvs) ∧ G5 p = some (.dK kvs)) ∧ NotOwn ρ5 σ3 p := fun R5 => R5.unwith hkp
      cases e4 : test ρ3 with
      | ok b ρ4 =>
        rw [e4] at h2
        intro G4 H4 x4 R5
        cases b with
        | false =>
          rw [if_neg Bool.false_ne_true]
          obtain ⟨Rc, hp4, hg4, no4⟩ := inv R5
          have hg4 : G4 p = none := by
            rcases hg4 with h | ⟨_, _, h, _⟩
            · exact h
            · cases h
          dsimp only at h2
          split at h2
          case isFalse => cases h2
          rename_i hnw
          have nw5 : ∀ j ∈ vs, noOwn ρ4 j = true := List.all_eq_true.mp hnw
          exact fin x4 Rc no4 rfl nw5 hp4 (KvRep.ex (ex3.trans x4) dv2) hg4 h2
        | true =>
          rw [if_pos rfl]
          dsimp only at h2
          refine hk _ G4 ρ4 σ3 H4 R5 _ ?_
          cases e5 : fk ρ4 with
          | ok ok ρ5 =>
            rw [e5] at h2
            dsimp only at h2
            intro G5 H5 x5 R6 vk rk
            split at h2
            · rename_i k ek
              rw [Option.bind_eq_some_iff] at ek
              obtain ⟨dk, ek1, ek2⟩ := ek
              refine he _ G5 ρ5 σ3 H5 R6 _ ?_
              cases e6 : elt ρ5 with
              | ok o ρ6 =>
                rw [e6] at h2
                dsimp only at h2
                intro G6 H6 x6 R7 v rv
                split at h2
                · rename_i e ee
                  split at h2
                  · rename_i hlen
                    obtain ⟨Rc, hp5, hg5, no5⟩ := inv R7
                    have hg5 : G6 p = none := by
                      rcases hg5 with h | ⟨_, _, h, _⟩
                      · exact h
                      · cases h
                    have nw5 : ∀ j ∈ vs, noOwn ρ6 j = true := List.all_eq_true.mp hlen.2
                    have dvacc := KvRep.ex (((ex3.trans x4).trans x5).trans x6) dv2
                    refine ⟨vacc, k, keyOf_vw ((dv_of R6 rk ek1).vw R6.le) ek2, hp5, by rw [kv_length dvacc]; exact lim_lt hlen.1, ?_⟩
                    exact fin ((x4.trans x5).trans x6) (Rc.aside hg5 h0p hkp no5) no5 rfl nw5 upd_same (kv_put (dv_of R7 rv ee) dvacc) hg5 h2
                  · cases h2
                · cases h2
              | raise z ρ6 => rw [e6] at h2; cases h2
              | stuck => rw [e6] at h2; cases h2
            · cases h2
          | raise z ρ5 => rw [e5] at h2; cases h2
          | stuck => rw [e5] at h2; cases h2
      | raise z ρ4 => rw [e4] at h2; cases h2
      | stuck => rw [e4] at h2; cases h2
  · have e : i = ds.length := by omega
    subst e
    rw [List.drop_length] at h2
    have h2' : (Rs.ok acc ρ2 : Rs (List (Key × D))) = .ok accF ρF := h2
    cases h2'
    refine .inl ⟨j2 (Nat.le_refl _), h1 G2 H2 ex2 (R1.back R2 ex2 hv) _ ⟨p, .dK vacc, rfl, hpv, ⟨vacc, rfl, dv2⟩, hg2, h0p, hkp, ?_⟩⟩
    intro j b o hj hs
    rw [backE_get] at hj
    split at hj
    · rename_i hj2
      have hn := hv j hj2.1
      unfold noOwn at hn
      cases q : ρ1[j]? with
      | none => rw [q] at hj; cases hj
      | some y =>
        rw [q] at hj
        have : y = some (.own b o) := Option.some.inj hj
        rw [q, this] at hn; cases hn
    · rename_i hj2
      have nj : j ∉ vs := fun z => hj2 ⟨z, (List.getElem?_eq_some_iff.mp hj).1⟩
      exact no2 j b o hj (by rw [wipe_get, if_neg (fun z => nj z.1)]; exact hs)
theorem en_dc {wi : TI} {g : TG} {tt : TT} {tk te : TE} {vs : List Nat} {fi : Md (List D)} {tg : D → Env → Option Env} {test : Md Bool} {fk elt : Md Opd}
    (hi : EvI K W wi fi) (hg : TgD K vs g tg) (ht : EvT K V0 tt test) (hk : EvO K V0 tk fk) (he : EvO K V0 te elt) : EvN K W (tDc wi g tt tk te vs) (mDc vs fi tg test fk elt) := by
  intro c G ρ σ H R Q q
  refine hi c G ρ σ H R _ (q.bind.mono fun ds ρ1 G1 H1 e1 R1 h1 J hJ p hp => ?_)
  split at h1
  · rename_i hv
    rw [List.all_eq_true] at hv
    split at h1
    · rename_i accF ρF eF
      exact dc_core hJ.r hg ht hk he R1 hv eF h1 hp
    · exact False.elim h1
  · exact False.elim h1
end
end DV

set_option Elab.async false
set_option linter.all false
set_option maxRecDepth 100000
set_option maxHeartbeats 2000000
/-! DvPs: name = {..} on one line, the name a local. -/
namespace L2
open PySem PySem.Spec PyProof.Rows
section
variable {X : Cx}
theorem ps_setDc {i : Nat} {y : Str} {py : Pos} {kx vx tg iter : Expr} {ifs : List Expr} {scope : Scope} {own : List (Str × Nat)} {pos spos : Pos} {wi : TI} {g : TG} {tt : TT} {tk te : TE} (hc : X.calm = true) (hN : X.N.Nodup) (hy : X.N[i]? = some y) (hyl : X.env.scope.names.lookup y = some .local)
    (hsw : swapsWith (.DictComp kx vx [⟨tg, iter, ifs, 0⟩] scope pos) (some (.Name y py)) spos.line X.env = pure true) (hi : PI X tg iter wi) (ok : BlkOk X.N X.env.scope scope own)
    (hg : ∀ (s : Shared) (H : Hp) (C : Addr) (cl : List (Str × Addr)) (fp : List Addr), PG (X.blk s H scope (compEnvC scope cl C X.env) fp) tg g) (ht : ∀ (s : Shared) (H : Hp) (C : Addr) (cl : List (Str × Addr)) (fp : List Addr), PTs (X.blk s H scope (compEnvC scope cl C X.env) fp) ifs tt)
    (hk : ∀ (s : Shared) (H : Hp) (C : Addr) (cl : List (Str × Addr)) (fp : List Addr), PE (X.blk s H scope (compEnvC scope cl C X.env) fp) kx tk)
    (he : ∀ (s : Shared) (H : Hp) (C : Addr) (cl : List (Str × Addr)) (fp : List Addr), PE (X.blk s H scope (compEnvC scope cl C X.env) fp) vx te) (hs : ∀ x, foldedSetIterable iter X.env x = pure x := by intro _; rfl) :
    PS X (.Assign [.Name y py] (.DictComp kx vx [⟨tg, iter, ifs, 0⟩] scope pos) spos) (tAsg (tDc wi g tt tk te (own.map (·.2))) (gName i)) := by
  refine ⟨fun pins s σ H D I h => ?_⟩
  rw [exec_Assign_Name_used _ _ _ _ hsw]
  refine wpAny_bind (wpAny_standAt (wpAny_bind ?_))
  show wpAny _ X.A (do let _ ← comprehension (.DictComp kx vx [⟨tg, iter, ifs, 0⟩] scope pos) scope X.env (firstIterPos [⟨tg, iter, ifs, 0⟩] pos) newDict false (eval iter X.env) (some (assign (.Name y py) X.env))) _ _ s
  have h : tDc wi g tt tk te (own.map (·.2)) σ H (fun x H1 => gName i x σ H1 D.nx) := h
  refine wpAny_bind (thn (dc_core (Qf := fun _ s' => SP X pins D .next s') hc hN I hi ok hg ht hk he hs h fun L C s' m H' I' q hn f => ?_) fun _ s' hq => wpAny_pure (wpAny_pure hq))
  show wpAny _ _ (assign (.Name y py) X.env (.ref L)) _ _ _
  refine wpAny_assign_Name (store_ok2 (v := V.ref L) I' hN hy (.inl hyl) rfl (fun s2 I2 ⟨a, sb, ha⟩ => ?_) (.inr hyl))
  obtain ⟨f0, f1, f2, f3, f4, f5⟩ := f
  have haC : C ≠ a := by
    rcases ha with z | z
    · rw [z]; exact f1
    · exact fun e => f4 y a z e.symm
  refine ⟨m, hn.sameBut sb haC, fun h3 sb3 => ?_⟩
  exact ⟨_, H', I2.turned (t' := s2.toks) (fun b o hb e => (sb3.2 b hb).trans e) f0 f1 f3 f4 f5, q⟩
end
end L2

set_option Elab.async false
set_option linter.all false
set_option maxRecDepth 100000
set_option maxHeartbeats 2000000
set_option autoImplicit false
/-! DvTxt: what the printed texts lean on. -/
namespace DV
open PySem L2
theorem hu65 {A : Around} {k : Nat} (hr : Room k A) : A.units + 65 < cLine := by have := hr.un; omega
theorem hu1 {A : Around} {k : Nat} (hr : Room k A) : A.units + 1 < cLine := by have := hr.un; omega
def blkB (N : List Str) (sc scope : Scope) (own : List (Str × Nat)) : Bool :=
  decide (scope.kind = .function) && scope.names.all (fun y => decide (scope.names.lookup y.1 = some y.2)) && own.all (fun p => decide (N[p.2]? = some p.1))
  && scope.names.all (fun y => !decide (y.2 = .free) || (decide (sc.names.lookup y.1 = some .cell) || decide (sc.names.lookup y.1 = some .free)))
  && scope.names.all (fun y => !(decide (y.2 = .local) || decide (y.2 = .cell)) || (own.any (fun p => decide (p.1 = y.1)) || !N.any fun x => decide (x = y.1)))
theorem blk_ok {N : List Str} {sc scope : Scope} {own : List (Str × Nat)} (h : blkB N sc scope own = true) : BlkOk N sc scope own := by
  unfold blkB at h
  simp only [Bool.and_eq_true, List.all_eq_true, decide_eq_true_eq, Bool.or_eq_true, Bool.not_eq_true', decide_eq_false_iff_not, List.any_eq_true] at h
  obtain ⟨⟨⟨⟨h1, h2⟩, h3⟩, h4⟩, h5⟩ := h
  refine ⟨h1, h2, h3, fun y m e => ?_, fun y m e => ?_⟩
  · rcases h4 y m with q | q
    · exact absurd e q
    · exact q
  · rcases h5 y m with q | q | q
    · rw [Bool.or_eq_false_iff, decide_eq_false_iff_not, decide_eq_false_iff_not] at q
      rcases e with e | e
      · exact absurd e q.1
      · exact absurd e q.2
    · obtain ⟨p, m, e⟩ := q
      exact .inl (List.mem_map.mpr ⟨p, m, e⟩)
    · refine .inr fun m2 => ?_
      rw [List.any_eq_false] at q
      exact q _ m2 (decide_eq_true rfl)
theorem PIp.of {X : Cx} {op : Operator} {r : R2} (h : OpR X (inplaceOp op) r) : PIp X op r := fun pins s σ H x y v u Q I rx ry q => h pins s σ H x y v u Q I rx ry q
def gAddI : D → D → Option D := gI (· + ·)
theorem g_addI {K : Kf} : Op2 K (rI0 fun i j => .int (i + j)) gAddI := g_I0
theorem st_never {K : Kf} {W : Wish} : StD K W tNever Md.stuck := fun _ _ _ _ _ _ _ q => False.elim q
/-- a def of the text, ready to be called -/
structure Cal (P : Program) (w : World) (K : Kf) (mg : Str → Option Value) (base : Heap) (k : Nat) (x : Str) (sp : Sp) : Prop where
  ok : ∃ (f : Addr) (fd : FuncData) (ps : List Str), FnOk P w K mg base CX0 k f fd ps sp ∧ mg x = some (.ref f) ∧ PySem.W.keepIn K (.ref f) = true ∧ Binds K fd ps []
section
variable {X : Cx} {k j : Nat} {x : Str} {sp : Sp} {p pos : Pos}
theorem pe_c {e : Expr} {es : List Expr} {t : TA} (c : Cal X.prog X.w X.K X.mg X.base k x sp) (hr : Room j X.A) (hk : k ≤ j) (hg : Gl X x) (ha : PA X (e :: es) t) (h1 : (x == ("__debug__" : Str)) = false := by decide)
    (h2 : starEach (e :: es) X.env = (false, eval e X.env) :: starEach es X.env := by rfl) (h3 : (backTo pos (starEach es X.env)).any (·.1) = false := by rfl) : PE X (.Call (.Name x p) (e :: es) [] pos) (tCall sp [] E0 t) := by
  obtain ⟨f, fd, ps, F, m, kp, b⟩ := c.ok
  exact pe_call F (hr.mono hk) hg m kp b .nil pass0 ha h1 h2 h3
theorem pe_c0 (c : Cal X.prog X.w X.K X.mg X.base k x sp) (hr : Room j X.A) (hk : k ≤ j) (hg : Gl X x) (h1 : (x == ("__debug__" : Str)) = false := by decide) : PE X (.Call (.Name x p) [] [] pos) (tCall sp [] E0 tNil) := by
  obtain ⟨f, fd, ps, F, m, kp, b⟩ := c.ok
  exact pe_call0 F (hr.mono hk) hg m kp b .nil pass0 h1
theorem pe_gc {v : V} (hg : Gl X x) (h : ∃ u, X.mg x = some u ∧ RelV v u) (h1 : (x == ("__debug__" : Str)) = false := by decide) : PE X (.Name x pos) (tC v) := by
  obtain ⟨u, m, r⟩ := h
  exact pe_glob hg m r h1
end
theorem cal_mk {P : Program} {w : World} {K : Kf} {mg : Str → Option Value} {base : Heap} {k : Nat} {x : Str} {sp : Sp} {f : Addr} {fd : FuncData} {ps : List Str}
    (F : FnOk P w K mg base CX0 k f fd ps sp) (hm : mg x = some (.ref f)) (kp : PySem.W.keepIn K (.ref f) = true) (b : Binds K fd ps []) : Cal P w K mg base k x sp := ⟨⟨f, fd, ps, F, hm, kp, b⟩⟩
/-- no run at all: nothing is promised -/
theorem fn_none {P : Program} {w : World} {K : Kf} {mg : Str → Option Value} {base : Heap} {x qual : Str} {st : Stmt} {f : Addr} {fd : FuncData} {N ps : List Str} {k : Nat} (F : Fun K x qual st f fd) (S : FnScope N ps (defScope st)) {m : List A → Rs A} (hm : ∀ as, m as = .stuck) :
    FnOk P w K mg base CX0 (k + 1) f fd ps (spOf K ps.length N.length m) := by
  refine F.ok S (fun vs H Q E h => h.1) (fun cdv A outer s H vs Q E hr h => ?_)
  obtain ⟨_, c, G, as, _, _, _, sat⟩ := h
  rw [hm] at sat
  exact False.elim sat
/-! the rules again, the written part by its name -/
section
variable {X : Cx} (K : Kf)
theorem k_add (e : X.K = K := by rfl) : OpR X (binaryOp .Add) (rAddS K) := by subst e; exact op_addS
theorem k_eq (hu : X.A.units + 64 < cLine) (e : X.K = K := by rfl) : OpR X (compareOp .Eq) (rEqD K) := by subst e; exact op_eqD hu
theorem k_ne (hu : X.A.units + 64 < cLine) (e : X.K = K := by rfl) : OpR X (compareOp .NotEq) (rNeD K) := by subst e; exact op_neD hu
theorem k_in (hu : X.A.units + 65 < cLine) (e : X.K = K := by rfl) : OpR X (compareOp .In) (rInS K) := by subst e; exact op_inS hu
theorem k_notIn (hu : X.A.units + 65 < cLine) (e : X.K = K := by rfl) : OpR X (compareOp .NotIn) (rNotInS K) := by subst e; exact op_notInS hu
theorem k_ix (hu : X.A.units + 1 < cLine) (e : X.K = K := by rfl) : IxR X (rIxAll K) := by subst e; exact ix_all hu
theorem k_sl (e : X.K = K := by rfl) : SlR X (rSlAll K) := by subst e; exact sl_all
theorem kc_len (e : X.K = K := by rfl) : CallR X (.builtin "len") (rLen K) := by subst e; exact call_lenS
theorem kc_isi (e : X.K = K := by rfl) : CallR X (.builtin "isinstance") (rIsi K) := by subst e; exact call_isi
theorem kc_isiT (e : X.K = K := by rfl) : CallR X (.builtin "isinstance") (rIsiT K) := by subst e; exact call_isiT
theorem kc_sum (hc : X.calm = true) (e : X.K = K := by rfl) : CallR X (.builtin "sum") (rSumA K) := by subst e; exact cr_sumA hc
theorem kc_all (hc : X.calm = true) (e : X.K = K := by rfl) : CallR X (.builtin "all") (rAll K) := by subst e; exact cr_all hc
theorem kc_any (hc : X.calm = true) (e : X.K = K := by rfl) : CallR X (.builtin "any") (rAny K) := by subst e; exact cr_any hc
theorem kc_max (hc : X.calm = true) (hu : X.A.units + 65 < cLine) (e : X.K = K := by rfl) : CallR X (.builtin "max") (rMaxA K) := by subst e; exact cr_maxA hc hu
theorem kc_min (hc : X.calm = true) (hu : X.A.units + 65 < cLine) (e : X.K = K := by rfl) : CallR X (.builtin "min") (rMinA K) := by subst e; exact cr_minA hc hu
theorem kc_sorted (hu : X.A.units + 65 < cLine) (e : X.K = K := by rfl) : CallR X (.builtin "sorted") (rSortedD K) := by subst e; exact cr_sortedD hu
def rTuple (K : Kf) : List V → Hp → VK → Prop := fun xs H Q => ∃ p ys, xs = [.ref p] ∧ ((SqL K H p ys ∧ ∀ l, H l = none → Q (.ref l) (upd H l (.tup ys))) ∨ (SqT K H p ys ∧ Q (.ref p) H))
def rList (K : Kf) : List V → Hp → VK → Prop := fun xs H Q => ∃ p ys, xs = [.ref p] ∧ (SqL K H p ys ∨ SqT K H p ys) ∧ ∀ l, H l = none → Q (.ref l) (upd H l (.lst ys))
theorem kc_tuple (e : X.K = K := by rfl) : CallR X (.type "tuple") (rTuple K) := by subst e; exact call_tuple_of
theorem kc_list (e : X.K = K := by rfl) : CallR X (.type "list") (rList K) := by subst e; exact call_list_of
theorem k_index (hu : X.A.units + 65 < cLine) (e : X.K = K := by rfl) : MtR X "list.index" (rIndexD K) := by subst e; exact mt_indexD hu
theorem kp_seq {tg l : Expr} {tl : TE} (hl : PE X l tl) (e : X.K = K := by rfl) : PI X tg l (iSeq K tl) := by subst e; exact pi_seq hl
theorem kp_zip {a b : Expr} {ta : TA} {p pos tpos : Pos} {elts : List Expr} {kk : Nat} (hg : Gl X "zip") (hm : X.mg "zip" = none) (ha : PA X [a, b] ta) (e : X.K = K := by rfl)
    (hs : starEach [a, b] X.env = (false, eval a X.env) :: starEach [b] X.env := by rfl) (hpl : (backTo pos (starEach [b] X.env)).any (·.1) = false := by rfl) :
    PI X (.Tuple elts kk tpos) (.Call (.Name "zip" p) [a, b] [] pos) (RZ.iZipA K ta) := by subst e; exact RZ.pi_zipA hg hm ha hs hpl
theorem kp_enum {a : Expr} {ta : TA} {p pos tpos : Pos} {elts : List Expr} {kk : Nat} (hg : Gl X "enumerate") (hm : X.mg "enumerate" = none) (ha : PA X [a] ta) (e : X.K = K := by rfl) (hs : starEach [a] X.env = [(false, eval a X.env)] := by rfl) :
    PI X (.Tuple elts kk tpos) (.Call (.Name "enumerate" p) [a] [] pos) (iEnumA K ta) := by subst e; exact pi_enumA hg hm ha hs
theorem kg_tup {es : List Expr} {k : Nat} {t : TGs} {n : Nat} {pos : Pos} (hc : X.calm = true) (h : PGs X es t) (e : X.K = K := by rfl)
    (hn : (assignEach es X.env).length = n := by rfl) (hst : (assignEach es X.env).findIdx? (·.1) = none := by rfl) : PG X (.Tuple es k pos) (gTup K n t) := by subst e; exact pg_tup hc h hn hst
theorem kp_rev {a : Expr} {te : TE} {k : Nat} {p1 p2 p3 pos : Pos} (he : PE X a te) (e : X.K = K := by rfl) : PE X (.Subscript a (.Slice none none (some (.UnaryOp .USub (.Constant (.int 1) k p1) p2)) p3) pos) (tRevL K te) := by subst e; exact pe_revL he
theorem kp_bm0 {T : String} {name : Str} {id : String} {r : V → List V → Hp → VK → Prop} {o : Expr} {to : TE} {apos cpos : Pos} (pa : PlainAttrs T) (slot : Slot T name id) (hty : typeOf (.builtin id) = pure (.type "method_descriptor")) (hm : MtR X id r) (ho : PE X o to) (e : X.K = K := by rfl)
    (hbase : attributeBase o name X.env (eval o X.env) = eval o X.env := by rfl) (hline : (apos.endLine == cpos.line) = true := by rfl) : PE X (.Call (.Attribute o name apos) [] [] cpos) (tBM0 K T r to) := by subst e; exact pe_bm0 pa slot hty hm ho hbase hline
theorem kp_bm {T : String} {name : Str} {id : String} {r : V → List V → Hp → VK → Prop} {o a : Expr} {es : List Expr} {to : TE} {t : TA} {apos cpos : Pos} (pa : PlainAttrs T) (slot : Slot T name id) (hty : typeOf (.builtin id) = pure (.type "method_descriptor")) (hm : MtR X id r) (ho : PE X o to) (ha : PA X (a :: es) t) (e : X.K = K := by rfl)
    (hbase : attributeBase o name X.env (eval o X.env) = eval o X.env := by rfl)
    (hfew : ((backTo cpos (starEach (a :: es) X.env)).all (fun x => !x.1) && (backToKw cpos (keywordEach [] X.env)).all (fun x => x.1.isSome) && decide ((a :: es).length + ([] : List Keyword).length + (if ([] : List Keyword).isEmpty then 0 else 1) < 30)) = true := by rfl)
    (hline : (apos.endLine == cpos.line) = true := by rfl) (hs : starEach (a :: es) X.env = (false, eval a X.env) :: starEach es X.env := by rfl) (hplain : (backTo cpos (starEach es X.env)).any (·.1) = false := by rfl) :
    PE X (.Call (.Attribute o name apos) (a :: es) [] cpos) (tBM K T r to t) := by subst e; exact pe_bm pa slot hty hm ho ha hbase hfew hline hs hplain
theorem k_get (hu : X.A.units + 1 < cLine) (e : X.K = K := by rfl) : PGet X (rGetAll K) := by subst e; exact get_all hu
end
theorem dv_ints {K : Kf} {G : Hp} : ∀ ns : List Int, DvAll K G (ns.map PyData.int) (ns.map V.int)
  | [] => .nil
  | n :: ns => .cons (show Dv K G (.int n) (.int n) from dv_int) (dv_ints ns)
theorem dv_lst' {K : Kf} {H : Hp} {a : Addr} {ns : List Int} (h : SqL K H a (ns.map V.int)) : Dv K H (.list (ns.map PyData.int)) (.ref a) := by
  unfold Dv
  exact ⟨a, _, rfl, h, dv_ints ns⟩
/-- the law's own call -/
theorem law_start {K : Kf} {k : Nat} {m : List A → Rs A} {H : Hp} {a : Addr} {ns : List Int} {E : XK} (hS : SqL K H a (ns.map V.int)) {ρ : Env} (e : m [.imm (.list (ns.map .int))] = .ok (.imm (.bool true)) ρ) (hk : 1 ≤ k) : spOf K 1 k m [.ref a] H (fun v _ => v = .bl true) E := by
  refine ⟨rfl, ⟨H, H, [], fun _ => none⟩, H, [.imm (.list (ns.map .int))], rfl, rfl, ⟨Le.refl H, fun p o h _ => h, Ex.refl H, fun p o h => .inl h, ?_, fun i d h => ?_, fun i b o h => ?_, fun i j b o b' o' p h => ?_, fun j p h => ?_, fun p o h => ?_⟩, ?_⟩
  · unfold startE
    simp
  · have hi := startE_lt h
    have : i = 0 := by simp at hi; omega
    subst this
    have hd : (.list (ns.map .int) : D) = d := by
      have h2 := startE_get h
      injection h2 with h2
      injection h2
    subst hd
    exact ⟨.ref a, rfl, dv_lst' hS⟩
  · have h2 := startE_get h
    have hi := startE_lt h
    have : i = 0 := by simp at hi; omega
    subst this
    injection h2 with h2
    cases h2
  · have h2 := startE_get h
    have hi := startE_lt h
    have : i = 0 := by simp at hi; omega
    subst this
    injection h2 with h2
    cases h2
  · simp at h
  · cases h
  · rw [e]
    intro v σ' G' H' _ _ r
    exact r
end DV

set_option Elab.async false
set_option linter.all false
set_option maxRecDepth 100000
set_option maxHeartbeats 4000000
set_option autoImplicit false
namespace DV
open PySem L2
def topS (i : Nat) : Stmt := PySem.Challenge.pw_coinsteps_k02_whole_rows_of_changes.main.body.getD i (.Pass ⟨0, 0, 0, 0⟩)
structure Txt (K : Kf) (mg : Str → Option Value) : Prop where
  z_isinstance : mg "isinstance" = none
  z_int : mg "int" = none
  z_bool : mg "bool" = none
  z_str : mg "str" = none
  z_len : mg "len" = none
  c_LETTERS : ∃ u, mg "LETTERS" = some u ∧ RelV (.str ("abcdefghijklmnopqrstuvwxyz" : Str)) u
  z_all : mg "all" = none
  z_zip : mg "zip" = none
  z_tuple : mg "tuple" = none
  c_MOST_KINDS : ∃ u, mg "MOST_KINDS" = some u ∧ RelV (.int 8) u
  z_range : mg "range" = none
  c_MOST_COINS : ∃ u, mg "MOST_COINS" = some u ∧ RelV (.int (10 ^ 30)) u
  c_MOST_FEE : ∃ u, mg "MOST_FEE" = some u ∧ RelV (.int 99) u
  z_enumerate : mg "enumerate" = none
  c_MOST_TIMES : ∃ u, mg "MOST_TIMES" = some u ∧ RelV (.int (10 ^ 31)) u
  z_list : mg "list" = none
  c_MOST_CHANGES : ∃ u, mg "MOST_CHANGES" = some u ∧ RelV (.int 60) u
  z_abs : mg "abs" = none
  z_sum : mg "sum" = none
  z_sorted : mg "sorted" = none
  z_min : mg "min" = none
  z_max : mg "max" = none
def m_is_from : List A → Rs A := runFn 3
  (sRet (mAndV (mIsi ["int"] (mVar 0)) (mAndV (mNotV (mIsi ["bool"] (mVar 0))) (mChain gLe gLe (mVar 1) (mVar 0) (mVar 2)))))

def x_is_name_1 : Md Opd :=
  (m2 gIn (mVar 1) (mC (.str ("abcdefghijklmnopqrstuvwxyz" : Str))))
def c_is_name_1 : Md Own :=
  mLc [1] (mStr (mVar 0)) (tN 1) (Md.ret true) x_is_name_1
def m_is_name : List A → Rs A := runFn 2
  (sRet (mAndV (mIsi ["str"] (mVar 0)) (mAndV (mChain gLe gLe (mC (.int 1)) (mCall gLen (mCons (mVar 0) mNil)) (mC (.int 8))) (mCall gAll (mCons (mFrz c_is_name_1) mNil)))))

def x_is_rising_1 : Md Opd :=
  (m2 gLt (mVar 1) (mVar 2))
def c_is_rising_1 : Md Own :=
  mLc [1, 2] (mZip (mCons (mVar 0) (mCons (mSl (mVar 0) (mPart (mC (.int 1))) (Md.ret none)) mNil))) (tTupT 2 (tsCons (tN 1) (tsCons (tN 2) tsNil))) (Md.ret true) x_is_rising_1
def m_is_rising : List A → Rs A := runFn 3
  (sRet (mCall gAll (mCons (mFrz c_is_rising_1) mNil)))

def m_is_coin : List A → Rs A := runFn 1
  (sSeq (sIf (mOrT (mNotT (mT (mIsi ["tuple"] (mVar 0)))) (mOrT (mT (m2 gNe (mCall gLen (mCons (mVar 0) mNil)) (mC (.int 3)))) (mOrT (mNotT (mT (mImm (mCallA 1 m_is_name (mCons (m2 gIx (mVar 0) (mC (.int 0))) mNil))))) (mNotT (mT (mIsi ["str"] (m2 gIx (mVar 0) (mC (.int 2)))))))))
  (sRet (mC (.bool false)))
  sNx)
  (sRet (mIf (mT (m2 gEq (m2 gIx (mVar 0) (mC (.int 2))) (mC (.str ("" : Str))))) (mImm (mCallA 3 m_is_from (mCons (m2 gIx (mVar 0) (mC (.int 1))) (mCons (mC (.int 0)) (mCons (mC (.int 0)) mNil))))) (mImm (mCallA 3 m_is_from (mCons (m2 gIx (mVar 0) (mC (.int 1))) (mCons (mC (.int 2)) (mCons (mC (.int 9)) mNil))))))))

def x_are_coins_1 : Md Opd :=
  (mImm (mCallA 1 m_is_coin (mCons (mVar 1) mNil)))
def c_are_coins_1 : Md Own :=
  mLc [1] (mSeq (mVar 0)) (tN 1) (Md.ret true) x_are_coins_1
def x_are_coins_2 : Md Opd :=
  (m2 gIx (mVar 1) (mC (.int 0)))
def c_are_coins_2 : Md Own :=
  mLc [1] (mSeq (mVar 0)) (tN 1) (Md.ret true) x_are_coins_2
def c_are_coins_3 : Md Own :=
  mDc [3, 4, 5] (mSeq (mVar 0)) (tTupT 3 (tsCons (tN 3) (tsCons (tN 4) (tsCons (tN 5) tsNil)))) (Md.ret true) (mVar 3) (mVar 5)
def b_are_coins_1 : Md Fw :=
  (sSeq (sSet 6 (mIf (mT (m2 gNe (mVar 6) (mC (.str ("" : Str))))) (mGet (mVar 2) (mVar 6) (mC (.str ("" : Str)))) (mC (.str ("" : Str)))))
  (sIf (mAndT (mT (m2 gNe (mVar 6) (mC (.str ("" : Str))))) (mT (m2 gNotIn (mVar 6) (mVar 2))))
  (sRet (mC (.bool false)))
  sNx))
def l_are_coins_1 : Md Fw :=
  sFor (mRange1 (mCons (mCall gLen (mCons (mVar 2) mNil)) mNil)) (tN 7) b_are_coins_1
def b_are_coins_2 : Md Fw :=
  (sSeq (sSet 6 (mVar 3))
  (sSeq l_are_coins_1
  (sIf (mT (m2 gNe (mVar 6) (mC (.str ("" : Str)))))
  (sRet (mC (.bool false)))
  sNx)))
def l_are_coins_2 : Md Fw :=
  sForKeys 2 (tN 3) b_are_coins_2
def m_are_coins : List A → Rs A := runFn 8
  (sSeq (sIf (mOrT (mNotT (mT (mIsi ["tuple"] (mVar 0)))) (mOrT (mNotT (mT (mChain gLe gLe (mC (.int 1)) (mCall gLen (mCons (mVar 0) mNil)) (mC (.int 8))))) (mNotT (mT (mCall gAll (mCons (mFrz c_are_coins_1) mNil))))))
  (sRet (mC (.bool false)))
  sNx)
  (sSeq (sIf (mNotT (mT (mImm (mCallA 1 m_is_rising (mCons (mFrz c_are_coins_2) mNil)))))
  (sRet (mC (.bool false)))
  sNx)
  (sSeq (sSetN 2 c_are_coins_3)
  (sSeq l_are_coins_2
  (sRet (mC (.bool true)))))))

def m_need_coins : List A → Rs A := runFn 1
  (sIf (mNotT (mT (mImm (mCallA 1 m_are_coins (mCons (mVar 0) mNil)))))
  Md.stuck
  sNx)

def x_is_stock_1 : Md Opd :=
  (mImm (mCallA 3 m_is_from (mCons (mVar 2) (mCons (mC (.int 0)) (mCons (mC (.int (10 ^ 30))) mNil)))))
def c_is_stock_1 : Md Own :=
  mLc [2] (mSeq (mVar 1)) (tN 2) (Md.ret true) x_is_stock_1
def m_is_stock : List A → Rs A := runFn 3
  (sSeq (sIf (mOrT (mNotT (mT (mIsi ["tuple"] (mVar 1)))) (mT (m2 gNe (mCall gLen (mCons (mVar 1) mNil)) (mCall gLen (mCons (mVar 0) mNil)))))
  (sRet (mC (.bool false)))
  sNx)
  (sRet (mCall gAll (mCons (mFrz c_is_stock_1) mNil))))

def m_need_purse : List A → Rs A := runFn 2
  (sSeq (sDrop (mImm (mCallA 1 m_need_coins (mCons (mVar 0) mNil))))
  (sIf (mNotT (mT (mImm (mCallA 2 m_is_stock (mCons (mVar 0) (mCons (mVar 1) mNil))))))
  Md.stuck
  sNx))

def x_are_paid_1 : Md Opd :=
  (mImm (mCallA 3 m_is_from (mCons (mVar 2) (mCons (mC (.int 0)) (mCons (mC (.int 99)) mNil)))))
def c_are_paid_1 : Md Own :=
  mLc [2] (mSeq (mVar 1)) (tN 2) (Md.ret true) x_are_paid_1
def m_are_paid : List A → Rs A := runFn 3
  (sSeq (sIf (mOrT (mNotT (mT (mIsi ["tuple"] (mVar 1)))) (mT (m2 gNe (mCall gLen (mCons (mVar 1) mNil)) (mCall gLen (mCons (mVar 0) mNil)))))
  (sRet (mC (.bool false)))
  sNx)
  (sRet (mCall gAll (mCons (mFrz c_are_paid_1) mNil))))

def m_need_fees : List A → Rs A := runFn 2
  (sSeq (sDrop (mImm (mCallA 1 m_need_coins (mCons (mVar 0) mNil))))
  (sIf (mNotT (mT (mImm (mCallA 2 m_are_paid (mCons (mVar 0) (mCons (mVar 1) mNil))))))
  Md.stuck
  sNx))

def b_place_of_1 : Md Fw :=
  (sIf (mT (m2 gEq (m2 gIx (mVar 3) (mC (.int 0))) (mVar 1)))
  (sRet (mVar 2))
  sNx)
def l_place_of_1 : Md Fw :=
  sFor (mEnum (mCons (mVar 0) mNil)) (tTupT 2 (tsCons (tN 2) (tsCons (tN 3) tsNil))) b_place_of_1
def m_place_of : List A → Rs A := runFn 4
  (sSeq l_place_of_1
  (sRet (mC .none)))

def m_is_change : List A → Rs A := runFn 3
  (sSeq (sIf (mOrT (mNotT (mT (mIsi ["tuple"] (mVar 1)))) (mOrT (mT (m2 gNe (mCall gLen (mCons (mVar 1) mNil)) (mC (.int 2)))) (mNotT (mT (mIsi ["str"] (m2 gIx (mVar 1) (mC (.int 0))))))))
  (sRet (mC (.bool false)))
  sNx)
  (sSeq (sSet 2 (mImm (mCallA 2 m_place_of (mCons (mVar 0) (mCons (m2 gIx (mVar 1) (mC (.int 0))) mNil)))))
  (sSeq (sIf (mOrT (mT (m2 gIsN (mVar 2) (mC .none))) (mT (m2 gEq (m2 gIx (m2 gIx (mVar 0) (mVar 2)) (mC (.int 2))) (mC (.str ("" : Str))))))
  (sRet (mC (.bool false)))
  sNx)
  (sRet (mAndV (mImm (mCallA 3 m_is_from (mCons (m2 gIx (mVar 1) (mC (.int 1))) (mCons (m1 gNeg (mC (.int (10 ^ 31)))) (mCons (mC (.int (10 ^ 31))) mNil))))) (m2 gNe (m2 gIx (mVar 1) (mC (.int 1))) (mC (.int 0))))))))

def x_are_changes_1 : Md Opd :=
  (mImm (mCallA 2 m_is_change (mCons (mVar 0) (mCons (mVar 2) mNil))))
def c_are_changes_1 : Md Own :=
  mLc [2] (mSeq (mVar 1)) (tN 2) (Md.ret true) x_are_changes_1
def m_are_changes : List A → Rs A := runFn 3
  (sRet (mAndV (mIsi ["list"] (mVar 1)) (mAndV (m2 gLe (mCall gLen (mCons (mVar 1) mNil)) (mC (.int 60))) (mCall gAll (mCons (mFrz c_are_changes_1) mNil)))))

def m_need_row : List A → Rs A := runFn 2
  (sIf (mNotT (mT (mImm (mCallA 2 m_are_changes (mCons (mVar 0) (mCons (mVar 1) mNil))))))
  Md.stuck
  sNx)

def b_changed_1 : Md Fw :=
  (sIf (mT (m2 gLt (m2 gIx (mVar 6) (mVar 7)) (mC (.int 0))))
  (sRet (mTup (mCons (mC .none) (mCons (m2 gIx (m2 gIx (mVar 0) (mVar 7)) (mC (.int 0))) mNil))))
  sNx)
def l_changed_1 : Md Fw :=
  sFor (mSeq (mTup (mCons (mVar 3) (mCons (mVar 5) mNil)))) (tN 7) b_changed_1
def m_changed : List A → Rs A := runFn 8
  (sSeq (sSet 3 (mImm (mCallA 2 m_place_of (mCons (mVar 0) (mCons (m2 gIx (mVar 2) (mC (.int 0))) mNil)))))
  (sSeq (sPar 4 5 (mCons (m2 gIx (m2 gIx (mVar 0) (mVar 3)) (mC (.int 1))) (mCons (mImm (mCallA 2 m_place_of (mCons (mVar 0) (mCons (m2 gIx (m2 gIx (mVar 0) (mVar 3)) (mC (.int 2))) mNil)))) mNil)))
  (sSeq (sSetN 6 (mCallN gList (mCons (mVar 1) mNil)))
  (sSeq (sAug 6 DV.gSub (mVar 3) (m2 gMul (mVar 4) (m2 gIx (mVar 2) (mC (.int 1)))))
  (sSeq (sAug 6 gAddI (mVar 5) (m2 gIx (mVar 2) (mC (.int 1))))
  (sSeq l_changed_1
  (sRet (mTup (mCons (mCall gTuple (mCons (mVar 6) mNil)) (mCons (mC .none) mNil))))))))))

def b_done_1 : Md Fw :=
  (sIf (mT (m2 gNotN (mVar 1) (mC .none)))
  (sSet 1 (m2 gIx (mImm (mCallA 3 m_changed (mCons (mVar 0) (mCons (mVar 1) (mCons (mVar 3) mNil))))) (mC (.int 0))))
  sNx)
def l_done_1 : Md Fw :=
  sFor (mSeq (mVar 2)) (tN 3) b_done_1
def m_done : List A → Rs A := runFn 4
  (sSeq l_done_1
  (sRet (mVar 1)))

def m_behind : List A → Rs A := runFn 3
  (sSeq (sDrop (mImm (mCallA 2 m_need_purse (mCons (mVar 0) (mCons (mVar 1) mNil)))))
  (sSeq (sDrop (mImm (mCallA 2 m_need_row (mCons (mVar 0) (mCons (mVar 2) mNil)))))
  (sRetA (mCallA 3 m_done (mCons (mVar 0) (mCons (mVar 1) (mCons (mVar 2) mNil)))))))

def x_cost_1 : Md Opd :=
  (m2 gMul (m2 gIx (mVar 1) (mImm (mCallA 2 m_place_of (mCons (mVar 0) (mCons (mVar 3) mNil))))) (mCall gAbs (mCons (mVar 4) mNil)))
def c_cost_1 : Md Own :=
  mLc [3, 4] (mSeq (mVar 2)) (tTupT 2 (tsCons (tN 3) (tsCons (tN 4) tsNil))) (Md.ret true) x_cost_1
def m_cost : List A → Rs A := runFn 5
  (sSeq (sDrop (mImm (mCallA 2 m_need_fees (mCons (mVar 0) (mCons (mVar 1) mNil)))))
  (sSeq (sDrop (mImm (mCallA 2 m_need_row (mCons (mVar 0) (mCons (mVar 2) mNil)))))
  (sRet (mCall gSum (mCons (mFrz c_cost_1) mNil)))))

def m__law_deck : List A → Rs A := runFn 2
  (sSeq (sIf (mT (m2 gGe (mVar 0) (m2 gPow (mC (.int 10)) (mC (.int 18)))))
  (sRetN (mLstN (mCons (m2 DV.gSub (mVar 0) (m2 gPow (mC (.int 10)) (mC (.int 18)))) (mCons (m2 gMod (mVar 0) (mC (.int 2147483579))) (mCons (mVar 1) mNil)))))
  sNx)
  (sRetN (mLstN (mCons (mC (.int 0)) (mCons (m2 gMod (mVar 0) (mC (.int 2147483579))) (mCons (mVar 1) mNil))))))

def m__law_pick : List A → Rs A := runFn 4
  (sSeq (sIf (mT (m2 gGt (m2 gIx (mVar 0) (mC (.int 0))) (mC (.int 1))))
  (sSeq (sSet 2 (m2 gMod (m2 gIx (mVar 0) (mC (.int 0))) (mVar 1)))
  (sSeq (sPut 0 (mC (.int 0)) (m2 gDiv (m2 gIx (mVar 0) (mC (.int 0))) (mVar 1)))
  (sRet (mVar 2))))
  sNx)
  (sSeq (sPut 0 (mC (.int 2)) (m2 gAdd (m2 gIx (mVar 0) (mC (.int 2))) (mC (.int 1))))
  (sSeq (sSet 3 (m2 gMod (m2 gPow (m2 gAdd (m2 gIx (mVar 0) (mC (.int 1))) (m2 gMul (mC (.int 15485867)) (m2 gIx (mVar 0) (mC (.int 2))))) (mC (.int 5))) (mC (.int 2147483647))))
  (sSeq (sSet 2 (m2 gDiv (m2 gMod (m2 gPow (m2 gAdd (mVar 3) (m2 gMul (mC (.int 7919)) (m2 gIx (mVar 0) (mC (.int 2))))) (mC (.int 3))) (mC (.int 2147483629))) (mC (.int 32))))
  (sRet (m2 gMod (mVar 2) (mVar 1)))))))

def m__law_one : List A → Rs A := runFn 2
  (sRet (m2 gIx (mVar 1) (mImm (mCallA 2 m__law_pick (mCons (mVar 0) (mCons (mCall gLen (mCons (mVar 1) mNil)) mNil))))))

def m__law_sort : List A → Rs A := runFn 1
  (sSeq (sIf (mT (mIsi ["bool"] (mVar 0)))
  (sRet (mC (.int 1)))
  sNx)
  (sSeq (sIf (mT (mIsi ["int"] (mVar 0)))
  (sRet (mC (.int 2)))
  sNx)
  (sSeq (sIf (mT (mIsi ["str"] (mVar 0)))
  (sRet (mC (.int 3)))
  sNx)
  (sSeq (sIf (mT (mIsi ["list"] (mVar 0)))
  (sRet (mC (.int 4)))
  sNx)
  (sRet (mIf (mT (mIsi ["tuple"] (mVar 0))) (mC (.int 5)) (mC (.int 6))))))))

def t__law_same_1 (rec : List A → Rs A) : Md Bool :=
  (mNotT (mT (mImm (mCallA 2 rec (mCons (mVar 3) (mCons (m2 gIx (mVar 1) (mVar 2)) mNil))))))
def c__law_same_1 (rec : List A → Rs A) : Md Own :=
  mLc [2, 3] (mEnum (mCons (mVar 0) mNil)) (tTupT 2 (tsCons (tN 2) (tsCons (tN 3) tsNil))) (t__law_same_1 rec) (mVar 2)
def m__law_same : Nat → List A → Rs A
  | 0 => fun _ => .stuck
  | n + 1 => runFn 4
    (sSeq (sIf (mT (m2 gNe (mImm (mCallA 1 m__law_sort (mCons (mVar 0) mNil))) (mImm (mCallA 1 m__law_sort (mCons (mVar 1) mNil)))))
    (sRet (mC (.bool false)))
    sNx)
    (sSeq (sIf (mAndT (mT (m2 gGt (mImm (mCallA 1 m__law_sort (mCons (mVar 0) mNil))) (mC (.int 3)))) (mT (m2 gLt (mImm (mCallA 1 m__law_sort (mCons (mVar 0) mNil))) (mC (.int 6)))))
    (sSeq (sIf (mT (m2 gNe (mCall gLen (mCons (mVar 0) mNil)) (mCall gLen (mCons (mVar 1) mNil))))
    (sRet (mC (.bool false)))
    sNx)
    (sRet (m2 gEq (mFrz (c__law_same_1 (m__law_same n))) (mLst mNil))))
    sNx)
    (sRet (m2 gEq (mVar 0) (mVar 1)))))

def b__law_coins_1 : Md Fw :=
  (sDrop (mMeth 3 gAppend (mCons (mMeth 2 gPopAt (mCons (mImm (mCallA 2 m__law_pick (mCons (mVar 0) (mCons (mCall gLen (mCons (mVar 2) mNil)) mNil)))) mNil)) mNil)))
def l__law_coins_1 : Md Fw :=
  sFor (mRange1 (mCons (m2 gAdd (mC (.int 1)) (mImm (mCallA 2 m__law_pick (mCons (mVar 0) (mCons (mVar 1) mNil))))) mNil)) (tN 4) b__law_coins_1
def b__law_coins_2 : Md Fw :=
  (sIf (mOrT (mT (m2 gEq (mVar 6) (mC (.int 0)))) (mT (m2 gEq (mImm (mCallA 2 m__law_pick (mCons (mVar 0) (mCons (mC (.int 7)) mNil)))) (mC (.int 0)))))
  (sDrop (mMeth 5 gAppend (mCons (mTup (mCons (mVar 7) (mCons (mC (.int 0)) (mCons (mC (.str ("" : Str))) mNil)))) mNil)))
  (sDrop (mMeth 5 gAppend (mCons (mTup (mCons (mVar 7) (mCons (mImm (mCallA 2 m__law_one (mCons (mVar 0) (mCons (mLst (mCons (mC (.int 2)) (mCons (mC (.int 2)) (mCons (mC (.int 3)) (mCons (mC (.int 5)) (mCons (m2 gAdd (mC (.int 2)) (mImm (mCallA 2 m__law_pick (mCons (mVar 0) (mCons (mC (.int 8)) mNil))))) mNil)))))) mNil)))) (mCons (m2 gIx (mVar 3) (mImm (mCallA 2 m__law_pick (mCons (mVar 0) (mCons (mVar 6) mNil))))) mNil)))) mNil))))
def l__law_coins_2 : Md Fw :=
  sFor (mEnum (mCons (mFrzV 3) mNil)) (tTupT 2 (tsCons (tN 6) (tsCons (tN 7) tsNil))) b__law_coins_2
def m__law_coins : List A → Rs A := runFn 8
  (sSeq (sSetN 2 (mLstN (mCons (mC (.str ("ant" : Str))) (mCons (mC (.str ("bee" : Str))) (mCons (mC (.str ("cent" : Str))) (mCons (mC (.str ("dime" : Str))) (mCons (mC (.str ("elk" : Str))) (mCons (mC (.str ("fox" : Str))) (mCons (mC (.str ("gnu" : Str))) (mCons (mC (.str ("hen" : Str))) mNil))))))))))
  (sSeq (sSetN 3 (mLstN mNil))
  (sSeq l__law_coins_1
  (sSeq (sSetN 5 (mLstN mNil))
  (sSeq l__law_coins_2
  (sRet (mCall gTuple (mCons (mFrz (mCallN gSorted (mCons (mVar 5) mNil))) mNil))))))))

def b__law_purse_1 : Md Fw :=
  (sDrop (mMeth 3 gAppend (mCons (mImm (mCallA 2 m__law_one (mCons (mVar 0) (mCons (mLst (mCons (mC (.int 0)) (mCons (mC (.int 1)) (mCons (mImm (mCallA 2 m__law_pick (mCons (mVar 0) (mCons (m2 gAdd (mVar 2) (mC (.int 1))) mNil)))) (mCons (mImm (mCallA 2 m__law_pick (mCons (mVar 0) (mCons (m2 gAdd (mVar 2) (mC (.int 1))) mNil)))) mNil))))) mNil)))) mNil)))
def l__law_purse_1 : Md Fw :=
  sFor (mSeq (mVar 1)) (tN 4) b__law_purse_1
def m__law_purse : List A → Rs A := runFn 5
  (sSeq (sSetN 3 (mLstN mNil))
  (sSeq l__law_purse_1
  (sRet (mCall gTuple (mCons (mVar 3) mNil)))))

def x__law_at_1 : Md Opd :=
  (m2 gIx (mVar 2) (mC (.int 0)))
def c__law_at_1 : Md Own :=
  mLc [2] (mSeq (mVar 0)) (tN 2) (Md.ret true) x__law_at_1
def m__law_at : List A → Rs A := runFn 3
  (sRet (mLook gIndex (mFrz c__law_at_1) (mCons (mVar 1) mNil)))

def m__law_changed : List A → Rs A := runFn 8
  (sSeq (sSet 4 (mImm (mCallA 2 m__law_at (mCons (mVar 0) (mCons (mVar 2) mNil)))))
  (sSeq (sPar 5 6 (mCons (m2 gIx (m2 gIx (mVar 0) (mVar 4)) (mC (.int 1))) (mCons (mImm (mCallA 2 m__law_at (mCons (mVar 0) (mCons (m2 gIx (m2 gIx (mVar 0) (mVar 4)) (mC (.int 2))) mNil)))) mNil)))
  (sSeq (sSetN 7 (mCallN gList (mCons (mVar 1) mNil)))
  (sSeq (sPut 7 (mVar 4) (m2 DV.gSub (m2 gIx (mVar 7) (mVar 4)) (m2 gMul (mVar 5) (mVar 3))))
  (sSeq (sPut 7 (mVar 6) (m2 gAdd (m2 gIx (mVar 7) (mVar 6)) (mVar 3)))
  (sRet (mIf (mT (m2 gGe (mCall gMin (mCons (mVar 7) mNil)) (mC (.int 0)))) (mCall gTuple (mCons (mVar 7) mNil)) (mC .none))))))))

def b__law_done_1 : Md Fw :=
  (sIf (mT (m2 gNotN (mVar 1) (mC .none)))
  (sSet 1 (mImm (mCallA 4 m__law_changed (mCons (mVar 0) (mCons (mVar 1) (mCons (mVar 3) (mCons (mVar 4) mNil)))))))
  sNx)
def l__law_done_1 : Md Fw :=
  sFor (mSeq (mVar 2)) (tTupT 2 (tsCons (tN 3) (tsCons (tN 4) tsNil))) b__law_done_1
def m__law_done : List A → Rs A := runFn 5
  (sSeq l__law_done_1
  (sRet (mVar 1)))

def b__law_singles_1 : Md Fw :=
  (sIf (mAndT (mT (m2 gNe (m2 gIx (mVar 3) (mC (.int 2))) (mC (.str ("" : Str))))) (mT (m2 gNotN (mImm (mCallA 4 m__law_changed (mCons (mVar 0) (mCons (mVar 1) (mCons (m2 gIx (mVar 3) (mC (.int 0))) (mCons (mVar 4) mNil)))))) (mC .none))))
  (sDrop (mMeth 2 gAppend (mCons (mTup (mCons (m2 gIx (mVar 3) (mC (.int 0))) (mCons (mVar 4) mNil))) mNil)))
  sNx)
def l__law_singles_1 : Md Fw :=
  sFor (mSeq (mLst (mCons (m1 gNeg (mC (.int 1))) (mCons (mC (.int 1)) mNil)))) (tN 4) b__law_singles_1
def b__law_singles_2 : Md Fw :=
  l__law_singles_1
def l__law_singles_2 : Md Fw :=
  sFor (mSeq (mVar 0)) (tN 3) b__law_singles_2
def m__law_singles : List A → Rs A := runFn 5
  (sSeq (sSetN 2 (mLstN mNil))
  (sSeq l__law_singles_2
  (sRet (mVar 2))))

def b__law_row_1 : Md Fw :=
  (sSeq (sSet 7 (mImm (mCallA 2 m__law_singles (mCons (mVar 1) (mCons (mVar 2) mNil)))))
  (sSeq (sIf (mT (m2 gEq (mVar 7) (mLst mNil)))
  (sRet (mVar 5))
  sNx)
  (sSeq (sTg (tTupT 2 (tsCons (tN 8) (tsCons (tN 9) tsNil))) (mImm (mCallA 2 m__law_one (mCons (mVar 0) (mCons (mVar 7) mNil)))))
  (sSeq (sSet 10 (m2 gMul (mVar 9) (m2 gAdd (mC (.int 1)) (mImm (mCallA 2 m__law_pick (mCons (mVar 0) (mCons (mVar 4) mNil)))))))
  (sSeq (sSet 11 (mImm (mCallA 4 m__law_changed (mCons (mVar 1) (mCons (mVar 2) (mCons (mVar 8) (mCons (mVar 10) mNil)))))))
  (sSeq (sIf (mT (m2 gIsN (mVar 11) (mC .none)))
  (sSeq (sSet 10 (mVar 9))
  (sSet 11 (mImm (mCallA 4 m__law_changed (mCons (mVar 1) (mCons (mVar 2) (mCons (mVar 8) (mCons (mVar 10) mNil))))))))
  sNx)
  (sSeq (sDrop (mMeth 5 gAppend (mCons (mTup (mCons (mVar 8) (mCons (mVar 10) mNil))) mNil)))
  (sSet 2 (mVar 11)))))))))
def l__law_row_1 : Md Fw :=
  sFor (mRange1 (mCons (mImm (mCallA 2 m__law_pick (mCons (mVar 0) (mCons (m2 gAdd (mVar 3) (mC (.int 1))) mNil)))) mNil)) (tN 6) b__law_row_1
def m__law_row : List A → Rs A := runFn 12
  (sSeq (sSetN 5 (mLstN mNil))
  (sSeq l__law_row_1
  (sRet (mVar 5))))

def b_law_1 : Md Fw :=
  (sSeq (sTg (tTupT 2 (tsCons (tN 8) (tsCons (tN 9) tsNil))) (mImm (mCallA 2 m__law_one (mCons (mVar 2) (mCons (mVar 5) mNil)))))
  (sDrop (mMeth 6 gInsert (mCons (mImm (mCallA 2 m__law_pick (mCons (mVar 2) (mCons (mCall gLen (mCons (mVar 5) mNil)) mNil)))) (mCons (mTup (mCons (mVar 8) (mCons (m2 gMul (mVar 9) (mImm (mCallA 2 m__law_one (mCons (mVar 2) (mCons (mLst (mCons (mC (.int 1)) (mCons (mC (.int 2)) (mCons (mC (.int 50)) mNil)))) mNil))))) mNil))) mNil)))))
def l_law_1 : Md Fw :=
  sFor (mRange1 (mCons (mCall gMin2 (mCons (mC (.int 2)) (mCons (mCall gLen (mCons (mVar 5) mNil)) mNil))) mNil)) (tN 7) b_law_1
def x_law_1 : Md Opd :=
  (mImm (mCallA 2 m__law_pick (mCons (mVar 2) (mCons (mC (.int 100)) mNil))))
def c_law_1 : Md Own :=
  mLc [11] (mSeq (mVar 3)) (tN 11) (Md.ret true) x_law_1
def t_law_1 : Md Bool :=
  (mT (m2 gGt (mCall gAbs (mCons (mVar 9) mNil)) (m2 gPow (mC (.int 10)) (mC (.int 31)))))
def x_law_2 : Md Opd :=
  (mC (.int 1))
def c_law_2 : Md Own :=
  mLc [8, 9] (mSeq (mVar 12)) (tTupT 2 (tsCons (tN 8) (tsCons (tN 9) tsNil))) t_law_1 x_law_2
def x_law_3 : Md Opd :=
  (m2 gMul (m2 gIx (mVar 10) (mImm (mCallA 2 m__law_at (mCons (mVar 3) (mCons (mVar 8) mNil))))) (mCall gAbs (mCons (mVar 9) mNil)))
def c_law_3 : Md Own :=
  mLc [8, 9] (mSeq (mVar 12)) (tTupT 2 (tsCons (tN 8) (tsCons (tN 9) tsNil))) (Md.ret true) x_law_3
def b_law_2 : Md Fw :=
  (sIf (mT (m2 gEq (mFrz c_law_2) (mLst mNil)))
  (sSeq (sIf (mNotT (mT (mImm (mCallA 2 (m__law_same 20) (mCons (mImm (mCallA 3 m_behind (mCons (mVar 3) (mCons (mVar 4) (mCons (mVar 12) mNil))))) (mCons (mImm (mCallA 3 m__law_done (mCons (mVar 3) (mCons (mVar 4) (mCons (mVar 12) mNil))))) mNil))))))
  (sRet (mC (.bool false)))
  sNx)
  (sSeq (sSet 13 (mCall gSum (mCons (mFrz c_law_3) mNil)))
  (sIf (mNotT (mT (mImm (mCallA 2 (m__law_same 20) (mCons (mImm (mCallA 3 m_cost (mCons (mVar 3) (mCons (mVar 10) (mCons (mVar 12) mNil))))) (mCons (mVar 13) mNil))))))
  (sRet (mC (.bool false)))
  sNx)))
  sNx)
def l_law_2 : Md Fw :=
  sFor (mSeq (mLst (mCons (mVar 5) (mCons (mFrzV 6) (mCons (mSl (mVar 5) (Md.ret none) (mPart (mC (.int 5)))) (mCons (mLst mNil) mNil)))))) (tN 12) b_law_2
def x_law_4 : Md Opd :=
  (mTup (mCons (mVar 8) (mCons (m2 DV.gSub (mC (.int 0)) (mVar 9)) mNil)))
def c_law_4 : Md Own :=
  mLc [8, 9] (mSeq (mRev (mVar 5))) (tTupT 2 (tsCons (tN 8) (tsCons (tN 9) tsNil))) (Md.ret true) x_law_4
def b_law_3 : Md Fw :=
  (sSeq (sSetN 2 (mOwn (mCallA 2 m__law_deck (mCons (mVar 1) (mCons (mC (.int 2)) mNil)))))
  (sSeq (sSet 3 (mImm (mCallA 2 m__law_coins (mCons (mVar 2) (mCons (mC (.int 8)) mNil)))))
  (sSeq (sSet 4 (mImm (mCallA 3 m__law_purse (mCons (mVar 2) (mCons (mVar 3) (mCons (mImm (mCallA 2 m__law_one (mCons (mVar 2) (mCons (mLst (mCons (mC (.int 9)) (mCons (mC (.int 99)) (mCons (m2 gPow (mC (.int 10)) (mC (.int 30))) mNil)))) mNil)))) mNil))))))
  (sSeq (sSet 5 (mImm (mCallA 5 m__law_row (mCons (mVar 2) (mCons (mVar 3) (mCons (mVar 4) (mCons (mC (.int 30)) (mCons (mImm (mCallA 2 m__law_one (mCons (mVar 2) (mCons (mLst (mCons (mC (.int 1)) (mCons (mC (.int 4)) (mCons (m2 gPow (mC (.int 10)) (mC (.int 28))) mNil)))) mNil)))) mNil))))))))
  (sSeq (sSetN 6 (mCallN gList (mCons (mVar 5) mNil)))
  (sSeq l_law_1
  (sSeq (sSet 10 (mCall gTuple (mCons (mFrz c_law_1) mNil)))
  (sSeq l_law_2
  (sSeq (sSet 14 (mImm (mCallA 3 m__law_done (mCons (mVar 3) (mCons (mVar 4) (mCons (mVar 5) mNil))))))
  (sSeq (sSet 15 (mFrz c_law_4))
  (sIf (mAndT (mT (m2 gNotN (mVar 14) (mC .none))) (mAndT (mT (m2 gLe (mCall gMax (mCons (mVar 14) mNil)) (m2 gPow (mC (.int 10)) (mC (.int 30))))) (mT (m2 gNe (mImm (mCallA 3 m_behind (mCons (mVar 3) (mCons (mVar 14) (mCons (mVar 15) mNil))))) (mVar 4)))))
  (sRet (mC (.bool false)))
  sNx)))))))))))
def l_law_3 : Md Fw :=
  sFor (mSeq (mSl (m2 gAdd (mLst (mCons (mC (.int 0)) mNil)) (mVar 0)) (Md.ret none) (mPart (mC (.int 10))))) (tN 1) b_law_3
def m_law : List A → Rs A := runFn 16
  (sSeq l_law_3
  (sRet (m2 gEq (mImm (mCallA 3 m_behind (mCons (mTup (mCons (mTup (mCons (mC (.str ("a" : Str))) (mCons (mC (.int 3)) (mCons (mC (.str ("b" : Str))) mNil)))) (mCons (mTup (mCons (mC (.str ("b" : Str))) (mCons (mC (.int 0)) (mCons (mC (.str ("" : Str))) mNil)))) mNil))) (mCons (mTup (mCons (mC (.int 4)) (mCons (mC (.int 1)) mNil))) (mCons (mLst (mCons (mTup (mCons (mC (.str ("a" : Str))) (mCons (mC (.int 1)) mNil))) (mCons (mTup (mCons (mC (.str ("a" : Str))) (mCons (m1 gNeg (mC (.int 2))) mNil))) mNil))) mNil))))) (mTup (mCons (mC (.int 7)) (mCons (mC (.int 0)) mNil))))))

section
variable {P : Program} {w : World} {K : Kf} {mg : Str → Option Value} {base : Heap}
abbrev N_is_from : List Str := [("thing" : Str), ("low" : Str), ("high" : Str)]
theorem sc_is_from : FnScope N_is_from [("thing" : Str), ("low" : Str), ("high" : Str)] (defScope (topS 11)) := ⟨rfl, rfl, rfl, by decide +kernel, rfl, by decide +kernel, by decide +kernel⟩
theorem ok_is_from {f : Addr} {fd : FuncData} (F : Fun K "is_from" "is_from" (topS 11) f fd) (T : Txt K mg) : FnOk P w K mg base CX0 1 f fd [("thing" : Str), ("low" : Str), ("high" : Str)] (spOf K 3 3 m_is_from) :=
  fn_ok (k := 0) F sc_is_from fun cdv A out s H E hr => by
    have nd := sc_is_from.nd
    refine ⟨_, (pss_one (ps_ret (pe_and (pe_callB (kc_isi K) (by rfl) T.z_isinstance rfl (pa_cons (pv 0) (pa_cons (pe_bltn (v := .ty "int") (by rfl) T.z_int rfl rfl) pa_nil))) (pe_and (pe_not (pe_callB (kc_isi K) (by rfl) T.z_isinstance rfl (pa_cons (pv 0) (pa_cons (pe_bltn (v := .ty "bool") (by rfl) T.z_bool rfl rfl) pa_nil)))) (pe_one (pe_chain op_leS op_leS (pv 1) (pv 0) (pv 2))))))), ?_⟩
    exact (st_ret (ev_andV (ev_isi "int" (by decide) (ev_var (i := 0))) (ev_andV (ev_notV (ev_isi "bool" (by decide) (ev_var (i := 0)))) (ev_chain g_le g_le (ev_var (i := 1)) (ev_var (i := 0)) (ev_var (i := 2))))))

abbrev N_is_name : List Str := [("thing" : Str), ("sign" : Str)]
theorem sc_is_name : FnScope N_is_name [("thing" : Str)] (defScope (topS 12)) := ⟨rfl, rfl, rfl, by decide +kernel, rfl, by decide +kernel, by decide +kernel⟩
theorem ok_is_name {f : Addr} {fd : FuncData} (F : Fun K "is_name" "is_name" (topS 12) f fd) (T : Txt K mg) : FnOk P w K mg base CX0 1 f fd [("thing" : Str)] (spOf K 1 2 m_is_name) :=
  fn_ok (k := 0) F sc_is_name fun cdv A out s H E hr => by
    have nd := sc_is_name.nd
    refine ⟨_, (pss_one (ps_ret (pe_and (pe_callB (kc_isi K) (by rfl) T.z_isinstance rfl (pa_cons (pv 0) (pa_cons (pe_bltn (v := .ty "str") (by rfl) T.z_str rfl rfl) pa_nil))) (pe_and (pe_chain op_leS op_leS pe_int (pe_callB (kc_len K) (by rfl) T.z_len rfl (pa_cons (pv 0) pa_nil)) pe_int) (pe_one (pe_callB (kc_all K rfl) (by rfl) T.z_all rfl (pa_cons (pe_lc rfl nd (pi_str (pv 0)) (own := [(("sign" : Str), 1)]) (blk_ok (by rfl)) (fun _ _ _ _ _ => (pg_name (i := 1) nd rfl (by first | exact Or.inl rfl | exact Or.inr rfl))) (fun _ _ _ _ _ => pts_nil) (fun _ _ _ _ _ => (pe_cmpR (k_in K (by exact hu65 hr)) (pv 1) (pe_gc (by rfl) T.c_LETTERS) (by rfl)))) pa_nil))))))), ?_⟩
    exact (st_ret (ev_andV (ev_isi "str" (by decide) (ev_var (i := 0))) (ev_andV (ev_chain g_le g_le ev_int (ev_callB g_len (ea_cons (ev_var (i := 0)) ea_nil)) ev_int) (ev_callB g_all (ea_cons (ev_frz (en_lc (ei_str (ev_var (i := 0))) (tg_name (i := 1) (by decide)) et_yes (ev_op g_in (ev_var (i := 1)) ev_str))) ea_nil)))))

abbrev N_is_rising : List Str := [("things" : Str), ("one" : Str), ("other" : Str)]
theorem sc_is_rising : FnScope N_is_rising [("things" : Str)] (defScope (topS 13)) := ⟨rfl, rfl, rfl, by decide +kernel, rfl, by decide +kernel, by decide +kernel⟩
theorem ok_is_rising {f : Addr} {fd : FuncData} (F : Fun K "is_rising" "is_rising" (topS 13) f fd) (T : Txt K mg) : FnOk P w K mg base CX0 1 f fd [("things" : Str)] (spOf K 1 3 m_is_rising) :=
  fn_ok (k := 0) F sc_is_rising fun cdv A out s H E hr => by
    have nd := sc_is_rising.nd
    refine ⟨_, (pss_one (ps_ret (pe_callB (kc_all K rfl) (by rfl) T.z_all rfl (pa_cons (pe_lc rfl nd (kp_zip K (by rfl) T.z_zip (pa_cons (pv 0) (pa_cons (pe_slice (k_sl K) (pv 0) (po_some pe_int) po_none) pa_nil))) (own := [(("one" : Str), 1), (("other" : Str), 2)]) (blk_ok (by rfl)) (fun _ _ _ _ _ => (kg_tup K (n := 2) rfl (pgs_cons (pg_name (i := 1) nd rfl (by first | exact Or.inl rfl | exact Or.inr rfl)) (pgs_cons (pg_name (i := 2) nd rfl (by first | exact Or.inl rfl | exact Or.inr rfl)) pgs_nil)))) (fun _ _ _ _ _ => pts_nil) (fun _ _ _ _ _ => (pe_cmpR op_ltS (pv 1) (pv 2) (nomark _)))) pa_nil)))), ?_⟩
    exact (st_ret (ev_callB g_all (ea_cons (ev_frz (en_lc (ei_zip (ea_cons (ev_var (i := 0)) (ea_cons (ev_sl (ev_var (i := 0)) (ep_some ev_int) ep_none) ea_nil))) (tg_tup (tgs_cons (tg_name (i := 1) (by decide)) (tgs_cons (tg_name (i := 2) (by decide)) tgs_nil))) et_yes (ev_op g_lt (ev_var (i := 1)) (ev_var (i := 2))))) ea_nil)))

abbrev N_is_coin : List Str := [("thing" : Str)]
theorem sc_is_coin : FnScope N_is_coin [("thing" : Str)] (defScope (topS 14)) := ⟨rfl, rfl, rfl, by decide +kernel, rfl, by decide +kernel, by decide +kernel⟩
theorem ok_is_coin {f : Addr} {fd : FuncData} (F : Fun K "is_coin" "is_coin" (topS 14) f fd) (T : Txt K mg)
    (c_is_name : Cal P w K mg base 1 "is_name" (spOf K 1 2 m_is_name))
    (c_is_from : Cal P w K mg base 1 "is_from" (spOf K 3 3 m_is_from)) : FnOk P w K mg base CX0 2 f fd [("thing" : Str)] (spOf K 1 1 m_is_coin) :=
  fn_ok (k := 1) F sc_is_coin fun cdv A out s H E hr => by
    have nd := sc_is_coin.nd
    refine ⟨_, (pss_cons (ps_if ((pw_or (pt_not (pt_val (pe_callB (kc_isi K) (by rfl) T.z_isinstance rfl (pa_cons (pv 0) (pa_cons (pe_bltn (v := .ty "tuple") (by rfl) T.z_tuple rfl rfl) pa_nil))))) (pw_or (pt_cmpR (k_ne K (by exact hr.units)) (pe_callB (kc_len K) (by rfl) T.z_len rfl (pa_cons (pv 0) pa_nil)) pe_int (nomark _)) (pw_or (pt_not (pt_val (pe_c c_is_name hr (by decide) (by rfl) (pa_cons (pe_ix (k_ix K (by exact hu1 hr)) (pv 0) pe_int (fun _ _ => rfl)) pa_nil)))) (pw_or1 (pt_not (pt_val (pe_callB (kc_isi K) (by rfl) T.z_isinstance rfl (pa_cons (pe_ix (k_ix K (by exact hu1 hr)) (pv 0) pe_int (fun _ _ => rfl)) (pa_cons (pe_bltn (v := .ty "str") (by rfl) T.z_str rfl rfl) pa_nil)))))))))).pt
  (pss_one (ps_ret pe_bl))
  pss_nil)
  (pss_one (ps_ret (pe_ifExp (pt_cmpR (k_eq K (by exact hr.units)) (pe_ix (k_ix K (by exact hu1 hr)) (pv 0) pe_int (fun _ _ => rfl)) pe_str (nomark _)) (pe_c c_is_from hr (by decide) (by rfl) (pa_cons (pe_ix (k_ix K (by exact hu1 hr)) (pv 0) pe_int (fun _ _ => rfl)) (pa_cons pe_int (pa_cons pe_int pa_nil)))) (pe_c c_is_from hr (by decide) (by rfl) (pa_cons (pe_ix (k_ix K (by exact hu1 hr)) (pv 0) pe_int (fun _ _ => rfl)) (pa_cons pe_int (pa_cons pe_int pa_nil)))))))), ?_⟩
    exact (st_seq (st_if (et_or (et_not (et_b (ev_isi "tuple" (by decide) (ev_var (i := 0))))) (et_or (et_t (ev_op g_ne (ev_callB g_len (ea_cons (ev_var (i := 0)) ea_nil)) ev_int)) (et_or (et_not (et_b (ev_imm (er_call (ea_cons (ev_op g_ix (ev_var (i := 0)) ev_int) ea_nil))))) (et_not (et_b (ev_isi "str" (by decide) (ev_op g_ix (ev_var (i := 0)) ev_int)))))))
  (st_ret ev_bl)
  st_next)
  (st_ret (ev_if (et_t (ev_op g_eq (ev_op g_ix (ev_var (i := 0)) ev_int) ev_str)) (ev_imm (er_call (ea_cons (ev_op g_ix (ev_var (i := 0)) ev_int) (ea_cons ev_int (ea_cons ev_int ea_nil))))) (ev_imm (er_call (ea_cons (ev_op g_ix (ev_var (i := 0)) ev_int) (ea_cons ev_int (ea_cons ev_int ea_nil))))))))

abbrev N_are_coins : List Str := [("thing" : Str), ("one" : Str), ("above" : Str), ("kind" : Str), ("many" : Str), ("into" : Str), ("here" : Str), ("turn" : Str)]
theorem sc_are_coins : FnScope N_are_coins [("thing" : Str)] (defScope (topS 15)) := ⟨rfl, rfl, rfl, by decide +kernel, rfl, by decide +kernel, by decide +kernel⟩
theorem ok_are_coins {f : Addr} {fd : FuncData} (F : Fun K "are_coins" "are_coins" (topS 15) f fd) (T : Txt K mg)
    (c_is_coin : Cal P w K mg base 2 "is_coin" (spOf K 1 1 m_is_coin))
    (c_is_rising : Cal P w K mg base 1 "is_rising" (spOf K 1 3 m_is_rising)) : FnOk P w K mg base CX0 3 f fd [("thing" : Str)] (spOf K 1 8 m_are_coins) :=
  fn_ok (k := 2) F sc_are_coins fun cdv A out s H E hr => by
    have nd := sc_are_coins.nd
    refine ⟨_, (pss_cons (ps_if ((pw_or (pt_not (pt_val (pe_callB (kc_isi K) (by rfl) T.z_isinstance rfl (pa_cons (pv 0) (pa_cons (pe_bltn (v := .ty "tuple") (by rfl) T.z_tuple rfl rfl) pa_nil))))) (pw_or (pt_not (pt_chain op_leS op_leS pe_int (pe_callB (kc_len K) (by rfl) T.z_len rfl (pa_cons (pv 0) pa_nil)) (pe_gc (by rfl) T.c_MOST_KINDS))) (pw_or1 (pt_not (pt_val (pe_callB (kc_all K rfl) (by rfl) T.z_all rfl (pa_cons (pe_lc rfl nd (kp_seq K (pv 0)) (own := [(("one" : Str), 1)]) (blk_ok (by rfl)) (fun _ _ _ _ _ => (pg_name (i := 1) nd rfl (by first | exact Or.inl rfl | exact Or.inr rfl))) (fun _ _ _ _ _ => pts_nil) (fun _ _ _ _ _ => (pe_c c_is_coin hr (by decide) (by rfl) (pa_cons (pv 1) pa_nil)))) pa_nil)))))))).pt
  (pss_one (ps_ret pe_bl))
  pss_nil)
  (pss_cons (ps_if (pt_not (pt_val (pe_c c_is_rising hr (by decide) (by rfl) (pa_cons (pe_lc rfl nd (kp_seq K (pv 0)) (own := [(("one" : Str), 1)]) (blk_ok (by rfl)) (fun _ _ _ _ _ => (pg_name (i := 1) nd rfl (by first | exact Or.inl rfl | exact Or.inr rfl))) (fun _ _ _ _ _ => pts_nil) (fun _ _ _ _ _ => (pe_ix (k_ix K (by exact hu1 hr)) (pv 1) pe_int (fun _ _ => rfl)))) pa_nil))))
  (pss_one (ps_ret pe_bl))
  pss_nil)
  (pss_cons (ps_setDc (i := 2) rfl nd rfl rfl (by rfl) (kp_seq K (pv 0)) (own := [(("kind" : Str), 3), (("many" : Str), 4), (("into" : Str), 5)]) (blk_ok (by rfl)) (fun _ _ _ _ _ => (kg_tup K (n := 3) rfl (pgs_cons (pg_name (i := 3) nd rfl (by first | exact Or.inl rfl | exact Or.inr rfl)) (pgs_cons (pg_name (i := 4) nd rfl (by first | exact Or.inl rfl | exact Or.inr rfl)) (pgs_cons (pg_name (i := 5) nd rfl (by first | exact Or.inl rfl | exact Or.inr rfl)) pgs_nil))))) (fun _ _ _ _ _ => pts_nil) (fun _ _ _ _ _ => (pv 3)) (fun _ _ _ _ _ => (pv 5)))
  (pss_cons (ps_lock (ps_for PassesOwn.never rfl (pi_keys (pv 2)) (pg_name (i := 3) nd rfl (by first | exact Or.inl rfl | exact Or.inr rfl))
  (pss_cons (ps_set (i := 6) nd rfl (by first | exact Or.inl rfl | exact Or.inr rfl) (pv 3))
  (pss_cons (ps_for PassesOwn.never rfl (pi_range1 (by rfl) T.z_range (pa_cons (pe_callB (kc_len K) (by rfl) T.z_len rfl (pa_cons (pv 2) pa_nil)) pa_nil)) (pg_name (i := 7) nd rfl (by first | exact Or.inl rfl | exact Or.inr rfl))
  (pss_cons (ps_set (i := 6) nd rfl (by first | exact Or.inl rfl | exact Or.inr rfl) (pe_ifExp (pt_cmpR (k_ne K (by exact hr.units)) (pv 6) pe_str (nomark _)) (pe_dget2 (by exact hu1 hr) (pv 2) (pv 6) pe_str ⟨by rfl, by rfl, by rfl, by rfl⟩) pe_str))
  (pss_one (ps_if ((pw_and (pt_cmpR (k_ne K (by exact hr.units)) (pv 6) pe_str (nomark _)) (pw_and1 (pt_cmpR (k_notIn K (by exact hu65 hr)) (pv 6) (pv 2) (by rfl))))).pt
  (pss_one (ps_ret pe_bl))
  pss_nil))))
  (pss_one (ps_if (pt_cmpR (k_ne K (by exact hr.units)) (pv 6) pe_str (nomark _))
  (pss_one (ps_ret pe_bl))
  pss_nil))))))
  (pss_one (ps_ret pe_bl)))))), ?_⟩
    exact (st_seq (st_if (et_or (et_not (et_b (ev_isi "tuple" (by decide) (ev_var (i := 0))))) (et_or (et_not (et_t (ev_chain g_le g_le ev_int (ev_callB g_len (ea_cons (ev_var (i := 0)) ea_nil)) ev_int))) (et_not (et_b (ev_callB g_all (ea_cons (ev_frz (en_lc (ei_seq (ev_var (i := 0))) (tg_name (i := 1) (by decide)) et_yes (ev_imm (er_call (ea_cons (ev_var (i := 1)) ea_nil))))) ea_nil))))))
  (st_ret ev_bl)
  st_next)
  (st_seq (st_if (et_not (et_b (ev_imm (er_call (ea_cons (ev_frz (en_lc (ei_seq (ev_var (i := 0))) (tg_name (i := 1) (by decide)) et_yes (ev_op g_ix (ev_var (i := 1)) ev_int))) ea_nil)))))
  (st_ret ev_bl)
  st_next)
  (st_seq (st_setN (en_dc (ei_seq (ev_var (i := 0))) (tg_tup (tgs_cons (tg_name (i := 3) (by decide)) (tgs_cons (tg_name (i := 4) (by decide)) (tgs_cons (tg_name (i := 5) (by decide)) tgs_nil)))) et_yes (ev_var (i := 3)) (ev_var (i := 5))))
  (st_seq (st_forKeys (vs := [0, 1, 2, 3, 4, 5, 6, 7]) (tg_name (i := 3) (by decide))
  (st_seq (st_set (ev_var (i := 3)))
  (st_seq (st_for (vs := [0, 1, 2, 3, 4, 5, 6, 7]) (ei_range1 (ea_cons (ev_callB g_len (ea_cons (ev_var (i := 2)) ea_nil)) ea_nil)) (tg_name (i := 7) (by decide))
  (st_seq (st_set (ev_if (et_t (ev_op g_ne (ev_var (i := 6)) ev_str)) (ev_get (ev_var (i := 2)) (ev_var (i := 6)) ev_str) ev_str))
  (st_if (et_and (et_t (ev_op g_ne (ev_var (i := 6)) ev_str)) (et_t (ev_op g_notIn (ev_var (i := 6)) (ev_var (i := 2)))))
  (st_ret ev_bl)
  st_next)))
  (st_if (et_t (ev_op g_ne (ev_var (i := 6)) ev_str))
  (st_ret ev_bl)
  st_next))))
  (st_ret ev_bl)))))

abbrev N_need_coins : List Str := [("coins" : Str)]
theorem sc_need_coins : FnScope N_need_coins [("coins" : Str)] (defScope (topS 16)) := ⟨rfl, rfl, rfl, by decide +kernel, rfl, by decide +kernel, by decide +kernel⟩
theorem ok_need_coins {f : Addr} {fd : FuncData} (F : Fun K "need_coins" "need_coins" (topS 16) f fd) (T : Txt K mg)
    (c_are_coins : Cal P w K mg base 3 "are_coins" (spOf K 1 8 m_are_coins)) : FnOk P w K mg base CX0 4 f fd [("coins" : Str)] (spOf K 1 1 m_need_coins) :=
  fn_ok (k := 3) F sc_need_coins fun cdv A out s H E hr => by
    have nd := sc_need_coins.nd
    refine ⟨_, (pss_one (ps_if (pt_not (pt_val (pe_c c_are_coins hr (by decide) (by rfl) (pa_cons (pv 0) pa_nil))))
  (pss_one ps_never)
  pss_nil)), ?_⟩
    exact (st_if (et_not (et_b (ev_imm (er_call (ea_cons (ev_var (i := 0)) ea_nil)))))
  st_never
  st_next)

abbrev N_is_stock : List Str := [("coins" : Str), ("thing" : Str), ("one" : Str)]
theorem sc_is_stock : FnScope N_is_stock [("coins" : Str), ("thing" : Str)] (defScope (topS 17)) := ⟨rfl, rfl, rfl, by decide +kernel, rfl, by decide +kernel, by decide +kernel⟩
theorem ok_is_stock {f : Addr} {fd : FuncData} (F : Fun K "is_stock" "is_stock" (topS 17) f fd) (T : Txt K mg)
    (c_is_from : Cal P w K mg base 1 "is_from" (spOf K 3 3 m_is_from)) : FnOk P w K mg base CX0 2 f fd [("coins" : Str), ("thing" : Str)] (spOf K 2 3 m_is_stock) :=
  fn_ok (k := 1) F sc_is_stock fun cdv A out s H E hr => by
    have nd := sc_is_stock.nd
    refine ⟨_, (pss_cons (ps_if ((pw_or (pt_not (pt_val (pe_callB (kc_isi K) (by rfl) T.z_isinstance rfl (pa_cons (pv 1) (pa_cons (pe_bltn (v := .ty "tuple") (by rfl) T.z_tuple rfl rfl) pa_nil))))) (pw_or1 (pt_cmpR (k_ne K (by exact hr.units)) (pe_callB (kc_len K) (by rfl) T.z_len rfl (pa_cons (pv 1) pa_nil)) (pe_callB (kc_len K) (by rfl) T.z_len rfl (pa_cons (pv 0) pa_nil)) (nomark _))))).pt
  (pss_one (ps_ret pe_bl))
  pss_nil)
  (pss_one (ps_ret (pe_callB (kc_all K rfl) (by rfl) T.z_all rfl (pa_cons (pe_lc rfl nd (kp_seq K (pv 1)) (own := [(("one" : Str), 2)]) (blk_ok (by rfl)) (fun _ _ _ _ _ => (pg_name (i := 2) nd rfl (by first | exact Or.inl rfl | exact Or.inr rfl))) (fun _ _ _ _ _ => pts_nil) (fun _ _ _ _ _ => (pe_c c_is_from hr (by decide) (by rfl) (pa_cons (pv 2) (pa_cons pe_int (pa_cons (pe_gc (by rfl) T.c_MOST_COINS) pa_nil)))))) pa_nil))))), ?_⟩
    exact (st_seq (st_if (et_or (et_not (et_b (ev_isi "tuple" (by decide) (ev_var (i := 1))))) (et_t (ev_op g_ne (ev_callB g_len (ea_cons (ev_var (i := 1)) ea_nil)) (ev_callB g_len (ea_cons (ev_var (i := 0)) ea_nil)))))
  (st_ret ev_bl)
  st_next)
  (st_ret (ev_callB g_all (ea_cons (ev_frz (en_lc (ei_seq (ev_var (i := 1))) (tg_name (i := 2) (by decide)) et_yes (ev_imm (er_call (ea_cons (ev_var (i := 2)) (ea_cons ev_int (ea_cons ev_int ea_nil))))))) ea_nil))))

abbrev N_need_purse : List Str := [("coins" : Str), ("purse" : Str)]
theorem sc_need_purse : FnScope N_need_purse [("coins" : Str), ("purse" : Str)] (defScope (topS 18)) := ⟨rfl, rfl, rfl, by decide +kernel, rfl, by decide +kernel, by decide +kernel⟩
theorem ok_need_purse {f : Addr} {fd : FuncData} (F : Fun K "need_purse" "need_purse" (topS 18) f fd) (T : Txt K mg)
    (c_need_coins : Cal P w K mg base 4 "need_coins" (spOf K 1 1 m_need_coins))
    (c_is_stock : Cal P w K mg base 2 "is_stock" (spOf K 2 3 m_is_stock)) : FnOk P w K mg base CX0 5 f fd [("coins" : Str), ("purse" : Str)] (spOf K 2 2 m_need_purse) :=
  fn_ok (k := 4) F sc_need_purse fun cdv A out s H E hr => by
    have nd := sc_need_purse.nd
    refine ⟨_, (pss_cons (ps_expr (pe_c c_need_coins hr (by decide) (by rfl) (pa_cons (pv 0) pa_nil)))
  (pss_one (ps_if (pt_not (pt_val (pe_c c_is_stock hr (by decide) (by rfl) (pa_cons (pv 0) (pa_cons (pv 1) pa_nil)))))
  (pss_one ps_never)
  pss_nil))), ?_⟩
    exact (st_seq (st_drop (ev_imm (er_call (ea_cons (ev_var (i := 0)) ea_nil))))
  (st_if (et_not (et_b (ev_imm (er_call (ea_cons (ev_var (i := 0)) (ea_cons (ev_var (i := 1)) ea_nil))))))
  st_never
  st_next))

abbrev N_are_paid : List Str := [("coins" : Str), ("thing" : Str), ("one" : Str)]
theorem sc_are_paid : FnScope N_are_paid [("coins" : Str), ("thing" : Str)] (defScope (topS 19)) := ⟨rfl, rfl, rfl, by decide +kernel, rfl, by decide +kernel, by decide +kernel⟩
theorem ok_are_paid {f : Addr} {fd : FuncData} (F : Fun K "are_paid" "are_paid" (topS 19) f fd) (T : Txt K mg)
    (c_is_from : Cal P w K mg base 1 "is_from" (spOf K 3 3 m_is_from)) : FnOk P w K mg base CX0 2 f fd [("coins" : Str), ("thing" : Str)] (spOf K 2 3 m_are_paid) :=
  fn_ok (k := 1) F sc_are_paid fun cdv A out s H E hr => by
    have nd := sc_are_paid.nd
    refine ⟨_, (pss_cons (ps_if ((pw_or (pt_not (pt_val (pe_callB (kc_isi K) (by rfl) T.z_isinstance rfl (pa_cons (pv 1) (pa_cons (pe_bltn (v := .ty "tuple") (by rfl) T.z_tuple rfl rfl) pa_nil))))) (pw_or1 (pt_cmpR (k_ne K (by exact hr.units)) (pe_callB (kc_len K) (by rfl) T.z_len rfl (pa_cons (pv 1) pa_nil)) (pe_callB (kc_len K) (by rfl) T.z_len rfl (pa_cons (pv 0) pa_nil)) (nomark _))))).pt
  (pss_one (ps_ret pe_bl))
  pss_nil)
  (pss_one (ps_ret (pe_callB (kc_all K rfl) (by rfl) T.z_all rfl (pa_cons (pe_lc rfl nd (kp_seq K (pv 1)) (own := [(("one" : Str), 2)]) (blk_ok (by rfl)) (fun _ _ _ _ _ => (pg_name (i := 2) nd rfl (by first | exact Or.inl rfl | exact Or.inr rfl))) (fun _ _ _ _ _ => pts_nil) (fun _ _ _ _ _ => (pe_c c_is_from hr (by decide) (by rfl) (pa_cons (pv 2) (pa_cons pe_int (pa_cons (pe_gc (by rfl) T.c_MOST_FEE) pa_nil)))))) pa_nil))))), ?_⟩
    exact (st_seq (st_if (et_or (et_not (et_b (ev_isi "tuple" (by decide) (ev_var (i := 1))))) (et_t (ev_op g_ne (ev_callB g_len (ea_cons (ev_var (i := 1)) ea_nil)) (ev_callB g_len (ea_cons (ev_var (i := 0)) ea_nil)))))
  (st_ret ev_bl)
  st_next)
  (st_ret (ev_callB g_all (ea_cons (ev_frz (en_lc (ei_seq (ev_var (i := 1))) (tg_name (i := 2) (by decide)) et_yes (ev_imm (er_call (ea_cons (ev_var (i := 2)) (ea_cons ev_int (ea_cons ev_int ea_nil))))))) ea_nil))))

abbrev N_need_fees : List Str := [("coins" : Str), ("fees" : Str)]
theorem sc_need_fees : FnScope N_need_fees [("coins" : Str), ("fees" : Str)] (defScope (topS 20)) := ⟨rfl, rfl, rfl, by decide +kernel, rfl, by decide +kernel, by decide +kernel⟩
theorem ok_need_fees {f : Addr} {fd : FuncData} (F : Fun K "need_fees" "need_fees" (topS 20) f fd) (T : Txt K mg)
    (c_need_coins : Cal P w K mg base 4 "need_coins" (spOf K 1 1 m_need_coins))
    (c_are_paid : Cal P w K mg base 2 "are_paid" (spOf K 2 3 m_are_paid)) : FnOk P w K mg base CX0 5 f fd [("coins" : Str), ("fees" : Str)] (spOf K 2 2 m_need_fees) :=
  fn_ok (k := 4) F sc_need_fees fun cdv A out s H E hr => by
    have nd := sc_need_fees.nd
    refine ⟨_, (pss_cons (ps_expr (pe_c c_need_coins hr (by decide) (by rfl) (pa_cons (pv 0) pa_nil)))
  (pss_one (ps_if (pt_not (pt_val (pe_c c_are_paid hr (by decide) (by rfl) (pa_cons (pv 0) (pa_cons (pv 1) pa_nil)))))
  (pss_one ps_never)
  pss_nil))), ?_⟩
    exact (st_seq (st_drop (ev_imm (er_call (ea_cons (ev_var (i := 0)) ea_nil))))
  (st_if (et_not (et_b (ev_imm (er_call (ea_cons (ev_var (i := 0)) (ea_cons (ev_var (i := 1)) ea_nil))))))
  st_never
  st_next))

abbrev N_place_of : List Str := [("coins" : Str), ("kind" : Str), ("at" : Str), ("row" : Str)]
theorem sc_place_of : FnScope N_place_of [("coins" : Str), ("kind" : Str)] (defScope (topS 21)) := ⟨rfl, rfl, rfl, by decide +kernel, rfl, by decide +kernel, by decide +kernel⟩
theorem ok_place_of {f : Addr} {fd : FuncData} (F : Fun K "place_of" "place_of" (topS 21) f fd) (T : Txt K mg) : FnOk P w K mg base CX0 1 f fd [("coins" : Str), ("kind" : Str)] (spOf K 2 4 m_place_of) :=
  fn_ok (k := 0) F sc_place_of fun cdv A out s H E hr => by
    have nd := sc_place_of.nd
    refine ⟨_, (pss_cons (ps_for PassesOwn.never rfl (kp_enum K (by rfl) T.z_enumerate (pa_cons (pv 0) pa_nil)) (kg_tup K (n := 2) rfl (pgs_cons (pg_name (i := 2) nd rfl (by first | exact Or.inl rfl | exact Or.inr rfl)) (pgs_cons (pg_name (i := 3) nd rfl (by first | exact Or.inl rfl | exact Or.inr rfl)) pgs_nil)))
  (pss_one (ps_if (pt_cmpR (k_eq K (by exact hr.units)) (pe_ix (k_ix K (by exact hu1 hr)) (pv 3) pe_int (fun _ _ => rfl)) (pv 1) (nomark _))
  (pss_one (ps_ret (pv 2)))
  pss_nil)))
  (pss_one (ps_ret pe_non))), ?_⟩
    exact (st_seq (st_for (vs := [0, 1, 2, 3]) (ei_enum (ea_cons (ev_var (i := 0)) ea_nil)) (tg_tup (tgs_cons (tg_name (i := 2) (by decide)) (tgs_cons (tg_name (i := 3) (by decide)) tgs_nil)))
  (st_if (et_t (ev_op g_eq (ev_op g_ix (ev_var (i := 3)) ev_int) (ev_var (i := 1))))
  (st_ret ev_var)
  st_next))
  (st_ret ev_non))

abbrev N_is_change : List Str := [("coins" : Str), ("thing" : Str), ("at" : Str)]
theorem sc_is_change : FnScope N_is_change [("coins" : Str), ("thing" : Str)] (defScope (topS 25)) := ⟨rfl, rfl, rfl, by decide +kernel, rfl, by decide +kernel, by decide +kernel⟩
theorem ok_is_change {f : Addr} {fd : FuncData} (F : Fun K "is_change" "is_change" (topS 25) f fd) (T : Txt K mg)
    (c_place_of : Cal P w K mg base 1 "place_of" (spOf K 2 4 m_place_of))
    (c_is_from : Cal P w K mg base 1 "is_from" (spOf K 3 3 m_is_from)) : FnOk P w K mg base CX0 2 f fd [("coins" : Str), ("thing" : Str)] (spOf K 2 3 m_is_change) :=
  fn_ok (k := 1) F sc_is_change fun cdv A out s H E hr => by
    have nd := sc_is_change.nd
    refine ⟨_, (pss_cons (ps_if ((pw_or (pt_not (pt_val (pe_callB (kc_isi K) (by rfl) T.z_isinstance rfl (pa_cons (pv 1) (pa_cons (pe_bltn (v := .ty "tuple") (by rfl) T.z_tuple rfl rfl) pa_nil))))) (pw_or (pt_cmpR (k_ne K (by exact hr.units)) (pe_callB (kc_len K) (by rfl) T.z_len rfl (pa_cons (pv 1) pa_nil)) pe_int (nomark _)) (pw_or1 (pt_not (pt_val (pe_callB (kc_isi K) (by rfl) T.z_isinstance rfl (pa_cons (pe_ix (k_ix K (by exact hu1 hr)) (pv 1) pe_int (fun _ _ => rfl)) (pa_cons (pe_bltn (v := .ty "str") (by rfl) T.z_str rfl rfl) pa_nil))))))))).pt
  (pss_one (ps_ret pe_bl))
  pss_nil)
  (pss_cons (ps_set (i := 2) nd rfl (by first | exact Or.inl rfl | exact Or.inr rfl) (pe_c c_place_of hr (by decide) (by rfl) (pa_cons (pv 0) (pa_cons (pe_ix (k_ix K (by exact hu1 hr)) (pv 1) pe_int (fun _ _ => rfl)) pa_nil))))
  (pss_cons (ps_if ((pw_or (pt_cmpR op_isN (pv 2) pe_non (nomark _)) (pw_or1 (pt_cmpR (k_eq K (by exact hr.units)) (pe_ix (k_ix K (by exact hu1 hr)) (pe_ix (k_ix K (by exact hu1 hr)) (pv 0) (pv 2) (fun _ _ => rfl)) pe_int (fun _ _ => rfl)) pe_str (nomark _))))).pt
  (pss_one (ps_ret pe_bl))
  pss_nil)
  (pss_one (ps_ret (pe_and (pe_c c_is_from hr (by decide) (by rfl) (pa_cons (pe_ix (k_ix K (by exact hu1 hr)) (pv 1) pe_int (fun _ _ => rfl)) (pa_cons (pe_un un_neg (pe_gc (by rfl) T.c_MOST_TIMES)) (pa_cons (pe_gc (by rfl) T.c_MOST_TIMES) pa_nil)))) (pe_one (pe_cmpR (k_ne K (by exact hr.units)) (pe_ix (k_ix K (by exact hu1 hr)) (pv 1) pe_int (fun _ _ => rfl)) pe_int (nomark _))))))))), ?_⟩
    exact (st_seq (st_if (et_or (et_not (et_b (ev_isi "tuple" (by decide) (ev_var (i := 1))))) (et_or (et_t (ev_op g_ne (ev_callB g_len (ea_cons (ev_var (i := 1)) ea_nil)) ev_int)) (et_not (et_b (ev_isi "str" (by decide) (ev_op g_ix (ev_var (i := 1)) ev_int))))))
  (st_ret ev_bl)
  st_next)
  (st_seq (st_set (ev_imm (er_call (ea_cons (ev_var (i := 0)) (ea_cons (ev_op g_ix (ev_var (i := 1)) ev_int) ea_nil)))))
  (st_seq (st_if (et_or (et_t (ev_op g_isN (ev_var (i := 2)) ev_non)) (et_t (ev_op g_eq (ev_op g_ix (ev_op g_ix (ev_var (i := 0)) (ev_var (i := 2))) ev_int) ev_str)))
  (st_ret ev_bl)
  st_next)
  (st_ret (ev_andV (ev_imm (er_call (ea_cons (ev_op g_ix (ev_var (i := 1)) ev_int) (ea_cons (ev_un g_neg ev_int) (ea_cons ev_int ea_nil))))) (ev_op g_ne (ev_op g_ix (ev_var (i := 1)) ev_int) ev_int))))))

abbrev N_are_changes : List Str := [("coins" : Str), ("thing" : Str), ("one" : Str)]
theorem sc_are_changes : FnScope N_are_changes [("coins" : Str), ("thing" : Str)] (defScope (topS 26)) := ⟨rfl, rfl, rfl, by decide +kernel, rfl, by decide +kernel, by decide +kernel⟩
theorem ok_are_changes {f : Addr} {fd : FuncData} (F : Fun K "are_changes" "are_changes" (topS 26) f fd) (T : Txt K mg)
    (c_is_change : Cal P w K mg base 2 "is_change" (spOf K 2 3 m_is_change)) : FnOk P w K mg base CX0 3 f fd [("coins" : Str), ("thing" : Str)] (spOf K 2 3 m_are_changes) :=
  fn_ok (k := 2) F sc_are_changes fun cdv A out s H E hr => by
    have nd := sc_are_changes.nd
    refine ⟨_, (pss_one (ps_ret (pe_and (pe_callB (kc_isi K) (by rfl) T.z_isinstance rfl (pa_cons (pv 1) (pa_cons (pe_bltn (v := .ty "list") (by rfl) T.z_list rfl rfl) pa_nil))) (pe_and (pe_cmpR op_leS (pe_callB (kc_len K) (by rfl) T.z_len rfl (pa_cons (pv 1) pa_nil)) (pe_gc (by rfl) T.c_MOST_CHANGES) (nomark _)) (pe_one (pe_callB (kc_all K rfl) (by rfl) T.z_all rfl (pa_cons (pe_lc rfl nd (kp_seq K (pv 1)) (own := [(("one" : Str), 2)]) (blk_ok (by rfl)) (fun _ _ _ _ _ => (pg_name (i := 2) nd rfl (by first | exact Or.inl rfl | exact Or.inr rfl))) (fun _ _ _ _ _ => pts_nil) (fun _ _ _ _ _ => (pe_c c_is_change hr (by decide) (by rfl) (pa_cons (pv 0) (pa_cons (pv 2) pa_nil))))) pa_nil))))))), ?_⟩
    exact (st_ret (ev_andV (ev_isi "list" (by decide) (ev_var (i := 1))) (ev_andV (ev_op g_le (ev_callB g_len (ea_cons (ev_var (i := 1)) ea_nil)) ev_int) (ev_callB g_all (ea_cons (ev_frz (en_lc (ei_seq (ev_var (i := 1))) (tg_name (i := 2) (by decide)) et_yes (ev_imm (er_call (ea_cons (ev_var (i := 0)) (ea_cons (ev_var (i := 2)) ea_nil)))))) ea_nil)))))

abbrev N_need_row : List Str := [("coins" : Str), ("row" : Str)]
theorem sc_need_row : FnScope N_need_row [("coins" : Str), ("row" : Str)] (defScope (topS 27)) := ⟨rfl, rfl, rfl, by decide +kernel, rfl, by decide +kernel, by decide +kernel⟩
theorem ok_need_row {f : Addr} {fd : FuncData} (F : Fun K "need_row" "need_row" (topS 27) f fd) (T : Txt K mg)
    (c_are_changes : Cal P w K mg base 3 "are_changes" (spOf K 2 3 m_are_changes)) : FnOk P w K mg base CX0 4 f fd [("coins" : Str), ("row" : Str)] (spOf K 2 2 m_need_row) :=
  fn_ok (k := 3) F sc_need_row fun cdv A out s H E hr => by
    have nd := sc_need_row.nd
    refine ⟨_, (pss_one (ps_if (pt_not (pt_val (pe_c c_are_changes hr (by decide) (by rfl) (pa_cons (pv 0) (pa_cons (pv 1) pa_nil)))))
  (pss_one ps_never)
  pss_nil)), ?_⟩
    exact (st_if (et_not (et_b (ev_imm (er_call (ea_cons (ev_var (i := 0)) (ea_cons (ev_var (i := 1)) ea_nil))))))
  st_never
  st_next)

abbrev N_changed : List Str := [("coins" : Str), ("purse" : Str), ("change" : Str), ("at" : Str), ("many" : Str), ("above" : Str), ("found" : Str), ("place" : Str)]
theorem sc_changed : FnScope N_changed [("coins" : Str), ("purse" : Str), ("change" : Str)] (defScope (topS 28)) := ⟨rfl, rfl, rfl, by decide +kernel, rfl, by decide +kernel, by decide +kernel⟩
theorem ok_changed {f : Addr} {fd : FuncData} (F : Fun K "changed" "changed" (topS 28) f fd) (T : Txt K mg)
    (c_place_of : Cal P w K mg base 1 "place_of" (spOf K 2 4 m_place_of)) : FnOk P w K mg base CX0 2 f fd [("coins" : Str), ("purse" : Str), ("change" : Str)] (spOf K 3 8 m_changed) :=
  fn_ok (k := 1) F sc_changed fun cdv A out s H E hr => by
    have nd := sc_changed.nd
    refine ⟨_, (pss_cons (ps_set (i := 3) nd rfl (by first | exact Or.inl rfl | exact Or.inr rfl) (pe_c c_place_of hr (by decide) (by rfl) (pa_cons (pv 0) (pa_cons (pe_ix (k_ix K (by exact hu1 hr)) (pv 2) pe_int (fun _ _ => rfl)) pa_nil))))
  (pss_cons (ps_par (i := 4) (j := 5) rfl nd rfl rfl (by decide) rfl rfl (pa_cons (pe_ix (k_ix K (by exact hu1 hr)) (pe_ix (k_ix K (by exact hu1 hr)) (pv 0) (pv 3) (fun _ _ => rfl)) pe_int (fun _ _ => rfl)) (pa_cons (pe_c c_place_of hr (by decide) (by rfl) (pa_cons (pv 0) (pa_cons (pe_ix (k_ix K (by exact hu1 hr)) (pe_ix (k_ix K (by exact hu1 hr)) (pv 0) (pv 3) (fun _ _ => rfl)) pe_int (fun _ _ => rfl)) pa_nil))) pa_nil)) (by rfl))
  (pss_cons (ps_set (i := 6) nd rfl (by first | exact Or.inl rfl | exact Or.inr rfl) (pe_callTy (kc_list K) (by rfl) T.z_list rfl (pa_cons (pv 1) pa_nil)))
  (pss_cons (ps_augS (pv 6) (pv 3) (k_get K (by exact hu1 hr)) (pe_op op_mulW (pv 4) (pe_ix (k_ix K (by exact hu1 hr)) (pv 2) pe_int (fun _ _ => rfl))) (PIp.of iop_sub) (set_all (by exact hu1 hr)))
  (pss_cons (ps_augS (pv 6) (pv 5) (k_get K (by exact hu1 hr)) (pe_ix (k_ix K (by exact hu1 hr)) (pv 2) pe_int (fun _ _ => rfl)) (PIp.of iop_add) (set_all (by exact hu1 hr)))
  (pss_cons (ps_for PassesOwn.never rfl (kp_seq K (pe_tup (pa_cons (pv 3) (pa_cons (pv 5) pa_nil)))) (pg_name (i := 7) nd rfl (by first | exact Or.inl rfl | exact Or.inr rfl))
  (pss_one (ps_if (pt_cmpR op_ltS (pe_ix (k_ix K (by exact hu1 hr)) (pv 6) (pv 7) (fun _ _ => rfl)) pe_int (nomark _))
  (pss_one (ps_ret (pe_tup (pa_cons pe_non (pa_cons (pe_ix (k_ix K (by exact hu1 hr)) (pe_ix (k_ix K (by exact hu1 hr)) (pv 0) (pv 7) (fun _ _ => rfl)) pe_int (fun _ _ => rfl)) pa_nil)))))
  pss_nil)))
  (pss_one (ps_ret (pe_tup (pa_cons (pe_callTy (kc_tuple K) (by rfl) T.z_tuple rfl (pa_cons (pv 6) pa_nil)) (pa_cons pe_non pa_nil))))))))))), ?_⟩
    exact (st_seq (st_set (ev_imm (er_call (ea_cons (ev_var (i := 0)) (ea_cons (ev_op g_ix (ev_var (i := 2)) ev_int) ea_nil)))))
  (st_seq (st_par (ea_cons (ev_op g_ix (ev_op g_ix (ev_var (i := 0)) (ev_var (i := 3))) ev_int) (ea_cons (ev_imm (er_call (ea_cons (ev_var (i := 0)) (ea_cons (ev_op g_ix (ev_op g_ix (ev_var (i := 0)) (ev_var (i := 3))) ev_int) ea_nil)))) ea_nil)))
  (st_seq (st_setN (en_callB g_list (ea_cons (ev_var (i := 1)) ea_nil)))
  (st_seq (st_aug g_sub (ev_var (i := 3)) (ev_op g_mul (ev_var (i := 4)) (ev_op g_ix (ev_var (i := 2)) ev_int)))
  (st_seq (st_aug g_addI (ev_var (i := 5)) (ev_op g_ix (ev_var (i := 2)) ev_int))
  (st_seq (st_for (vs := [0, 1, 2, 3, 4, 5, 6, 7]) (ei_seq (ev_tup (ea_cons (ev_var (i := 3)) (ea_cons (ev_var (i := 5)) ea_nil)))) (tg_name (i := 7) (by decide))
  (st_if (et_t (ev_op g_lt (ev_op g_ix (ev_var (i := 6)) (ev_var (i := 7))) ev_int))
  (st_ret (ev_tup (ea_cons ev_non (ea_cons (ev_op g_ix (ev_op g_ix (ev_var (i := 0)) (ev_var (i := 7))) ev_int) ea_nil))))
  st_next))
  (st_ret (ev_tup (ea_cons (ev_callB g_tuple (ea_cons (ev_var (i := 6)) ea_nil)) (ea_cons ev_non ea_nil))))))))))

abbrev N_done : List Str := [("coins" : Str), ("purse" : Str), ("row" : Str), ("change" : Str)]
theorem sc_done : FnScope N_done [("coins" : Str), ("purse" : Str), ("row" : Str)] (defScope (topS 29)) := ⟨rfl, rfl, rfl, by decide +kernel, rfl, by decide +kernel, by decide +kernel⟩
theorem ok_done {f : Addr} {fd : FuncData} (F : Fun K "done" "done" (topS 29) f fd) (T : Txt K mg)
    (c_changed : Cal P w K mg base 2 "changed" (spOf K 3 8 m_changed)) : FnOk P w K mg base CX0 3 f fd [("coins" : Str), ("purse" : Str), ("row" : Str)] (spOf K 3 4 m_done) :=
  fn_ok (k := 2) F sc_done fun cdv A out s H E hr => by
    have nd := sc_done.nd
    refine ⟨_, (pss_cons (ps_for PassesOwn.never rfl (kp_seq K (pv 2)) (pg_name (i := 3) nd rfl (by first | exact Or.inl rfl | exact Or.inr rfl))
  (pss_one (ps_if (pt_cmpR op_notN (pv 1) pe_non (nomark _))
  (pss_one (ps_set (i := 1) nd rfl (by first | exact Or.inl rfl | exact Or.inr rfl) (pe_ix (k_ix K (by exact hu1 hr)) (pe_c c_changed hr (by decide) (by rfl) (pa_cons (pv 0) (pa_cons (pv 1) (pa_cons (pv 3) pa_nil)))) pe_int (fun _ _ => rfl))))
  pss_nil)))
  (pss_one (ps_ret (pv 1)))), ?_⟩
    exact (st_seq (st_for (vs := [0, 1, 2, 3]) (ei_seq (ev_var (i := 2))) (tg_name (i := 3) (by decide))
  (st_if (et_t (ev_op g_notN (ev_var (i := 1)) ev_non))
  (st_set (ev_op g_ix (ev_imm (er_call (ea_cons (ev_var (i := 0)) (ea_cons (ev_var (i := 1)) (ea_cons (ev_var (i := 3)) ea_nil))))) ev_int))
  st_next))
  (st_ret ev_var))

abbrev N_behind : List Str := [("coins" : Str), ("purse" : Str), ("row" : Str)]
theorem sc_behind : FnScope N_behind [("coins" : Str), ("purse" : Str), ("row" : Str)] (defScope (topS 30)) := ⟨rfl, rfl, rfl, by decide +kernel, rfl, by decide +kernel, by decide +kernel⟩
theorem ok_behind {f : Addr} {fd : FuncData} (F : Fun K "behind" "behind" (topS 30) f fd) (T : Txt K mg)
    (c_need_purse : Cal P w K mg base 5 "need_purse" (spOf K 2 2 m_need_purse))
    (c_need_row : Cal P w K mg base 4 "need_row" (spOf K 2 2 m_need_row))
    (c_done : Cal P w K mg base 3 "done" (spOf K 3 4 m_done)) : FnOk P w K mg base CX0 6 f fd [("coins" : Str), ("purse" : Str), ("row" : Str)] (spOf K 3 3 m_behind) :=
  fn_ok (k := 5) F sc_behind fun cdv A out s H E hr => by
    have nd := sc_behind.nd
    refine ⟨_, (pss_cons (ps_expr (pe_c c_need_purse hr (by decide) (by rfl) (pa_cons (pv 0) (pa_cons (pv 1) pa_nil))))
  (pss_cons (ps_expr (pe_c c_need_row hr (by decide) (by rfl) (pa_cons (pv 0) (pa_cons (pv 2) pa_nil))))
  (pss_one (ps_ret (pe_c c_done hr (by decide) (by rfl) (pa_cons (pv 0) (pa_cons (pv 1) (pa_cons (pv 2) pa_nil)))))))), ?_⟩
    exact (st_seq (st_drop (ev_imm (er_call (ea_cons (ev_var (i := 0)) (ea_cons (ev_var (i := 1)) ea_nil)))))
  (st_seq (st_drop (ev_imm (er_call (ea_cons (ev_var (i := 0)) (ea_cons (ev_var (i := 2)) ea_nil)))))
  (st_retA (er_call (ea_cons (ev_var (i := 0)) (ea_cons (ev_var (i := 1)) (ea_cons (ev_var (i := 2)) ea_nil)))))))

abbrev N_cost : List Str := [("coins" : Str), ("fees" : Str), ("row" : Str), ("kind" : Str), ("times" : Str)]
theorem sc_cost : FnScope N_cost [("coins" : Str), ("fees" : Str), ("row" : Str)] (defScope (topS 31)) := ⟨rfl, rfl, rfl, by decide +kernel, rfl, by decide +kernel, by decide +kernel⟩
theorem ok_cost {f : Addr} {fd : FuncData} (F : Fun K "cost" "cost" (topS 31) f fd) (T : Txt K mg)
    (c_need_fees : Cal P w K mg base 5 "need_fees" (spOf K 2 2 m_need_fees))
    (c_need_row : Cal P w K mg base 4 "need_row" (spOf K 2 2 m_need_row))
    (c_place_of : Cal P w K mg base 1 "place_of" (spOf K 2 4 m_place_of)) : FnOk P w K mg base CX0 6 f fd [("coins" : Str), ("fees" : Str), ("row" : Str)] (spOf K 3 5 m_cost) :=
  fn_ok (k := 5) F sc_cost fun cdv A out s H E hr => by
    have nd := sc_cost.nd
    refine ⟨_, (pss_cons (ps_expr (pe_c c_need_fees hr (by decide) (by rfl) (pa_cons (pv 0) (pa_cons (pv 1) pa_nil))))
  (pss_cons (ps_expr (pe_c c_need_row hr (by decide) (by rfl) (pa_cons (pv 0) (pa_cons (pv 2) pa_nil))))
  (pss_one (ps_ret (pe_callB (kc_sum K rfl) (by rfl) T.z_sum rfl (pa_cons (pe_lc rfl nd (kp_seq K (pv 2)) (own := [(("kind" : Str), 3), (("times" : Str), 4)]) (blk_ok (by rfl)) (fun _ _ _ _ _ => (kg_tup K (n := 2) rfl (pgs_cons (pg_name (i := 3) nd rfl (by first | exact Or.inl rfl | exact Or.inr rfl)) (pgs_cons (pg_name (i := 4) nd rfl (by first | exact Or.inl rfl | exact Or.inr rfl)) pgs_nil)))) (fun _ _ _ _ _ => pts_nil) (fun _ _ _ _ _ => (pe_op op_mulW (pe_ix (k_ix K (by exact hu1 hr)) (pv 1) (pe_c c_place_of hr (by decide) (by rfl) (pa_cons (pv 0) (pa_cons (pv 3) pa_nil))) (fun _ _ => rfl)) (pe_callB call_abs (by rfl) T.z_abs rfl (pa_cons (pv 4) pa_nil))))) pa_nil)))))), ?_⟩
    exact (st_seq (st_drop (ev_imm (er_call (ea_cons (ev_var (i := 0)) (ea_cons (ev_var (i := 1)) ea_nil)))))
  (st_seq (st_drop (ev_imm (er_call (ea_cons (ev_var (i := 0)) (ea_cons (ev_var (i := 2)) ea_nil)))))
  (st_ret (ev_callB g_sum (ea_cons (ev_frz (en_lc (ei_seq (ev_var (i := 2))) (tg_tup (tgs_cons (tg_name (i := 3) (by decide)) (tgs_cons (tg_name (i := 4) (by decide)) tgs_nil))) et_yes (ev_op g_mul (ev_op g_ix (ev_var (i := 1)) (ev_imm (er_call (ea_cons (ev_var (i := 0)) (ea_cons (ev_var (i := 3)) ea_nil))))) (ev_callB g_abs (ea_cons (ev_var (i := 4)) ea_nil))))) ea_nil)))))

abbrev N__law_deck : List Str := [("cell" : Str), ("turn" : Str)]
theorem sc__law_deck : FnScope N__law_deck [("cell" : Str), ("turn" : Str)] (defScope (topS 33)) := ⟨rfl, rfl, rfl, by decide +kernel, rfl, by decide +kernel, by decide +kernel⟩
theorem ok__law_deck {f : Addr} {fd : FuncData} (F : Fun K "_law_deck" "_law_deck" (topS 33) f fd) (T : Txt K mg) : FnOk P w K mg base CX0 1 f fd [("cell" : Str), ("turn" : Str)] (spOf K 2 2 m__law_deck) :=
  fn_ok (k := 0) F sc__law_deck fun cdv A out s H E hr => by
    have nd := sc__law_deck.nd
    refine ⟨_, (pss_cons (ps_if (pt_cmpR op_geS (pv 0) (pe_op op_pow pe_int pe_int) (nomark _))
  (pss_one (ps_ret (pe_lst (pa_cons (pe_op op_sub (pv 0) (pe_op op_pow pe_int pe_int)) (pa_cons (pe_op op_mod (pv 0) pe_int) (pa_cons (pv 1) pa_nil))))))
  pss_nil)
  (pss_one (ps_ret (pe_lst (pa_cons pe_int (pa_cons (pe_op op_mod (pv 0) pe_int) (pa_cons (pv 1) pa_nil))))))), ?_⟩
    exact (st_seq (st_if (et_t (ev_op g_ge (ev_var (i := 0)) (ev_op g_pow ev_int ev_int)))
  (st_retN (en_lst (ea_cons (ev_op g_sub (ev_var (i := 0)) (ev_op g_pow ev_int ev_int)) (ea_cons (ev_op g_mod (ev_var (i := 0)) ev_int) (ea_cons (ev_var (i := 1)) ea_nil)))))
  st_next)
  (st_retN (en_lst (ea_cons ev_int (ea_cons (ev_op g_mod (ev_var (i := 0)) ev_int) (ea_cons (ev_var (i := 1)) ea_nil))))))

abbrev N__law_pick : List Str := [("deck" : Str), ("size" : Str), ("found" : Str), ("number" : Str)]
theorem sc__law_pick : FnScope N__law_pick [("deck" : Str), ("size" : Str)] (defScope (topS 34)) := ⟨rfl, rfl, rfl, by decide +kernel, rfl, by decide +kernel, by decide +kernel⟩
theorem ok__law_pick {f : Addr} {fd : FuncData} (F : Fun K "_law_pick" "_law_pick" (topS 34) f fd) (T : Txt K mg) : FnOk P w K mg base CX0 1 f fd [("deck" : Str), ("size" : Str)] (spOf K 2 4 m__law_pick) :=
  fn_ok (k := 0) F sc__law_pick fun cdv A out s H E hr => by
    have nd := sc__law_pick.nd
    refine ⟨_, (pss_cons (ps_if (pt_cmpR op_gtS (pe_ix (k_ix K (by exact hu1 hr)) (pv 0) pe_int (fun _ _ => rfl)) pe_int (nomark _))
  (pss_cons (ps_set (i := 2) nd rfl (by first | exact Or.inl rfl | exact Or.inr rfl) (pe_op op_mod (pe_ix (k_ix K (by exact hu1 hr)) (pv 0) pe_int (fun _ _ => rfl)) (pv 1)))
  (pss_cons (ps_asg (pe_op op_fdivW (pe_ix (k_ix K (by exact hu1 hr)) (pv 0) pe_int (fun _ _ => rfl)) (pv 1)) (pg_sub (pv 0) pe_int (set_all (by exact hu1 hr))))
  (pss_one (ps_ret (pv 2)))))
  pss_nil)
  (pss_cons (ps_asg (pe_op (k_add K) (pe_ix (k_ix K (by exact hu1 hr)) (pv 0) pe_int (fun _ _ => rfl)) pe_int) (pg_sub (pv 0) pe_int (set_all (by exact hu1 hr))))
  (pss_cons (ps_set (i := 3) nd rfl (by first | exact Or.inl rfl | exact Or.inr rfl) (pe_op op_mod (pe_op op_pow (pe_op (k_add K) (pe_ix (k_ix K (by exact hu1 hr)) (pv 0) pe_int (fun _ _ => rfl)) (pe_op op_mulW pe_int (pe_ix (k_ix K (by exact hu1 hr)) (pv 0) pe_int (fun _ _ => rfl)))) pe_int) pe_int))
  (pss_cons (ps_set (i := 2) nd rfl (by first | exact Or.inl rfl | exact Or.inr rfl) (pe_op op_fdivW (pe_op op_mod (pe_op op_pow (pe_op (k_add K) (pv 3) (pe_op op_mulW pe_int (pe_ix (k_ix K (by exact hu1 hr)) (pv 0) pe_int (fun _ _ => rfl)))) pe_int) pe_int) pe_int))
  (pss_one (ps_ret (pe_op op_mod (pv 2) (pv 1)))))))), ?_⟩
    exact (st_seq (st_if (et_t (ev_op g_gt (ev_op g_ix (ev_var (i := 0)) ev_int) ev_int))
  (st_seq (st_set (ev_op g_mod (ev_op g_ix (ev_var (i := 0)) ev_int) (ev_var (i := 1))))
  (st_seq (st_put (ev_op g_div (ev_op g_ix (ev_var (i := 0)) ev_int) (ev_var (i := 1))) ev_int)
  (st_ret ev_var)))
  st_next)
  (st_seq (st_put (ev_op g_add (ev_op g_ix (ev_var (i := 0)) ev_int) ev_int) ev_int)
  (st_seq (st_set (ev_op g_mod (ev_op g_pow (ev_op g_add (ev_op g_ix (ev_var (i := 0)) ev_int) (ev_op g_mul ev_int (ev_op g_ix (ev_var (i := 0)) ev_int))) ev_int) ev_int))
  (st_seq (st_set (ev_op g_div (ev_op g_mod (ev_op g_pow (ev_op g_add (ev_var (i := 3)) (ev_op g_mul ev_int (ev_op g_ix (ev_var (i := 0)) ev_int))) ev_int) ev_int) ev_int))
  (st_ret (ev_op g_mod (ev_var (i := 2)) (ev_var (i := 1))))))))

abbrev N__law_one : List Str := [("deck" : Str), ("some" : Str)]
theorem sc__law_one : FnScope N__law_one [("deck" : Str), ("some" : Str)] (defScope (topS 35)) := ⟨rfl, rfl, rfl, by decide +kernel, rfl, by decide +kernel, by decide +kernel⟩
theorem ok__law_one {f : Addr} {fd : FuncData} (F : Fun K "_law_one" "_law_one" (topS 35) f fd) (T : Txt K mg)
    (c__law_pick : Cal P w K mg base 1 "_law_pick" (spOf K 2 4 m__law_pick)) : FnOk P w K mg base CX0 2 f fd [("deck" : Str), ("some" : Str)] (spOf K 2 2 m__law_one) :=
  fn_ok (k := 1) F sc__law_one fun cdv A out s H E hr => by
    have nd := sc__law_one.nd
    refine ⟨_, (pss_one (ps_ret (pe_ix (k_ix K (by exact hu1 hr)) (pv 1) (pe_c c__law_pick hr (by decide) (by rfl) (pa_cons (pv 0) (pa_cons (pe_callB (kc_len K) (by rfl) T.z_len rfl (pa_cons (pv 1) pa_nil)) pa_nil))) (fun _ _ => rfl)))), ?_⟩
    exact (st_ret (ev_op g_ix (ev_var (i := 1)) (ev_imm (er_call (ea_cons (ev_var (i := 0)) (ea_cons (ev_callB g_len (ea_cons (ev_var (i := 1)) ea_nil)) ea_nil))))))

abbrev N__law_sort : List Str := [("thing" : Str)]
theorem sc__law_sort : FnScope N__law_sort [("thing" : Str)] (defScope (topS 36)) := ⟨rfl, rfl, rfl, by decide +kernel, rfl, by decide +kernel, by decide +kernel⟩
theorem ok__law_sort {f : Addr} {fd : FuncData} (F : Fun K "_law_sort" "_law_sort" (topS 36) f fd) (T : Txt K mg) : FnOk P w K mg base CX0 1 f fd [("thing" : Str)] (spOf K 1 1 m__law_sort) :=
  fn_ok (k := 0) F sc__law_sort fun cdv A out s H E hr => by
    have nd := sc__law_sort.nd
    refine ⟨_, (pss_cons (ps_if (pt_val (pe_callB (kc_isi K) (by rfl) T.z_isinstance rfl (pa_cons (pv 0) (pa_cons (pe_bltn (v := .ty "bool") (by rfl) T.z_bool rfl rfl) pa_nil))))
  (pss_one (ps_ret pe_int))
  pss_nil)
  (pss_cons (ps_if (pt_val (pe_callB (kc_isi K) (by rfl) T.z_isinstance rfl (pa_cons (pv 0) (pa_cons (pe_bltn (v := .ty "int") (by rfl) T.z_int rfl rfl) pa_nil))))
  (pss_one (ps_ret pe_int))
  pss_nil)
  (pss_cons (ps_if (pt_val (pe_callB (kc_isi K) (by rfl) T.z_isinstance rfl (pa_cons (pv 0) (pa_cons (pe_bltn (v := .ty "str") (by rfl) T.z_str rfl rfl) pa_nil))))
  (pss_one (ps_ret pe_int))
  pss_nil)
  (pss_cons (ps_if (pt_val (pe_callB (kc_isi K) (by rfl) T.z_isinstance rfl (pa_cons (pv 0) (pa_cons (pe_bltn (v := .ty "list") (by rfl) T.z_list rfl rfl) pa_nil))))
  (pss_one (ps_ret pe_int))
  pss_nil)
  (pss_one (ps_ret (pe_ifExp (pt_val (pe_callB (kc_isi K) (by rfl) T.z_isinstance rfl (pa_cons (pv 0) (pa_cons (pe_bltn (v := .ty "tuple") (by rfl) T.z_tuple rfl rfl) pa_nil)))) pe_int pe_int))))))), ?_⟩
    exact (st_seq (st_if (et_b (ev_isi "bool" (by decide) (ev_var (i := 0))))
  (st_ret ev_int)
  st_next)
  (st_seq (st_if (et_b (ev_isi "int" (by decide) (ev_var (i := 0))))
  (st_ret ev_int)
  st_next)
  (st_seq (st_if (et_b (ev_isi "str" (by decide) (ev_var (i := 0))))
  (st_ret ev_int)
  st_next)
  (st_seq (st_if (et_b (ev_isi "list" (by decide) (ev_var (i := 0))))
  (st_ret ev_int)
  st_next)
  (st_ret (ev_if (et_b (ev_isi "tuple" (by decide) (ev_var (i := 0)))) ev_int ev_int))))))

abbrev N__law_same : List Str := [("told" : Str), ("due" : Str), ("k" : Str), ("part" : Str)]
theorem sc__law_same : FnScope N__law_same [("told" : Str), ("due" : Str)] (defScope (topS 37)) := ⟨rfl, rfl, rfl, by decide +kernel, rfl, by decide +kernel, by decide +kernel⟩
theorem ok__law_same {f : Addr} {fd : FuncData} (F : Fun K "_law_same" "_law_same" (topS 37) f fd) (hm : mg "_law_same" = some (.ref f)) (hb : Binds K fd [("told" : Str), ("due" : Str)] []) (T : Txt K mg)
    (c__law_sort : Cal P w K mg base 1 "_law_sort" (spOf K 1 1 m__law_sort)) : ∀ n : Nat, FnOk P w K mg base CX0 (1+1+n) f fd [("told" : Str), ("due" : Str)] (spOf K 2 4 (m__law_same n))
  | 0 => fn_none (k := 1) F sc__law_same fun _ => rfl
  | n + 1 => fn_ok (k := 1+1+n) F sc__law_same fun cdv A out s H E hr => by
    have nd := sc__law_same.nd
    have c__law_same : Cal P w K mg base (1+1+n) "_law_same" (spOf K 2 4 (m__law_same n)) := cal_mk (ok__law_same F hm hb T c__law_sort n) hm F.kp hb
    have le0 : 1 ≤ 1+1+n := by omega
    refine ⟨_, (pss_cons (ps_if (pt_cmpR (k_ne K (by exact hr.units)) (pe_c c__law_sort hr (by omega) (by rfl) (pa_cons (pv 0) pa_nil)) (pe_c c__law_sort hr (by omega) (by rfl) (pa_cons (pv 1) pa_nil)) (nomark _))
  (pss_one (ps_ret pe_bl))
  pss_nil)
  (pss_cons (ps_if ((pw_and (pt_cmpR op_gtS (pe_c c__law_sort hr (by omega) (by rfl) (pa_cons (pv 0) pa_nil)) pe_int (nomark _)) (pw_and1 (pt_cmpR op_ltS (pe_c c__law_sort hr (by omega) (by rfl) (pa_cons (pv 0) pa_nil)) pe_int (nomark _))))).pt
  (pss_cons (ps_if (pt_cmpR (k_ne K (by exact hr.units)) (pe_callB (kc_len K) (by rfl) T.z_len rfl (pa_cons (pv 0) pa_nil)) (pe_callB (kc_len K) (by rfl) T.z_len rfl (pa_cons (pv 1) pa_nil)) (nomark _))
  (pss_one (ps_ret pe_bl))
  pss_nil)
  (pss_one (ps_ret (pe_cmpR (k_eq K (by exact hr.units)) (pe_lc rfl nd (kp_enum K (by rfl) T.z_enumerate (pa_cons (pv 0) pa_nil)) (own := [(("k" : Str), 2), (("part" : Str), 3)]) (blk_ok (by rfl)) (fun _ _ _ _ _ => (kg_tup K (n := 2) rfl (pgs_cons (pg_name (i := 2) nd rfl (by first | exact Or.inl rfl | exact Or.inr rfl)) (pgs_cons (pg_name (i := 3) nd rfl (by first | exact Or.inl rfl | exact Or.inr rfl)) pgs_nil)))) (fun _ _ _ _ _ => (pts_one (pt_not (pt_val (pe_c c__law_same hr (by omega) (by rfl) (pa_cons (pv 3) (pa_cons (pe_ix (k_ix K (by exact hu1 hr)) (pv 1) (pv 2) (fun _ _ => rfl)) pa_nil))))))) (fun _ _ _ _ _ => (pv 2))) (pe_lst pa_nil) (nomark _)))))
  pss_nil)
  (pss_one (ps_ret (pe_cmpR (k_eq K (by exact hr.units)) (pv 0) (pv 1) (nomark _)))))), ?_⟩
    exact (st_seq (st_if (et_t (ev_op g_ne (ev_imm (er_call (ea_cons (ev_var (i := 0)) ea_nil))) (ev_imm (er_call (ea_cons (ev_var (i := 1)) ea_nil)))))
  (st_ret ev_bl)
  st_next)
  (st_seq (st_if (et_and (et_t (ev_op g_gt (ev_imm (er_call (ea_cons (ev_var (i := 0)) ea_nil))) ev_int)) (et_t (ev_op g_lt (ev_imm (er_call (ea_cons (ev_var (i := 0)) ea_nil))) ev_int)))
  (st_seq (st_if (et_t (ev_op g_ne (ev_callB g_len (ea_cons (ev_var (i := 0)) ea_nil)) (ev_callB g_len (ea_cons (ev_var (i := 1)) ea_nil))))
  (st_ret ev_bl)
  st_next)
  (st_ret (ev_op g_eq (ev_frz (en_lc (ei_enum (ea_cons (ev_var (i := 0)) ea_nil)) (tg_tup (tgs_cons (tg_name (i := 2) (by decide)) (tgs_cons (tg_name (i := 3) (by decide)) tgs_nil))) (et_not (et_b (ev_imm (er_call (ea_cons (ev_var (i := 3)) (ea_cons (ev_op g_ix (ev_var (i := 1)) (ev_var (i := 2))) ea_nil)))))) (ev_var (i := 2)))) (ev_lst ea_nil))))
  st_next)
  (st_ret (ev_op g_eq (ev_var (i := 0)) (ev_var (i := 1))))))

abbrev N__law_coins : List Str := [("deck" : Str), ("at_most" : Str), ("names" : Str), ("left" : Str), ("turn" : Str), ("found" : Str), ("at" : Str), ("kind" : Str)]
theorem sc__law_coins : FnScope N__law_coins [("deck" : Str), ("at_most" : Str)] (defScope (topS 38)) := ⟨rfl, rfl, rfl, by decide +kernel, rfl, by decide +kernel, by decide +kernel⟩
theorem ok__law_coins {f : Addr} {fd : FuncData} (F : Fun K "_law_coins" "_law_coins" (topS 38) f fd) (T : Txt K mg)
    (c__law_pick : Cal P w K mg base 1 "_law_pick" (spOf K 2 4 m__law_pick))
    (c__law_one : Cal P w K mg base 2 "_law_one" (spOf K 2 2 m__law_one)) : FnOk P w K mg base CX0 3 f fd [("deck" : Str), ("at_most" : Str)] (spOf K 2 8 m__law_coins) :=
  fn_ok (k := 2) F sc__law_coins fun cdv A out s H E hr => by
    have nd := sc__law_coins.nd
    refine ⟨_, (pss_cons (ps_set (i := 2) nd rfl (by first | exact Or.inl rfl | exact Or.inr rfl) (pe_lst (pa_cons pe_str (pa_cons pe_str (pa_cons pe_str (pa_cons pe_str (pa_cons pe_str (pa_cons pe_str (pa_cons pe_str (pa_cons pe_str pa_nil))))))))))
  (pss_cons (ps_set (i := 3) nd rfl (by first | exact Or.inl rfl | exact Or.inr rfl) (pe_lst pa_nil))
  (pss_cons (ps_for PassesOwn.never rfl (pi_range1 (by rfl) T.z_range (pa_cons (pe_op (k_add K) pe_int (pe_c c__law_pick hr (by decide) (by rfl) (pa_cons (pv 0) (pa_cons (pv 1) pa_nil)))) pa_nil)) (pg_name (i := 4) nd rfl (by first | exact Or.inl rfl | exact Or.inr rfl))
  (pss_one (ps_expr (kp_bm K PySem.F.plainAttrs_list PySem.F.slot_list_append PySem.F.type_list_append mt_append (pv 3) (pa_cons (kp_bm K PySem.F.plainAttrs_list PySem.F.slot_list_pop PySem.F.type_list_pop mt_popAt (pv 2) (pa_cons (pe_c c__law_pick hr (by decide) (by rfl) (pa_cons (pv 0) (pa_cons (pe_callB (kc_len K) (by rfl) T.z_len rfl (pa_cons (pv 2) pa_nil)) pa_nil))) pa_nil)) pa_nil)))))
  (pss_cons (ps_set (i := 5) nd rfl (by first | exact Or.inl rfl | exact Or.inr rfl) (pe_lst pa_nil))
  (pss_cons (ps_for PassesOwn.never rfl (kp_enum K (by rfl) T.z_enumerate (pa_cons (pv 3) pa_nil)) (kg_tup K (n := 2) rfl (pgs_cons (pg_name (i := 6) nd rfl (by first | exact Or.inl rfl | exact Or.inr rfl)) (pgs_cons (pg_name (i := 7) nd rfl (by first | exact Or.inl rfl | exact Or.inr rfl)) pgs_nil)))
  (pss_one (ps_if ((pw_or (pt_cmpR (k_eq K (by exact hr.units)) (pv 6) pe_int (nomark _)) (pw_or1 (pt_cmpR (k_eq K (by exact hr.units)) (pe_c c__law_pick hr (by decide) (by rfl) (pa_cons (pv 0) (pa_cons pe_int pa_nil))) pe_int (nomark _))))).pt
  (pss_one (ps_expr (kp_bm K PySem.F.plainAttrs_list PySem.F.slot_list_append PySem.F.type_list_append mt_append (pv 5) (pa_cons (pe_tup (pa_cons (pv 7) (pa_cons pe_int (pa_cons pe_str pa_nil)))) pa_nil))))
  (pss_one (ps_expr (kp_bm K PySem.F.plainAttrs_list PySem.F.slot_list_append PySem.F.type_list_append mt_append (pv 5) (pa_cons (pe_tup (pa_cons (pv 7) (pa_cons (pe_c c__law_one hr (by decide) (by rfl) (pa_cons (pv 0) (pa_cons (pe_lst (pa_cons pe_int (pa_cons pe_int (pa_cons pe_int (pa_cons pe_int (pa_cons (pe_op (k_add K) pe_int (pe_c c__law_pick hr (by decide) (by rfl) (pa_cons (pv 0) (pa_cons pe_int pa_nil)))) pa_nil)))))) pa_nil))) (pa_cons (pe_ix (k_ix K (by exact hu1 hr)) (pv 3) (pe_c c__law_pick hr (by decide) (by rfl) (pa_cons (pv 0) (pa_cons (pv 6) pa_nil))) (fun _ _ => rfl)) pa_nil)))) pa_nil)))))))
  (pss_one (ps_ret (pe_callTy (kc_tuple K) (by rfl) T.z_tuple rfl (pa_cons (pe_callB (kc_sorted K (by exact hu65 hr)) (by rfl) T.z_sorted rfl (pa_cons (pv 5) pa_nil)) pa_nil))))))))), ?_⟩
    exact (st_seq (st_setN (en_lst (ea_cons ev_str (ea_cons ev_str (ea_cons ev_str (ea_cons ev_str (ea_cons ev_str (ea_cons ev_str (ea_cons ev_str (ea_cons ev_str ea_nil))))))))))
  (st_seq (st_setN (en_lst ea_nil))
  (st_seq (st_for (vs := [0, 1, 2, 3, 4, 5, 6, 7]) (ei_range1 (ea_cons (ev_op g_add ev_int (ev_imm (er_call (ea_cons (ev_var (i := 0)) (ea_cons (ev_var (i := 1)) ea_nil))))) ea_nil)) (tg_name (i := 4) (by decide))
  (st_drop (ev_methB g_append (ea_cons (ev_methB g_popAt (ea_cons (ev_imm (er_call (ea_cons (ev_var (i := 0)) (ea_cons (ev_callB g_len (ea_cons (ev_var (i := 2)) ea_nil)) ea_nil)))) ea_nil)) ea_nil))))
  (st_seq (st_setN (en_lst ea_nil))
  (st_seq (st_for (vs := [0, 1, 2, 3, 4, 5, 6, 7]) (ei_enum (ea_cons (ev_frzV (i := 3)) ea_nil)) (tg_tup (tgs_cons (tg_name (i := 6) (by decide)) (tgs_cons (tg_name (i := 7) (by decide)) tgs_nil)))
  (st_if (et_or (et_t (ev_op g_eq (ev_var (i := 6)) ev_int)) (et_t (ev_op g_eq (ev_imm (er_call (ea_cons (ev_var (i := 0)) (ea_cons ev_int ea_nil)))) ev_int)))
  (st_drop (ev_methB g_append (ea_cons (ev_tup (ea_cons (ev_var (i := 7)) (ea_cons ev_int (ea_cons ev_str ea_nil)))) ea_nil)))
  (st_drop (ev_methB g_append (ea_cons (ev_tup (ea_cons (ev_var (i := 7)) (ea_cons (ev_imm (er_call (ea_cons (ev_var (i := 0)) (ea_cons (ev_lst (ea_cons ev_int (ea_cons ev_int (ea_cons ev_int (ea_cons ev_int (ea_cons (ev_op g_add ev_int (ev_imm (er_call (ea_cons (ev_var (i := 0)) (ea_cons ev_int ea_nil))))) ea_nil)))))) ea_nil)))) (ea_cons (ev_op g_ix (ev_var (i := 3)) (ev_imm (er_call (ea_cons (ev_var (i := 0)) (ea_cons (ev_var (i := 6)) ea_nil))))) ea_nil)))) ea_nil)))))
  (st_ret (ev_callB g_tuple (ea_cons (ev_frz (en_callB g_sorted (ea_cons (ev_var (i := 5)) ea_nil))) ea_nil))))))))

abbrev N__law_purse : List Str := [("deck" : Str), ("coins_so" : Str), ("at_most" : Str), ("found" : Str), ("row" : Str)]
theorem sc__law_purse : FnScope N__law_purse [("deck" : Str), ("coins_so" : Str), ("at_most" : Str)] (defScope (topS 39)) := ⟨rfl, rfl, rfl, by decide +kernel, rfl, by decide +kernel, by decide +kernel⟩
theorem ok__law_purse {f : Addr} {fd : FuncData} (F : Fun K "_law_purse" "_law_purse" (topS 39) f fd) (T : Txt K mg)
    (c__law_one : Cal P w K mg base 2 "_law_one" (spOf K 2 2 m__law_one))
    (c__law_pick : Cal P w K mg base 1 "_law_pick" (spOf K 2 4 m__law_pick)) : FnOk P w K mg base CX0 3 f fd [("deck" : Str), ("coins_so" : Str), ("at_most" : Str)] (spOf K 3 5 m__law_purse) :=
  fn_ok (k := 2) F sc__law_purse fun cdv A out s H E hr => by
    have nd := sc__law_purse.nd
    refine ⟨_, (pss_cons (ps_set (i := 3) nd rfl (by first | exact Or.inl rfl | exact Or.inr rfl) (pe_lst pa_nil))
  (pss_cons (ps_for PassesOwn.never rfl (kp_seq K (pv 1)) (pg_name (i := 4) nd rfl (by first | exact Or.inl rfl | exact Or.inr rfl))
  (pss_one (ps_expr (kp_bm K PySem.F.plainAttrs_list PySem.F.slot_list_append PySem.F.type_list_append mt_append (pv 3) (pa_cons (pe_c c__law_one hr (by decide) (by rfl) (pa_cons (pv 0) (pa_cons (pe_lst (pa_cons pe_int (pa_cons pe_int (pa_cons (pe_c c__law_pick hr (by decide) (by rfl) (pa_cons (pv 0) (pa_cons (pe_op (k_add K) (pv 2) pe_int) pa_nil))) (pa_cons (pe_c c__law_pick hr (by decide) (by rfl) (pa_cons (pv 0) (pa_cons (pe_op (k_add K) (pv 2) pe_int) pa_nil))) pa_nil))))) pa_nil))) pa_nil)))))
  (pss_one (ps_ret (pe_callTy (kc_tuple K) (by rfl) T.z_tuple rfl (pa_cons (pv 3) pa_nil)))))), ?_⟩
    exact (st_seq (st_setN (en_lst ea_nil))
  (st_seq (st_for (vs := [0, 1, 2, 3, 4]) (ei_seq (ev_var (i := 1))) (tg_name (i := 4) (by decide))
  (st_drop (ev_methB g_append (ea_cons (ev_imm (er_call (ea_cons (ev_var (i := 0)) (ea_cons (ev_lst (ea_cons ev_int (ea_cons ev_int (ea_cons (ev_imm (er_call (ea_cons (ev_var (i := 0)) (ea_cons (ev_op g_add (ev_var (i := 2)) ev_int) ea_nil)))) (ea_cons (ev_imm (er_call (ea_cons (ev_var (i := 0)) (ea_cons (ev_op g_add (ev_var (i := 2)) ev_int) ea_nil)))) ea_nil))))) ea_nil)))) ea_nil))))
  (st_ret (ev_callB g_tuple (ea_cons (ev_var (i := 3)) ea_nil)))))

abbrev N__law_at : List Str := [("coins_so" : Str), ("kind" : Str), ("row" : Str)]
theorem sc__law_at : FnScope N__law_at [("coins_so" : Str), ("kind" : Str)] (defScope (topS 40)) := ⟨rfl, rfl, rfl, by decide +kernel, rfl, by decide +kernel, by decide +kernel⟩
theorem ok__law_at {f : Addr} {fd : FuncData} (F : Fun K "_law_at" "_law_at" (topS 40) f fd) (T : Txt K mg) : FnOk P w K mg base CX0 1 f fd [("coins_so" : Str), ("kind" : Str)] (spOf K 2 3 m__law_at) :=
  fn_ok (k := 0) F sc__law_at fun cdv A out s H E hr => by
    have nd := sc__law_at.nd
    refine ⟨_, (pss_one (ps_ret (kp_bm K PySem.F.plainAttrs_list PySem.F.slot_list_index PySem.F.type_list_index (k_index K (by exact hu65 hr)) (pe_lc rfl nd (kp_seq K (pv 0)) (own := [(("row" : Str), 2)]) (blk_ok (by rfl)) (fun _ _ _ _ _ => (pg_name (i := 2) nd rfl (by first | exact Or.inl rfl | exact Or.inr rfl))) (fun _ _ _ _ _ => pts_nil) (fun _ _ _ _ _ => (pe_ix (k_ix K (by exact hu1 hr)) (pv 2) pe_int (fun _ _ => rfl)))) (pa_cons (pv 1) pa_nil)))), ?_⟩
    exact (st_ret (ev_look g_index (ev_frz (en_lc (ei_seq (ev_var (i := 0))) (tg_name (i := 2) (by decide)) et_yes (ev_op g_ix (ev_var (i := 2)) ev_int))) (ea_cons (ev_var (i := 1)) ea_nil)))

abbrev N__law_changed : List Str := [("coins_so" : Str), ("purse" : Str), ("kind" : Str), ("times" : Str), ("at" : Str), ("many" : Str), ("above" : Str), ("found" : Str)]
theorem sc__law_changed : FnScope N__law_changed [("coins_so" : Str), ("purse" : Str), ("kind" : Str), ("times" : Str)] (defScope (topS 41)) := ⟨rfl, rfl, rfl, by decide +kernel, rfl, by decide +kernel, by decide +kernel⟩
theorem ok__law_changed {f : Addr} {fd : FuncData} (F : Fun K "_law_changed" "_law_changed" (topS 41) f fd) (T : Txt K mg)
    (c__law_at : Cal P w K mg base 1 "_law_at" (spOf K 2 3 m__law_at)) : FnOk P w K mg base CX0 2 f fd [("coins_so" : Str), ("purse" : Str), ("kind" : Str), ("times" : Str)] (spOf K 4 8 m__law_changed) :=
  fn_ok (k := 1) F sc__law_changed fun cdv A out s H E hr => by
    have nd := sc__law_changed.nd
    refine ⟨_, (pss_cons (ps_set (i := 4) nd rfl (by first | exact Or.inl rfl | exact Or.inr rfl) (pe_c c__law_at hr (by decide) (by rfl) (pa_cons (pv 0) (pa_cons (pv 2) pa_nil))))
  (pss_cons (ps_par (i := 5) (j := 6) rfl nd rfl rfl (by decide) rfl rfl (pa_cons (pe_ix (k_ix K (by exact hu1 hr)) (pe_ix (k_ix K (by exact hu1 hr)) (pv 0) (pv 4) (fun _ _ => rfl)) pe_int (fun _ _ => rfl)) (pa_cons (pe_c c__law_at hr (by decide) (by rfl) (pa_cons (pv 0) (pa_cons (pe_ix (k_ix K (by exact hu1 hr)) (pe_ix (k_ix K (by exact hu1 hr)) (pv 0) (pv 4) (fun _ _ => rfl)) pe_int (fun _ _ => rfl)) pa_nil))) pa_nil)) (by rfl))
  (pss_cons (ps_set (i := 7) nd rfl (by first | exact Or.inl rfl | exact Or.inr rfl) (pe_callTy (kc_list K) (by rfl) T.z_list rfl (pa_cons (pv 1) pa_nil)))
  (pss_cons (ps_asg (pe_op op_sub (pe_ix (k_ix K (by exact hu1 hr)) (pv 7) (pv 4) (fun _ _ => rfl)) (pe_op op_mulW (pv 5) (pv 3))) (pg_sub (pv 7) (pv 4) (set_all (by exact hu1 hr))))
  (pss_cons (ps_asg (pe_op (k_add K) (pe_ix (k_ix K (by exact hu1 hr)) (pv 7) (pv 6) (fun _ _ => rfl)) (pv 3)) (pg_sub (pv 7) (pv 6) (set_all (by exact hu1 hr))))
  (pss_one (ps_ret (pe_ifExp (pt_cmpR op_geS (pe_callB (kc_min K rfl (by exact hu65 hr)) (by rfl) T.z_min rfl (pa_cons (pv 7) pa_nil)) pe_int (nomark _)) (pe_callTy (kc_tuple K) (by rfl) T.z_tuple rfl (pa_cons (pv 7) pa_nil)) pe_non)))))))), ?_⟩
    exact (st_seq (st_set (ev_imm (er_call (ea_cons (ev_var (i := 0)) (ea_cons (ev_var (i := 2)) ea_nil)))))
  (st_seq (st_par (ea_cons (ev_op g_ix (ev_op g_ix (ev_var (i := 0)) (ev_var (i := 4))) ev_int) (ea_cons (ev_imm (er_call (ea_cons (ev_var (i := 0)) (ea_cons (ev_op g_ix (ev_op g_ix (ev_var (i := 0)) (ev_var (i := 4))) ev_int) ea_nil)))) ea_nil)))
  (st_seq (st_setN (en_callB g_list (ea_cons (ev_var (i := 1)) ea_nil)))
  (st_seq (st_put (ev_op g_sub (ev_op g_ix (ev_var (i := 7)) (ev_var (i := 4))) (ev_op g_mul (ev_var (i := 5)) (ev_var (i := 3)))) (ev_var (i := 4)))
  (st_seq (st_put (ev_op g_add (ev_op g_ix (ev_var (i := 7)) (ev_var (i := 6))) (ev_var (i := 3))) (ev_var (i := 6)))
  (st_ret (ev_if (et_t (ev_op g_ge (ev_callB g_min (ea_cons (ev_var (i := 7)) ea_nil)) ev_int)) (ev_callB g_tuple (ea_cons (ev_var (i := 7)) ea_nil)) ev_non)))))))

abbrev N__law_done : List Str := [("coins_so" : Str), ("purse" : Str), ("row" : Str), ("kind" : Str), ("times" : Str)]
theorem sc__law_done : FnScope N__law_done [("coins_so" : Str), ("purse" : Str), ("row" : Str)] (defScope (topS 42)) := ⟨rfl, rfl, rfl, by decide +kernel, rfl, by decide +kernel, by decide +kernel⟩
theorem ok__law_done {f : Addr} {fd : FuncData} (F : Fun K "_law_done" "_law_done" (topS 42) f fd) (T : Txt K mg)
    (c__law_changed : Cal P w K mg base 2 "_law_changed" (spOf K 4 8 m__law_changed)) : FnOk P w K mg base CX0 3 f fd [("coins_so" : Str), ("purse" : Str), ("row" : Str)] (spOf K 3 5 m__law_done) :=
  fn_ok (k := 2) F sc__law_done fun cdv A out s H E hr => by
    have nd := sc__law_done.nd
    refine ⟨_, (pss_cons (ps_for PassesOwn.never rfl (kp_seq K (pv 2)) (kg_tup K (n := 2) rfl (pgs_cons (pg_name (i := 3) nd rfl (by first | exact Or.inl rfl | exact Or.inr rfl)) (pgs_cons (pg_name (i := 4) nd rfl (by first | exact Or.inl rfl | exact Or.inr rfl)) pgs_nil)))
  (pss_one (ps_if (pt_cmpR op_notN (pv 1) pe_non (nomark _))
  (pss_one (ps_set (i := 1) nd rfl (by first | exact Or.inl rfl | exact Or.inr rfl) (pe_c c__law_changed hr (by decide) (by rfl) (pa_cons (pv 0) (pa_cons (pv 1) (pa_cons (pv 3) (pa_cons (pv 4) pa_nil)))))))
  pss_nil)))
  (pss_one (ps_ret (pv 1)))), ?_⟩
    exact (st_seq (st_for (vs := [0, 1, 2, 3, 4]) (ei_seq (ev_var (i := 2))) (tg_tup (tgs_cons (tg_name (i := 3) (by decide)) (tgs_cons (tg_name (i := 4) (by decide)) tgs_nil)))
  (st_if (et_t (ev_op g_notN (ev_var (i := 1)) ev_non))
  (st_set (ev_imm (er_call (ea_cons (ev_var (i := 0)) (ea_cons (ev_var (i := 1)) (ea_cons (ev_var (i := 3)) (ea_cons (ev_var (i := 4)) ea_nil)))))))
  st_next))
  (st_ret ev_var))

abbrev N__law_singles : List Str := [("coins_so" : Str), ("purse" : Str), ("found" : Str), ("row" : Str), ("way" : Str)]
theorem sc__law_singles : FnScope N__law_singles [("coins_so" : Str), ("purse" : Str)] (defScope (topS 43)) := ⟨rfl, rfl, rfl, by decide +kernel, rfl, by decide +kernel, by decide +kernel⟩
theorem ok__law_singles {f : Addr} {fd : FuncData} (F : Fun K "_law_singles" "_law_singles" (topS 43) f fd) (T : Txt K mg)
    (c__law_changed : Cal P w K mg base 2 "_law_changed" (spOf K 4 8 m__law_changed)) : FnOk P w K mg base CX0 3 f fd [("coins_so" : Str), ("purse" : Str)] (spOf K 2 5 m__law_singles) :=
  fn_ok (k := 2) F sc__law_singles fun cdv A out s H E hr => by
    have nd := sc__law_singles.nd
    refine ⟨_, (pss_cons (ps_set (i := 2) nd rfl (by first | exact Or.inl rfl | exact Or.inr rfl) (pe_lst pa_nil))
  (pss_cons (ps_for PassesOwn.never rfl (kp_seq K (pv 0)) (pg_name (i := 3) nd rfl (by first | exact Or.inl rfl | exact Or.inr rfl))
  (pss_one (ps_for PassesOwn.never rfl (kp_seq K (pe_lst (pa_cons (pe_un un_neg pe_int) (pa_cons pe_int pa_nil)))) (pg_name (i := 4) nd rfl (by first | exact Or.inl rfl | exact Or.inr rfl))
  (pss_one (ps_if ((pw_and (pt_cmpR (k_ne K (by exact hr.units)) (pe_ix (k_ix K (by exact hu1 hr)) (pv 3) pe_int (fun _ _ => rfl)) pe_str (nomark _)) (pw_and1 (pt_cmpR op_notN (pe_c c__law_changed hr (by decide) (by rfl) (pa_cons (pv 0) (pa_cons (pv 1) (pa_cons (pe_ix (k_ix K (by exact hu1 hr)) (pv 3) pe_int (fun _ _ => rfl)) (pa_cons (pv 4) pa_nil))))) pe_non (nomark _))))).pt
  (pss_one (ps_expr (kp_bm K PySem.F.plainAttrs_list PySem.F.slot_list_append PySem.F.type_list_append mt_append (pv 2) (pa_cons (pe_tup (pa_cons (pe_ix (k_ix K (by exact hu1 hr)) (pv 3) pe_int (fun _ _ => rfl)) (pa_cons (pv 4) pa_nil))) pa_nil))))
  pss_nil)))))
  (pss_one (ps_ret (pv 2))))), ?_⟩
    exact (st_seq (st_setN (en_lst ea_nil))
  (st_seq (st_for (vs := [0, 1, 2, 3, 4]) (ei_seq (ev_var (i := 0))) (tg_name (i := 3) (by decide))
  (st_for (vs := [0, 1, 2, 3, 4]) (ei_seq (ev_lst (ea_cons (ev_un g_neg ev_int) (ea_cons ev_int ea_nil)))) (tg_name (i := 4) (by decide))
  (st_if (et_and (et_t (ev_op g_ne (ev_op g_ix (ev_var (i := 3)) ev_int) ev_str)) (et_t (ev_op g_notN (ev_imm (er_call (ea_cons (ev_var (i := 0)) (ea_cons (ev_var (i := 1)) (ea_cons (ev_op g_ix (ev_var (i := 3)) ev_int) (ea_cons (ev_var (i := 4)) ea_nil)))))) ev_non)))
  (st_drop (ev_methB g_append (ea_cons (ev_tup (ea_cons (ev_op g_ix (ev_var (i := 3)) ev_int) (ea_cons (ev_var (i := 4)) ea_nil))) ea_nil)))
  st_next)))
  (st_ret ev_var)))

abbrev N__law_row : List Str := [("deck" : Str), ("coins_so" : Str), ("purse" : Str), ("at_most" : Str), ("far" : Str), ("found" : Str), ("turn" : Str), ("some" : Str), ("kind" : Str), ("way" : Str), ("times" : Str), ("there" : Str)]
theorem sc__law_row : FnScope N__law_row [("deck" : Str), ("coins_so" : Str), ("purse" : Str), ("at_most" : Str), ("far" : Str)] (defScope (topS 44)) := ⟨rfl, rfl, rfl, by decide +kernel, rfl, by decide +kernel, by decide +kernel⟩
theorem ok__law_row {f : Addr} {fd : FuncData} (F : Fun K "_law_row" "_law_row" (topS 44) f fd) (T : Txt K mg)
    (c__law_pick : Cal P w K mg base 1 "_law_pick" (spOf K 2 4 m__law_pick))
    (c__law_singles : Cal P w K mg base 3 "_law_singles" (spOf K 2 5 m__law_singles))
    (c__law_one : Cal P w K mg base 2 "_law_one" (spOf K 2 2 m__law_one))
    (c__law_changed : Cal P w K mg base 2 "_law_changed" (spOf K 4 8 m__law_changed)) : FnOk P w K mg base CX0 4 f fd [("deck" : Str), ("coins_so" : Str), ("purse" : Str), ("at_most" : Str), ("far" : Str)] (spOf K 5 12 m__law_row) :=
  fn_ok (k := 3) F sc__law_row fun cdv A out s H E hr => by
    have nd := sc__law_row.nd
    refine ⟨_, (pss_cons (ps_set (i := 5) nd rfl (by first | exact Or.inl rfl | exact Or.inr rfl) (pe_lst pa_nil))
  (pss_cons (ps_for PassesOwn.never rfl (pi_range1 (by rfl) T.z_range (pa_cons (pe_c c__law_pick hr (by decide) (by rfl) (pa_cons (pv 0) (pa_cons (pe_op (k_add K) (pv 3) pe_int) pa_nil))) pa_nil)) (pg_name (i := 6) nd rfl (by first | exact Or.inl rfl | exact Or.inr rfl))
  (pss_cons (ps_set (i := 7) nd rfl (by first | exact Or.inl rfl | exact Or.inr rfl) (pe_c c__law_singles hr (by decide) (by rfl) (pa_cons (pv 1) (pa_cons (pv 2) pa_nil))))
  (pss_cons (ps_if (pt_cmpR (k_eq K (by exact hr.units)) (pv 7) (pe_lst pa_nil) (nomark _))
  (pss_one (ps_ret (pv 5)))
  pss_nil)
  (pss_cons (ps_asg (pe_c c__law_one hr (by decide) (by rfl) (pa_cons (pv 0) (pa_cons (pv 7) pa_nil))) (kg_tup K (n := 2) rfl (pgs_cons (pg_name (i := 8) nd rfl (by first | exact Or.inl rfl | exact Or.inr rfl)) (pgs_cons (pg_name (i := 9) nd rfl (by first | exact Or.inl rfl | exact Or.inr rfl)) pgs_nil))))
  (pss_cons (ps_set (i := 10) nd rfl (by first | exact Or.inl rfl | exact Or.inr rfl) (pe_op op_mulW (pv 9) (pe_op (k_add K) pe_int (pe_c c__law_pick hr (by decide) (by rfl) (pa_cons (pv 0) (pa_cons (pv 4) pa_nil))))))
  (pss_cons (ps_set (i := 11) nd rfl (by first | exact Or.inl rfl | exact Or.inr rfl) (pe_c c__law_changed hr (by decide) (by rfl) (pa_cons (pv 1) (pa_cons (pv 2) (pa_cons (pv 8) (pa_cons (pv 10) pa_nil))))))
  (pss_cons (ps_if (pt_cmpR op_isN (pv 11) pe_non (nomark _))
  (pss_cons (ps_set (i := 10) nd rfl (by first | exact Or.inl rfl | exact Or.inr rfl) (pv 9))
  (pss_one (ps_set (i := 11) nd rfl (by first | exact Or.inl rfl | exact Or.inr rfl) (pe_c c__law_changed hr (by decide) (by rfl) (pa_cons (pv 1) (pa_cons (pv 2) (pa_cons (pv 8) (pa_cons (pv 10) pa_nil))))))))
  pss_nil)
  (pss_cons (ps_expr (kp_bm K PySem.F.plainAttrs_list PySem.F.slot_list_append PySem.F.type_list_append mt_append (pv 5) (pa_cons (pe_tup (pa_cons (pv 8) (pa_cons (pv 10) pa_nil))) pa_nil)))
  (pss_one (ps_set (i := 2) nd rfl (by first | exact Or.inl rfl | exact Or.inr rfl) (pv 11)))))))))))
  (pss_one (ps_ret (pv 5))))), ?_⟩
    exact (st_seq (st_setN (en_lst ea_nil))
  (st_seq (st_for (vs := [0, 1, 2, 3, 4, 5, 6, 7, 8, 9, 10, 11]) (ei_range1 (ea_cons (ev_imm (er_call (ea_cons (ev_var (i := 0)) (ea_cons (ev_op g_add (ev_var (i := 3)) ev_int) ea_nil)))) ea_nil)) (tg_name (i := 6) (by decide))
  (st_seq (st_set (ev_imm (er_call (ea_cons (ev_var (i := 1)) (ea_cons (ev_var (i := 2)) ea_nil)))))
  (st_seq (st_if (et_t (ev_op g_eq (ev_var (i := 7)) (ev_lst ea_nil)))
  (st_ret ev_var)
  st_next)
  (st_seq (st_tg (ev_imm (er_call (ea_cons (ev_var (i := 0)) (ea_cons (ev_var (i := 7)) ea_nil)))) (tg_tup (tgs_cons (tg_name (i := 8) (by decide)) (tgs_cons (tg_name (i := 9) (by decide)) tgs_nil))) (vs := [0, 1, 2, 3, 4, 5, 6, 7, 8, 9, 10, 11]))
  (st_seq (st_set (ev_op g_mul (ev_var (i := 9)) (ev_op g_add ev_int (ev_imm (er_call (ea_cons (ev_var (i := 0)) (ea_cons (ev_var (i := 4)) ea_nil)))))))
  (st_seq (st_set (ev_imm (er_call (ea_cons (ev_var (i := 1)) (ea_cons (ev_var (i := 2)) (ea_cons (ev_var (i := 8)) (ea_cons (ev_var (i := 10)) ea_nil)))))))
  (st_seq (st_if (et_t (ev_op g_isN (ev_var (i := 11)) ev_non))
  (st_seq (st_set (ev_var (i := 9)))
  (st_set (ev_imm (er_call (ea_cons (ev_var (i := 1)) (ea_cons (ev_var (i := 2)) (ea_cons (ev_var (i := 8)) (ea_cons (ev_var (i := 10)) ea_nil))))))))
  st_next)
  (st_seq (st_drop (ev_methB g_append (ea_cons (ev_tup (ea_cons (ev_var (i := 8)) (ea_cons (ev_var (i := 10)) ea_nil))) ea_nil)))
  (st_set (ev_var (i := 11)))))))))))
  (st_ret ev_var)))

abbrev N_law : List Str := [("script" : Str), ("cell" : Str), ("deck" : Str), ("coins_so" : Str), ("purse" : Str), ("row" : Str), ("bent" : Str), ("turn" : Str), ("kind" : Str), ("times" : Str), ("fees" : Str), ("one" : Str), ("some" : Str), ("due" : Str), ("there" : Str), ("back" : Str)]
theorem sc_law : FnScope N_law [("script" : Str)] (defScope (topS 45)) := ⟨rfl, rfl, rfl, by decide +kernel, rfl, by decide +kernel, by decide +kernel⟩
theorem ok_law {f : Addr} {fd : FuncData} (F : Fun K "law" "law" (topS 45) f fd) (T : Txt K mg)
    (c__law_deck : Cal P w K mg base 1 "_law_deck" (spOf K 2 2 m__law_deck))
    (c__law_coins : Cal P w K mg base 3 "_law_coins" (spOf K 2 8 m__law_coins))
    (c__law_purse : Cal P w K mg base 3 "_law_purse" (spOf K 3 5 m__law_purse))
    (c__law_one : Cal P w K mg base 2 "_law_one" (spOf K 2 2 m__law_one))
    (c__law_row : Cal P w K mg base 4 "_law_row" (spOf K 5 12 m__law_row))
    (c__law_pick : Cal P w K mg base 1 "_law_pick" (spOf K 2 4 m__law_pick))
    (c__law_same : Cal P w K mg base 22 "_law_same" (spOf K 2 4 (m__law_same 20)))
    (c_behind : Cal P w K mg base 6 "behind" (spOf K 3 3 m_behind))
    (c__law_done : Cal P w K mg base 3 "_law_done" (spOf K 3 5 m__law_done))
    (c__law_at : Cal P w K mg base 1 "_law_at" (spOf K 2 3 m__law_at))
    (c_cost : Cal P w K mg base 6 "cost" (spOf K 3 5 m_cost)) : FnOk P w K mg base CX0 23 f fd [("script" : Str)] (spOf K 1 16 m_law) :=
  fn_ok (k := 22) F sc_law fun cdv A out s H E hr => by
    have nd := sc_law.nd
    refine ⟨_, (pss_cons (ps_for PassesOwn.never rfl (kp_seq K (pe_slice (k_sl K) (pe_op (k_add K) (pe_lst (pa_cons pe_int pa_nil)) (pv 0)) po_none (po_some pe_int))) (pg_name (i := 1) nd rfl (by first | exact Or.inl rfl | exact Or.inr rfl))
  (pss_cons (ps_set (i := 2) nd rfl (by first | exact Or.inl rfl | exact Or.inr rfl) (pe_c c__law_deck hr (by decide) (by rfl) (pa_cons (pv 1) (pa_cons pe_int pa_nil))))
  (pss_cons (ps_set (i := 3) nd rfl (by first | exact Or.inl rfl | exact Or.inr rfl) (pe_c c__law_coins hr (by decide) (by rfl) (pa_cons (pv 2) (pa_cons pe_int pa_nil))))
  (pss_cons (ps_set (i := 4) nd rfl (by first | exact Or.inl rfl | exact Or.inr rfl) (pe_c c__law_purse hr (by decide) (by rfl) (pa_cons (pv 2) (pa_cons (pv 3) (pa_cons (pe_c c__law_one hr (by decide) (by rfl) (pa_cons (pv 2) (pa_cons (pe_lst (pa_cons pe_int (pa_cons pe_int (pa_cons (pe_op op_pow pe_int pe_int) pa_nil)))) pa_nil))) pa_nil)))))
  (pss_cons (ps_set (i := 5) nd rfl (by first | exact Or.inl rfl | exact Or.inr rfl) (pe_c c__law_row hr (by decide) (by rfl) (pa_cons (pv 2) (pa_cons (pv 3) (pa_cons (pv 4) (pa_cons pe_int (pa_cons (pe_c c__law_one hr (by decide) (by rfl) (pa_cons (pv 2) (pa_cons (pe_lst (pa_cons pe_int (pa_cons pe_int (pa_cons (pe_op op_pow pe_int pe_int) pa_nil)))) pa_nil))) pa_nil)))))))
  (pss_cons (ps_set (i := 6) nd rfl (by first | exact Or.inl rfl | exact Or.inr rfl) (pe_callTy (kc_list K) (by rfl) T.z_list rfl (pa_cons (pv 5) pa_nil)))
  (pss_cons (ps_for PassesOwn.never rfl (pi_range1 (by rfl) T.z_range (pa_cons (pe_callB (call_min2 rfl) (by rfl) T.z_min rfl (pa_cons pe_int (pa_cons (pe_callB (kc_len K) (by rfl) T.z_len rfl (pa_cons (pv 5) pa_nil)) pa_nil))) pa_nil)) (pg_name (i := 7) nd rfl (by first | exact Or.inl rfl | exact Or.inr rfl))
  (pss_cons (ps_asg (pe_c c__law_one hr (by decide) (by rfl) (pa_cons (pv 2) (pa_cons (pv 5) pa_nil))) (kg_tup K (n := 2) rfl (pgs_cons (pg_name (i := 8) nd rfl (by first | exact Or.inl rfl | exact Or.inr rfl)) (pgs_cons (pg_name (i := 9) nd rfl (by first | exact Or.inl rfl | exact Or.inr rfl)) pgs_nil))))
  (pss_one (ps_expr (kp_bm K PySem.F.plainAttrs_list PySem.F.slot_list_insert PySem.F.type_list_insert mt_insert (pv 6) (pa_cons (pe_c c__law_pick hr (by decide) (by rfl) (pa_cons (pv 2) (pa_cons (pe_callB (kc_len K) (by rfl) T.z_len rfl (pa_cons (pv 5) pa_nil)) pa_nil))) (pa_cons (pe_tup (pa_cons (pv 8) (pa_cons (pe_op op_mulW (pv 9) (pe_c c__law_one hr (by decide) (by rfl) (pa_cons (pv 2) (pa_cons (pe_lst (pa_cons pe_int (pa_cons pe_int (pa_cons pe_int pa_nil)))) pa_nil)))) pa_nil))) pa_nil)))))))
  (pss_cons (ps_set (i := 10) nd rfl (by first | exact Or.inl rfl | exact Or.inr rfl) (pe_callTy (kc_tuple K) (by rfl) T.z_tuple rfl (pa_cons (pe_lc rfl nd (kp_seq K (pv 3)) (own := [(("one" : Str), 11)]) (blk_ok (by rfl)) (fun _ _ _ _ _ => (pg_name (i := 11) nd rfl (by first | exact Or.inl rfl | exact Or.inr rfl))) (fun _ _ _ _ _ => pts_nil) (fun _ _ _ _ _ => (pe_c c__law_pick hr (by decide) (by rfl) (pa_cons (pv 2) (pa_cons pe_int pa_nil))))) pa_nil)))
  (pss_cons (ps_for PassesOwn.never rfl (kp_seq K (pe_lst (pa_cons (pv 5) (pa_cons (pv 6) (pa_cons (pe_slice (k_sl K) (pv 5) po_none (po_some pe_int)) (pa_cons (pe_lst pa_nil) pa_nil)))))) (pg_name (i := 12) nd rfl (by first | exact Or.inl rfl | exact Or.inr rfl))
  (pss_one (ps_if (pt_cmpR (k_eq K (by exact hr.units)) (pe_lc rfl nd (kp_seq K (pv 12)) (own := [(("kind" : Str), 8), (("times" : Str), 9)]) (blk_ok (by rfl)) (fun _ _ _ _ _ => (kg_tup K (n := 2) rfl (pgs_cons (pg_name (i := 8) nd rfl (by first | exact Or.inl rfl | exact Or.inr rfl)) (pgs_cons (pg_name (i := 9) nd rfl (by first | exact Or.inl rfl | exact Or.inr rfl)) pgs_nil)))) (fun _ _ _ _ _ => (pts_one (pt_cmpR op_gtS (pe_callB call_abs (by rfl) T.z_abs rfl (pa_cons (pv 9) pa_nil)) (pe_op op_pow pe_int pe_int) (nomark _)))) (fun _ _ _ _ _ => pe_int)) (pe_lst pa_nil) (nomark _))
  (pss_cons (ps_if (pt_not (pt_val (pe_c c__law_same hr (by decide) (by rfl) (pa_cons (pe_c c_behind hr (by decide) (by rfl) (pa_cons (pv 3) (pa_cons (pv 4) (pa_cons (pv 12) pa_nil)))) (pa_cons (pe_c c__law_done hr (by decide) (by rfl) (pa_cons (pv 3) (pa_cons (pv 4) (pa_cons (pv 12) pa_nil)))) pa_nil)))))
  (pss_one (ps_ret pe_bl))
  pss_nil)
  (pss_cons (ps_set (i := 13) nd rfl (by first | exact Or.inl rfl | exact Or.inr rfl) (pe_callB (kc_sum K rfl) (by rfl) T.z_sum rfl (pa_cons (pe_lc rfl nd (kp_seq K (pv 12)) (own := [(("kind" : Str), 8), (("times" : Str), 9)]) (blk_ok (by rfl)) (fun _ _ _ _ _ => (kg_tup K (n := 2) rfl (pgs_cons (pg_name (i := 8) nd rfl (by first | exact Or.inl rfl | exact Or.inr rfl)) (pgs_cons (pg_name (i := 9) nd rfl (by first | exact Or.inl rfl | exact Or.inr rfl)) pgs_nil)))) (fun _ _ _ _ _ => pts_nil) (fun _ _ _ _ _ => (pe_op op_mulW (pe_ix (k_ix K (by exact hu1 hr)) (pv 10) (pe_c c__law_at hr (by decide) (by rfl) (pa_cons (pv 3) (pa_cons (pv 8) pa_nil))) (fun _ _ => rfl)) (pe_callB call_abs (by rfl) T.z_abs rfl (pa_cons (pv 9) pa_nil))))) pa_nil)))
  (pss_one (ps_if (pt_not (pt_val (pe_c c__law_same hr (by decide) (by rfl) (pa_cons (pe_c c_cost hr (by decide) (by rfl) (pa_cons (pv 3) (pa_cons (pv 10) (pa_cons (pv 12) pa_nil)))) (pa_cons (pv 13) pa_nil)))))
  (pss_one (ps_ret pe_bl))
  pss_nil))))
  pss_nil)))
  (pss_cons (ps_set (i := 14) nd rfl (by first | exact Or.inl rfl | exact Or.inr rfl) (pe_c c__law_done hr (by decide) (by rfl) (pa_cons (pv 3) (pa_cons (pv 4) (pa_cons (pv 5) pa_nil)))))
  (pss_cons (ps_setLc (i := 15) rfl nd rfl rfl (by rfl) (kp_seq K (kp_rev K (pv 5))) (own := [(("kind" : Str), 8), (("times" : Str), 9)]) (blk_ok (by rfl)) (fun _ _ _ _ _ => (kg_tup K (n := 2) rfl (pgs_cons (pg_name (i := 8) nd rfl (by first | exact Or.inl rfl | exact Or.inr rfl)) (pgs_cons (pg_name (i := 9) nd rfl (by first | exact Or.inl rfl | exact Or.inr rfl)) pgs_nil)))) (fun _ _ _ _ _ => pts_nil) (fun _ _ _ _ _ => (pe_tup (pa_cons (pv 8) (pa_cons (pe_op op_sub pe_int (pv 9)) pa_nil)))))
  (pss_one (ps_if ((pw_and (pt_cmpR op_notN (pv 14) pe_non (nomark _)) (pw_and (pt_cmpR op_leS (pe_callB (kc_max K rfl (by exact hu65 hr)) (by rfl) T.z_max rfl (pa_cons (pv 14) pa_nil)) (pe_op op_pow pe_int pe_int) (nomark _)) (pw_and1 (pt_cmpR (k_ne K (by exact hr.units)) (pe_c c_behind hr (by decide) (by rfl) (pa_cons (pv 3) (pa_cons (pv 14) (pa_cons (pv 15) pa_nil)))) (pv 4) (nomark _)))))).pt
  (pss_one (ps_ret pe_bl))
  pss_nil)))))))))))))
  (pss_one (ps_ret (pe_cmpR (k_eq K (by exact hr.units)) (pe_c c_behind hr (by decide) (by rfl) (pa_cons (pe_tup (pa_cons (pe_tup (pa_cons pe_str (pa_cons pe_int (pa_cons pe_str pa_nil)))) (pa_cons (pe_tup (pa_cons pe_str (pa_cons pe_int (pa_cons pe_str pa_nil)))) pa_nil))) (pa_cons (pe_tup (pa_cons pe_int (pa_cons pe_int pa_nil))) (pa_cons (pe_lst (pa_cons (pe_tup (pa_cons pe_str (pa_cons pe_int pa_nil))) (pa_cons (pe_tup (pa_cons pe_str (pa_cons (pe_un un_neg pe_int) pa_nil))) pa_nil))) pa_nil)))) (pe_tup (pa_cons pe_int (pa_cons pe_int pa_nil))) (nomark _))))), ?_⟩
    exact (st_seq (st_for (vs := [0, 1, 2, 3, 4, 5, 6, 7, 8, 9, 10, 11, 12, 13, 14, 15]) (ei_seq (ev_sl (ev_op g_add (ev_lst (ea_cons ev_int ea_nil)) (ev_var (i := 0))) ep_none (ep_some ev_int))) (tg_name (i := 1) (by decide))
  (st_seq (st_setN (en_own (er_call (ea_cons (ev_var (i := 1)) (ea_cons ev_int ea_nil)))))
  (st_seq (st_set (ev_imm (er_call (ea_cons (ev_var (i := 2)) (ea_cons ev_int ea_nil)))))
  (st_seq (st_set (ev_imm (er_call (ea_cons (ev_var (i := 2)) (ea_cons (ev_var (i := 3)) (ea_cons (ev_imm (er_call (ea_cons (ev_var (i := 2)) (ea_cons (ev_lst (ea_cons ev_int (ea_cons ev_int (ea_cons (ev_op g_pow ev_int ev_int) ea_nil)))) ea_nil)))) ea_nil))))))
  (st_seq (st_set (ev_imm (er_call (ea_cons (ev_var (i := 2)) (ea_cons (ev_var (i := 3)) (ea_cons (ev_var (i := 4)) (ea_cons ev_int (ea_cons (ev_imm (er_call (ea_cons (ev_var (i := 2)) (ea_cons (ev_lst (ea_cons ev_int (ea_cons ev_int (ea_cons (ev_op g_pow ev_int ev_int) ea_nil)))) ea_nil)))) ea_nil))))))))
  (st_seq (st_setN (en_callB g_list (ea_cons (ev_var (i := 5)) ea_nil)))
  (st_seq (st_for (vs := [0, 1, 2, 3, 4, 5, 6, 7, 8, 9, 10, 11, 12, 13, 14, 15]) (ei_range1 (ea_cons (ev_callB g_min2 (ea_cons ev_int (ea_cons (ev_callB g_len (ea_cons (ev_var (i := 5)) ea_nil)) ea_nil))) ea_nil)) (tg_name (i := 7) (by decide))
  (st_seq (st_tg (ev_imm (er_call (ea_cons (ev_var (i := 2)) (ea_cons (ev_var (i := 5)) ea_nil)))) (tg_tup (tgs_cons (tg_name (i := 8) (by decide)) (tgs_cons (tg_name (i := 9) (by decide)) tgs_nil))) (vs := [0, 1, 2, 3, 4, 5, 6, 7, 8, 9, 10, 11, 12, 13, 14, 15]))
  (st_drop (ev_methB g_insert (ea_cons (ev_imm (er_call (ea_cons (ev_var (i := 2)) (ea_cons (ev_callB g_len (ea_cons (ev_var (i := 5)) ea_nil)) ea_nil)))) (ea_cons (ev_tup (ea_cons (ev_var (i := 8)) (ea_cons (ev_op g_mul (ev_var (i := 9)) (ev_imm (er_call (ea_cons (ev_var (i := 2)) (ea_cons (ev_lst (ea_cons ev_int (ea_cons ev_int (ea_cons ev_int ea_nil)))) ea_nil))))) ea_nil))) ea_nil))))))
  (st_seq (st_set (ev_callB g_tuple (ea_cons (ev_frz (en_lc (ei_seq (ev_var (i := 3))) (tg_name (i := 11) (by decide)) et_yes (ev_imm (er_call (ea_cons (ev_var (i := 2)) (ea_cons ev_int ea_nil)))))) ea_nil)))
  (st_seq (st_for (vs := [0, 1, 2, 3, 4, 5, 6, 7, 8, 9, 10, 11, 12, 13, 14, 15]) (ei_seq (ev_lst (ea_cons (ev_var (i := 5)) (ea_cons (ev_frzV (i := 6)) (ea_cons (ev_sl (ev_var (i := 5)) ep_none (ep_some ev_int)) (ea_cons (ev_lst ea_nil) ea_nil)))))) (tg_name (i := 12) (by decide))
  (st_if (et_t (ev_op g_eq (ev_frz (en_lc (ei_seq (ev_var (i := 12))) (tg_tup (tgs_cons (tg_name (i := 8) (by decide)) (tgs_cons (tg_name (i := 9) (by decide)) tgs_nil))) (et_t (ev_op g_gt (ev_callB g_abs (ea_cons (ev_var (i := 9)) ea_nil)) (ev_op g_pow ev_int ev_int))) ev_int)) (ev_lst ea_nil)))
  (st_seq (st_if (et_not (et_b (ev_imm (er_call (ea_cons (ev_imm (er_call (ea_cons (ev_var (i := 3)) (ea_cons (ev_var (i := 4)) (ea_cons (ev_var (i := 12)) ea_nil))))) (ea_cons (ev_imm (er_call (ea_cons (ev_var (i := 3)) (ea_cons (ev_var (i := 4)) (ea_cons (ev_var (i := 12)) ea_nil))))) ea_nil))))))
  (st_ret ev_bl)
  st_next)
  (st_seq (st_set (ev_callB g_sum (ea_cons (ev_frz (en_lc (ei_seq (ev_var (i := 12))) (tg_tup (tgs_cons (tg_name (i := 8) (by decide)) (tgs_cons (tg_name (i := 9) (by decide)) tgs_nil))) et_yes (ev_op g_mul (ev_op g_ix (ev_var (i := 10)) (ev_imm (er_call (ea_cons (ev_var (i := 3)) (ea_cons (ev_var (i := 8)) ea_nil))))) (ev_callB g_abs (ea_cons (ev_var (i := 9)) ea_nil))))) ea_nil)))
  (st_if (et_not (et_b (ev_imm (er_call (ea_cons (ev_imm (er_call (ea_cons (ev_var (i := 3)) (ea_cons (ev_var (i := 10)) (ea_cons (ev_var (i := 12)) ea_nil))))) (ea_cons (ev_var (i := 13)) ea_nil))))))
  (st_ret ev_bl)
  st_next)))
  st_next))
  (st_seq (st_set (ev_imm (er_call (ea_cons (ev_var (i := 3)) (ea_cons (ev_var (i := 4)) (ea_cons (ev_var (i := 5)) ea_nil))))))
  (st_seq (st_set (ev_frz (en_lc (ei_seq (ev_rev (ev_var (i := 5)))) (tg_tup (tgs_cons (tg_name (i := 8) (by decide)) (tgs_cons (tg_name (i := 9) (by decide)) tgs_nil))) et_yes (ev_tup (ea_cons (ev_var (i := 8)) (ea_cons (ev_op g_sub ev_int (ev_var (i := 9))) ea_nil))))))
  (st_if (et_and (et_t (ev_op g_notN (ev_var (i := 14)) ev_non)) (et_and (et_t (ev_op g_le (ev_callB g_max (ea_cons (ev_var (i := 14)) ea_nil)) (ev_op g_pow ev_int ev_int))) (et_t (ev_op g_ne (ev_imm (er_call (ea_cons (ev_var (i := 3)) (ea_cons (ev_var (i := 14)) (ea_cons (ev_var (i := 15)) ea_nil))))) (ev_var (i := 4))))))
  (st_ret ev_bl)
  st_next))))))))))))
  (st_ret (ev_op g_eq (ev_imm (er_call (ea_cons (ev_tup (ea_cons (ev_tup (ea_cons ev_str (ea_cons ev_int (ea_cons ev_str ea_nil)))) (ea_cons (ev_tup (ea_cons ev_str (ea_cons ev_int (ea_cons ev_str ea_nil)))) ea_nil))) (ea_cons (ev_tup (ea_cons ev_int (ea_cons ev_int ea_nil))) (ea_cons (ev_lst (ea_cons (ev_tup (ea_cons ev_str (ea_cons ev_int ea_nil))) (ea_cons (ev_tup (ea_cons ev_str (ea_cons (ev_un g_neg ev_int) ea_nil))) ea_nil))) ea_nil))))) (ev_tup (ea_cons ev_int (ea_cons ev_int ea_nil))))))
end
end DV

set_option Elab.async false
set_option linter.all false
set_option maxRecDepth 100000
set_option maxHeartbeats 4000000
set_option autoImplicit false
/-! MxA: loops of the mirrors, in plain words. -/
namespace DV
open PySem L2
theorem forL_nil (tg : D → Env → Option Env) (body : Md Fw) (ρ : Env) : forL tg body [] ρ = .ok .nx ρ := rfl
/-- a loop that may return -/
theorem forL_ret {tg : D → Env → Option Env} {body : Md Fw} (I : Nat → Env → Prop) (Post : A → Env → Prop) : ∀ (ds : List D) (k : Nat) (ρ : Env), I k ρ →
    (∀ i d ρ, ds[i]? = some d → I (k + i) ρ → ∃ ρ1 ρ2, tg d ρ = some ρ1 ∧ (((body ρ1 = .ok .nx ρ2 ∨ body ρ1 = .ok .ct ρ2) ∧ I (k + i + 1) ρ2) ∨ ∃ a, body ρ1 = .ok (.rt a) ρ2 ∧ Post a ρ2)) →
    (∃ ρ', forL tg body ds ρ = .ok .nx ρ' ∧ I (k + ds.length) ρ') ∨ ∃ a ρ', forL tg body ds ρ = .ok (.rt a) ρ' ∧ Post a ρ'
  | [], k, ρ, h, _ => .inl ⟨ρ, rfl, h⟩
  | d :: ds, k, ρ, h, hs => by
    obtain ⟨ρ1, ρ2, e, q⟩ := hs 0 d ρ rfl h
    have next : ∀ ρ2, I (k + 0 + 1) ρ2 → (∃ ρ', forL tg body ds ρ2 = .ok .nx ρ' ∧ I (k + (d :: ds).length) ρ') ∨ ∃ a ρ', forL tg body ds ρ2 = .ok (.rt a) ρ' ∧ Post a ρ' := fun ρ2 h2 => by
      have := forL_ret I Post ds (k + 1) ρ2 (by simpa using h2) fun i d' ρ hd hi => by
        have := hs (i + 1) d' ρ (by simpa using hd) (by rw [show k + (i + 1) = k + 1 + i by omega]; exact hi)
        rw [show k + (i + 1) = k + 1 + i by omega] at this
        exact this
      rw [show k + (d :: ds).length = k + 1 + ds.length by simp; omega]
      exact this
    unfold forL
    rw [e]
    rcases q with ⟨q | q, h2⟩ | ⟨a, q, hp⟩
    · simp only [q]; exact next ρ2 h2
    · simp only [q]; exact next ρ2 h2
    · simp only [q]; exact .inr ⟨a, ρ2, rfl, hp⟩
theorem forL_run {tg : D → Env → Option Env} {body : Md Fw} (I : Nat → Env → Prop) (ds : List D) (ρ : Env) (h0 : I 0 ρ)
    (hs : ∀ i d ρ, ds[i]? = some d → I i ρ → ∃ ρ1 ρ2, tg d ρ = some ρ1 ∧ (body ρ1 = .ok .nx ρ2 ∨ body ρ1 = .ok .ct ρ2) ∧ I (i + 1) ρ2) :
    ∃ ρ', forL tg body ds ρ = .ok .nx ρ' ∧ I ds.length ρ' := by
  rcases forL_ret I (fun _ _ => False) ds 0 ρ h0 (fun i d ρ hd hi => by
    obtain ⟨ρ1, ρ2, a, b, c⟩ := hs i d ρ hd (by simpa using hi)
    exact ⟨ρ1, ρ2, a, .inl ⟨b, by simpa using c⟩⟩) with ⟨ρ', e, h⟩ | ⟨_, _, _, h⟩
  · exact ⟨ρ', e, by simpa using h⟩
  · exact h.elim
/-- a loop whose turns are alike: the state after i items is F i -/
theorem forL_eq {tg : D → Env → Option Env} {body : Md Fw} (F : Nat → Env) (ds : List D) (h : ∀ i d, ds[i]? = some d → ∃ ρ1, tg d (F i) = some ρ1 ∧ (body ρ1 = .ok .nx (F (i + 1)) ∨ body ρ1 = .ok .ct (F (i + 1)))) :
    forL tg body ds (F 0) = .ok .nx (F ds.length) := by
  obtain ⟨ρ', e, h2⟩ := forL_run (fun i ρ => ρ = F i) ds (F 0) rfl (fun i d ρ hd hi => by
    subst hi
    obtain ⟨ρ1, a, b⟩ := h i d hd
    exact ⟨ρ1, _, a, b, rfl⟩)
  rw [e, h2]
/-- a comprehension that may change cells -/
theorem lcL_run {vs : List Nat} {tg : D → Env → Option Env} {test : Md Bool} {elt : Md Opd} (I : Nat → List D → Env → Prop) : ∀ (ds : List D) (k : Nat) (acc : List D) (ρ : Env), I k acc ρ →
    (∀ i d acc ρ, ds[i]? = some d → I (k + i) acc ρ → ∃ ρ1 ρ2, tg d ρ = some ρ1 ∧
      ((test ρ1 = .ok false ρ2 ∧ vs.all (noOwn ρ2) = true ∧ I (k + i + 1) acc (wipeE ρ2 vs)) ∨
       (test ρ1 = .ok true ρ2 ∧ ∃ o ρ3 e, elt ρ2 = .ok o ρ3 ∧ im ρ3 o = some e ∧ acc.length < lim ∧ vs.all (noOwn ρ3) = true ∧ I (k + i + 1) (acc ++ [e]) (wipeE ρ3 vs)))) →
    ∃ acc' ρ', lcL vs tg test elt ds acc ρ = .ok acc' ρ' ∧ I (k + ds.length) acc' ρ'
  | [], k, acc, ρ, h, _ => ⟨acc, ρ, rfl, h⟩
  | d :: ds, k, acc, ρ, h, hs => by
    obtain ⟨ρ1, ρ2, e, q⟩ := hs 0 d acc ρ rfl h
    have next : ∀ acc ρ2, I (k + 0 + 1) acc ρ2 → ∃ acc' ρ', lcL vs tg test elt ds acc ρ2 = .ok acc' ρ' ∧ I (k + (d :: ds).length) acc' ρ' := fun acc ρ2 h2 => by
      have := lcL_run I ds (k + 1) acc ρ2 (by simpa using h2) fun i d' acc ρ hd hi => by
        have := hs (i + 1) d' acc ρ (by simpa using hd) (by rw [show k + (i + 1) = k + 1 + i by omega]; exact hi)
        rw [show k + (i + 1) = k + 1 + i by omega] at this
        exact this
      rw [show k + (d :: ds).length = k + 1 + ds.length by simp; omega]
      exact this
    unfold lcL
    rw [e]
    rcases q with ⟨q, nw, h2⟩ | ⟨q, o, ρ3, e', q2, q3, l, nw, h2⟩
    · simp only [q, nw, if_true]; exact next _ _ h2
    · simp only [q, q2, q3, l, nw, and_self, if_true]; exact next _ _ h2
/-- a comprehension that changes nothing -/
theorem lcL_pure {vs : List Nat} {tg : D → Env → Option Env} {test : Md Bool} {elt : Md Opd} (p : D → Bool) (f : D → D) (ρ : Env) (ds : List D) (hl : ds.length ≤ lim)
    (h : ∀ d ∈ ds, ∃ ρ1 ρ2, tg d ρ = some ρ1 ∧ test ρ1 = .ok (p d) ρ2 ∧ (p d = false → vs.all (noOwn ρ2) = true ∧ wipeE ρ2 vs = ρ) ∧ (p d = true → ∃ o ρ3, elt ρ2 = .ok o ρ3 ∧ im ρ3 o = some (f d) ∧ vs.all (noOwn ρ3) = true ∧ wipeE ρ3 vs = ρ)) :
    lcL vs tg test elt ds [] ρ = .ok ((ds.filter p).map f) ρ := by
  obtain ⟨acc', ρ', e, h1, h2⟩ := lcL_run (vs := vs) (tg := tg) (test := test) (elt := elt) (fun i acc ρ' => ρ' = ρ ∧ acc = ((ds.take i).filter p).map f) ds 0 [] ρ ⟨rfl, by simp⟩ (fun i d acc ρ' hd ⟨hi, ha⟩ => by
    subst hi
    rw [Nat.zero_add] at ha
    have hm : d ∈ ds := List.mem_of_getElem? hd
    obtain ⟨ρ1, ρ2, a, b, c1, c2⟩ := h d hm
    have tk : ds.take (i + 1) = ds.take i ++ [d] := by
      obtain ⟨hlt, e⟩ := List.getElem?_eq_some_iff.mp hd
      rw [List.take_succ_eq_append_getElem hlt, e]
    refine ⟨ρ1, ρ2, a, ?_⟩
    rw [Nat.zero_add, tk, List.filter_append, List.map_append, ← ha]
    cases hp : p d with
    | false =>
      obtain ⟨n, w⟩ := c1 hp
      exact .inl ⟨by rw [b, hp], n, w, by simp [hp]⟩
    | true =>
      obtain ⟨o, ρ3, x, y, n, w⟩ := c2 hp
      refine .inr ⟨by rw [b, hp], o, ρ3, f d, x, y, ?_, n, w, by simp [hp]⟩
      rw [ha, List.length_map]
      have h1 : ((ds.take i).filter p).length ≤ (ds.take i).length := List.length_filter_le _ _
      have h2 : (ds.take i).length ≤ i := List.length_take_le _ _
      have h3 : i < ds.length := (List.getElem?_eq_some_iff.mp hd).1
      omega)
  rw [e, h1, h2, Nat.zero_add, List.take_length]
/-- .. with no test -/
theorem lcL_map {vs : List Nat} {tg : D → Env → Option Env} {elt : Md Opd} (f : D → D) (ρ : Env) (ds : List D) (hl : ds.length ≤ lim)
    (h : ∀ d ∈ ds, ∃ ρ1, tg d ρ = some ρ1 ∧ ∃ o ρ3, elt ρ1 = .ok o ρ3 ∧ im ρ3 o = some (f d) ∧ vs.all (noOwn ρ3) = true ∧ wipeE ρ3 vs = ρ) :
    lcL vs tg (Md.ret true) elt ds [] ρ = .ok (ds.map f) ρ := by
  have := lcL_pure (vs := vs) (tg := tg) (test := Md.ret true) (elt := elt) (fun _ => true) f ρ ds hl (fun d m => by
    obtain ⟨ρ1, a, q⟩ := h d m
    exact ⟨ρ1, ρ1, a, rfl, fun (z : true = false) => (Bool.noConfusion z), fun _ => q⟩)
  rw [this]
  have e : ds.filter (fun _ => true) = ds := List.filter_eq_self.mpr fun _ _ => rfl
  rw [e]
theorem whileL_step {t : Md Bool} {body : Md Fw} {n : Nat} {ρ ρ1 ρ2 : Env} (h : t ρ = .ok true ρ1) (hb : body ρ1 = .ok .nx ρ2) : whileL t body (n + 1) ρ = whileL t body n ρ2 := by
  show (match t ρ with
    | .ok false ρ1 => (.ok .nx ρ1 : Rs Fw)
    | .ok true ρ1 => match body ρ1 with
      | .ok .nx ρ2 => whileL t body n ρ2
      | .ok .ct ρ2 => whileL t body n ρ2
      | .ok .br ρ2 => .ok .nx ρ2
      | .ok (.rt a) ρ2 => .ok (.rt a) ρ2
      | .raise e ρ2 => .raise e ρ2
      | .stuck => .stuck
    | .raise e ρ2 => .raise e ρ2
    | .stuck => .stuck) = _
  rw [h]
  show (match body ρ1 with
      | .ok .nx ρ2 => whileL t body n ρ2
      | .ok .ct ρ2 => whileL t body n ρ2
      | .ok .br ρ2 => .ok .nx ρ2
      | .ok (.rt a) ρ2 => .ok (.rt a) ρ2
      | .raise e ρ2 => .raise e ρ2
      | .stuck => .stuck) = _
  rw [hb]
theorem whileL_end {t : Md Bool} {body : Md Fw} {n : Nat} {ρ ρ1 : Env} (h : t ρ = .ok false ρ1) : whileL t body (n + 1) ρ = .ok .nx ρ1 := by
  simp [whileL, h]
/-- a loop with a measure -/
theorem whileL_run {t : Md Bool} {body : Md Fw} (I : Nat → Env → Prop) : ∀ (m n : Nat) (ρ : Env), I m ρ → m < n → (∀ m ρ, I m ρ → (∃ ρ1, t ρ = .ok false ρ1 ∧ I 0 ρ1) ∨ ∃ ρ1 ρ2 m', t ρ = .ok true ρ1 ∧ body ρ1 = .ok .nx ρ2 ∧ I m' ρ2 ∧ m' < m) →
    ∃ ρ1 ρ0 m', whileL t body n ρ = .ok .nx ρ1 ∧ I m' ρ0 ∧ t ρ0 = .ok false ρ1 ∧ I 0 ρ1 := by
  intro m
  induction m using Nat.strongRecOn with
  | ind m ih =>
    intro n ρ h hn hs
    cases n with
    | zero => omega
    | succ n =>
      rcases hs m ρ h with ⟨ρ1, e, h0⟩ | ⟨ρ1, ρ2, m', e, e2, h2, hlt⟩
      · exact ⟨ρ1, ρ, m, whileL_end e, h, e, h0⟩
      · rw [whileL_step e e2]
        exact ih m' hlt n ρ2 h2 (by omega) hs
/-! ### equal data -/
theorem eqv_int (i j : Int) : PyData.eqv (.int i) (.int j) = decide (i = j) := by
  show (i == j) = _
  by_cases h : i = j
  · simp [h]
  · simp [h]
theorem beq_strD (x y : Str) : (x == y) = decide (x = y) := by
  by_cases h : x = y
  · subst h; simp
  · rw [decide_eq_false h]
    exact beq_eq_false_iff_ne.mpr h
theorem eqv_str (x y : Str) : PyData.eqv (.str x) (.str y) = decide (x = y) := beq_strD x y
theorem eqv_list (x y : List D) : PyData.eqv (.list x) (.list y) = PyData.eqvAll x y := by rw [PyData.eqv]
theorem eqv_tup (x y : List D) : PyData.eqv (.tuple x) (.tuple y) = PyData.eqvAll x y := by rw [PyData.eqv]
theorem eqvAll_ints : ∀ xs ys : List Int, PyData.eqvAll (xs.map .int) (ys.map .int) = decide (xs = ys)
  | [], [] => rfl
  | [], _ :: _ => rfl
  | _ :: _, [] => rfl
  | x :: xs, y :: ys => by
    show (PyData.eqv (.int x) (.int y) && PyData.eqvAll (xs.map .int) (ys.map .int)) = _
    rw [eqv_int, eqvAll_ints xs ys]
    by_cases h : x = y <;> by_cases h2 : xs = ys <;> simp [h, h2]
theorem shaped_int (i : Int) : SeqAt.shaped (.int i) = true := rfl
theorem shaped_bool (i : Bool) : SeqAt.shaped (.bool i) = true := rfl
theorem shaped_none : SeqAt.shaped .none = true := rfl
theorem shaped_nil : SeqAt.shaped (.list []) = true := rfl
theorem lay_ints : ∀ xs : List Int, PyData.canLayAll0 (xs.map .int) = true
  | [] => rfl
  | x :: xs => by
    show (PyData.canLay0 (.int x) && PyData.canLayAll0 (xs.map .int)) = true
    rw [lay_ints xs]; rfl
theorem dep_ints : ∀ xs : List Int, PyData.depthAll (xs.map .int) = 0
  | [] => rfl
  | x :: xs => by
    show max (PyData.depth (.int x)) (PyData.depthAll (xs.map .int)) = 0
    rw [dep_ints xs]; rfl
theorem shaped_tupI (xs : List Int) : SeqAt.shaped (.tuple (xs.map .int)) = true := by
  show (PyData.canLayAll0 (xs.map .int) && decide (PyData.depthAll (xs.map .int) + 1 ≤ 64)) = true
  rw [lay_ints, dep_ints]; rfl
theorem shaped_lstI (xs : List Int) : SeqAt.shaped (.list (xs.map .int)) = true := by
  show (PyData.canLayAll0 (xs.map .int) && decide (PyData.depthAll (xs.map .int) + 1 ≤ 64)) = true
  rw [lay_ints, dep_ints]; rfl
theorem shaped_str {x : Str} (h : PyData.strOk x = true) : SeqAt.shaped (.str x) = true := by
  show (PyData.canLay0 (.str x) && decide (PyData.depth (.str x) ≤ 64)) = true
  rw [show PyData.canLay0 (.str x) = PyData.strOk x from rfl, h]; rfl
theorem intsD_map (xs : List Int) : intsD (xs.map .int) = some xs := by
  induction xs with
  | nil => rfl
  | cons x xs ih => simp [intsD, ih]
theorem boolsD_map (xs : List Bool) : boolsD (xs.map .bool) = some xs := by
  induction xs with
  | nil => rfl
  | cons x xs ih => simp [boolsD, ih]
/-! ### statement by statement -/
theorem runFn_rt {n : Nat} {body : Md Fw} {as : List A} {a : A} {ρ : Env} (h : body (startE n as) = .ok (.rt a) ρ) : runFn n body as = .ok a (keepO as.length ρ) := by
  unfold runFn; rw [h]
theorem runFn_nx {n : Nat} {body : Md Fw} {as : List A} {ρ : Env} (h : body (startE n as) = .ok .nx ρ) : runFn n body as = .ok (.imm .none) (keepO as.length ρ) := by
  unfold runFn; rw [h]
theorem sSeq_nx {f g : Md Fw} {ρ ρ1 : Env} (h : f ρ = .ok .nx ρ1) : sSeq f g ρ = g ρ1 := by
  unfold sSeq Md.bind; rw [h]
theorem sSeq_rt {f g : Md Fw} {ρ ρ1 : Env} {a : A} (h : f ρ = .ok (.rt a) ρ1) : sSeq f g ρ = .ok (.rt a) ρ1 := by
  unfold sSeq Md.bind; rw [h]; rfl
theorem sIf_t {t : Md Bool} {f g : Md Fw} {ρ ρ1 : Env} (h : t ρ = .ok true ρ1) : sIf t f g ρ = f ρ1 := by
  unfold sIf Md.bind; rw [h]; rfl
theorem sIf_f {t : Md Bool} {f g : Md Fw} {ρ ρ1 : Env} (h : t ρ = .ok false ρ1) : sIf t f g ρ = g ρ1 := by
  unfold sIf Md.bind; rw [h]; rfl
theorem sFor_eq {it : Md (List D)} {tg : D → Env → Option Env} {body : Md Fw} {ρ ρ1 : Env} {ds : List D} (h : it ρ = .ok ds ρ1) : sFor it tg body ρ = forL tg body ds ρ1 := by
  unfold sFor Md.bind; rw [h]
theorem mLc_eq {vs : List Nat} {it : Md (List D)} {tg : D → Env → Option Env} {test : Md Bool} {elt : Md Opd} {ρ ρ1 ρ2 : Env} {ds acc : List D} (h : it ρ = .ok ds ρ1) (hn : vs.all (noOwn ρ1) = true) (hl : lcL vs tg test elt ds [] (wipeE ρ1 vs) = .ok acc ρ2) :
    mLc vs it tg test elt ρ = .ok (.lst acc) (backE ρ1 vs ρ2) := by
  unfold mLc Md.bind; rw [h]; simp only [hn, if_true, hl]
theorem mDc_eq {vs : List Nat} {it : Md (List D)} {tg : D → Env → Option Env} {test : Md Bool} {fk fv : Md Opd} {ρ ρ1 ρ2 : Env} {ds : List D} {acc : List (Key × D)} (h : it ρ = .ok ds ρ1) (hn : vs.all (noOwn ρ1) = true) (hl : dcL vs tg test fk fv ds [] (wipeE ρ1 vs) = .ok acc ρ2) :
    mDc vs it tg test fk fv ρ = .ok (.dK acc) (backE ρ1 vs ρ2) := by
  unfold mDc Md.bind; rw [h]; simp only [hn, if_true, hl]
theorem gEq_int (i j : Int) : gEq (.int i) (.int j) = some (.bool (decide (i = j))) := by
  unfold gEq; rw [shaped_int, shaped_int, eqv_int]; rfl
theorem gNe_int (i j : Int) : gNe (.int i) (.int j) = some (.bool (!decide (i = j))) := by
  unfold gNe; rw [shaped_int, shaped_int, eqv_int]; rfl
theorem gEq_str {x y : Str} (h : PyData.strOk x = true) (h2 : PyData.strOk y = true) : gEq (.str x) (.str y) = some (.bool (decide (x = y))) := by
  unfold gEq; rw [shaped_str h, shaped_str h2, eqv_str]; rfl
theorem gNe_str {x y : Str} (h : PyData.strOk x = true) (h2 : PyData.strOk y = true) : gNe (.str x) (.str y) = some (.bool (!decide (x = y))) := by
  unfold gNe; rw [shaped_str h, shaped_str h2, eqv_str]; rfl
theorem gEq_tupI (x y : List Int) : gEq (.tuple (x.map .int)) (.tuple (y.map .int)) = some (.bool (decide (x = y))) := by
  unfold gEq; rw [shaped_tupI, shaped_tupI, eqv_tup, eqvAll_ints]; rfl
theorem gNe_tupI (x y : List Int) : gNe (.tuple (x.map .int)) (.tuple (y.map .int)) = some (.bool (!decide (x = y))) := by
  unfold gNe; rw [shaped_tupI, shaped_tupI, eqv_tup, eqvAll_ints]; rfl
theorem gEq_nil {x : List D} (h : SeqAt.shaped (.list x) = true) : gEq (.list x) (.list []) = some (.bool (decide (x = []))) := by
  unfold gEq; rw [h, shaped_nil, eqv_list]
  cases x <;> rfl
theorem gAll_map {α : Type} (f : α → Bool) (xs : List α) : gAll [.list (xs.map fun x => .bool (f x))] = some (.bool (xs.all f)) := by
  show (boolsD (xs.map fun x => .bool (f x))).map (fun ns => PyData.bool (ns.all id)) = _
  have : (xs.map fun x => PyData.bool (f x)) = (xs.map f).map .bool := by rw [List.map_map]; rfl
  rw [this, boolsD_map, Option.map_some, List.all_map]
  rfl
theorem gLe_int (i j : Int) : gLe (.int i) (.int j) = some (.bool (decide (i ≤ j))) := rfl
theorem gLt_int (i j : Int) : gLt (.int i) (.int j) = some (.bool (decide (i < j))) := rfl
theorem gGt_int (i j : Int) : gGt (.int i) (.int j) = some (.bool (decide (j < i))) := rfl
theorem gGe_int (i j : Int) : gGe (.int i) (.int j) = some (.bool (decide (j ≤ i))) := rfl
theorem gAdd_int (i j : Int) : gAdd (.int i) (.int j) = some (.int (i + j)) := rfl
theorem gAddI_int (i j : Int) : gAddI (.int i) (.int j) = some (.int (i + j)) := rfl
theorem gSub_int (i j : Int) : DV.gSub (.int i) (.int j) = some (.int (i - j)) := rfl
theorem gNeg_int (i : Int) : gNeg (.int i) = some (.int (-i)) := rfl
theorem gMul_int {i j : Int} (h : cMul i j = true) : gMul (.int i) (.int j) = some (.int (i * j)) := by
  show (if cMul i j = true then some (PyData.int (i * j)) else none) = _
  rw [if_pos h]
theorem gIx_tup (ds : List D) (i : Int) : gIx (.tuple ds) (.int i) = atI ds i := rfl
theorem gIx_lst (ds : List D) (i : Int) : gIx (.list ds) (.int i) = atI ds i := rfl
theorem gLen_tup (ds : List D) : gLen [.tuple ds] = some (.int ds.length) := rfl
theorem gLen_dict (ds : List (D × D)) : gLen [.dict ds] = some (.int ds.length) := rfl
theorem gLen_lst (ds : List D) : gLen [.list ds] = some (.int ds.length) := rfl
theorem gLen_str {z : Str} (h : z.length ≤ lim) : gLen [.str z] = some (.int z.length) := by
  show (if z.length ≤ lim then some (PyData.int z.length) else none) = _
  rw [if_pos h]
theorem gIsN_eq (a : D) : gIsN a .none = some (.bool (isNone a)) := by cases a <;> rfl
theorem gNotN_eq (a : D) : gNotN a .none = some (.bool (!isNone a)) := by cases a <;> rfl
theorem atI_at {ds : List D} {i : Nat} {d : D} (h : ds[i]? = some d) : atI ds (i : Nat) = some d := by
  have hl := (List.getElem?_eq_some_iff.mp h).1
  unfold atI
  rw [show ixN ds.length ((i : Nat) : Int) = some i from ?_]
  · exact h
  · unfold ixN
    simp [hl]
def lets (z : Str) : List Nat := z.cps.toList
theorem strOk_of {z : Str} (h : ∀ c ∈ lets z, c < 1114112) : PyData.strOk z = true := by
  unfold PyData.strOk
  rw [Array.all_eq_true_iff_forall_mem]
  intro c m
  exact decide_eq_true (h c (by unfold lets; exact Array.mem_toList_iff.mpr m))
theorem strOk_nil : PyData.strOk ("" : Str) = true := by decide +kernel
theorem ofLens {z : Str} : (lets z).length = z.length := rfl
theorem small62_int {i : Int} (h0 : 0 ≤ i) (h : i ≤ 1000000) : small62 i = true := by
  unfold small62
  have h2 : (1000000 : Int) < 2 ^ 62 := by decide
  have h3 : -(2 ^ 62) ≤ (0 : Int) := by decide
  rw [decide_eq_true (Int.le_trans h3 h0), decide_eq_true (Int.lt_of_le_of_lt h h2)]
  rfl
theorem small62_nat {n : Nat} (h : n ≤ 1000) : small62 ((n : Nat) : Int) = true := small62_int (Int.natCast_nonneg n) (by omega)
theorem range1_eq {fa : Md (List Opd)} {ρ ρ' : Env} {os : List Opd} {n : Int} (h : fa ρ = .ok os ρ') (h2 : rss ρ' os = some [.int n]) (hs : small62 n = true) : mRange1 fa ρ = .ok (rangeD 0 n) ρ' := by
  unfold mRange1 Md.bind
  rw [h]
  simp only [h2]
  rw [if_pos hs]
theorem range2_eq {fa : Md (List Opd)} {ρ ρ' : Env} {os : List Opd} {m n : Int} (h : fa ρ = .ok os ρ') (h2 : rss ρ' os = some [.int m, .int n]) (hs : small62 m = true) (hs2 : small62 n = true) : mRange2 fa ρ = .ok (rangeD m n) ρ' := by
  unfold mRange2 Md.bind
  rw [h]
  simp only [h2]
  rw [if_pos (by rw [hs, hs2]; rfl)]
theorem seq_nx {f g : Md Fw} {ρ : Env} (ρ1 : Env) {r : Rs Fw} (h : f ρ = .ok .nx ρ1) (h2 : g ρ1 = r) : sSeq f g ρ = r := (sSeq_nx h).trans h2
theorem run_rt {n : Nat} {body : Md Fw} {as : List A} (a : A) (ρ : Env) {r : Rs A} (h : body (startE n as) = .ok (.rt a) ρ) (hr : .ok a (keepO as.length ρ) = r) : runFn n body as = r := (runFn_rt h).trans hr
theorem run_nx {n : Nat} {body : Md Fw} {as : List A} (ρ : Env) {r : Rs A} (h : body (startE n as) = .ok .nx ρ) (hr : .ok (.imm .none) (keepO as.length ρ) = r) : runFn n body as = r := (runFn_nx h).trans hr
theorem keepO_len (np : Nat) (ρ : Env) : (keepO np ρ).length = ρ.length := by unfold keepO; rw [List.length_mapIdx]
/-- nothing was lent -/
theorem keepO_none {np : Nat} {ρ : Env} (h : ∀ (i : Nat) b o, i < np → ρ[i]? ≠ some (some (.own b o))) : keepO np ρ = List.replicate ρ.length none := by
  refine List.ext_getElem? fun i => ?_
  by_cases hi : i < ρ.length
  · rw [List.getElem?_replicate_of_lt hi]
    have hl : i < (keepO np ρ).length := by rw [keepO_len]; exact hi
    cases e : (keepO np ρ)[i]? with
    | none => rw [List.getElem?_eq_none_iff] at e; omega
    | some a =>
      cases a with
      | none => rfl
      | some a =>
        obtain ⟨h1, b, o, rfl⟩ := keepO_get e
        unfold keepO at e
        rw [List.getElem?_mapIdx, h1] at e
        have e : keepA np i (some (.own b o)) = some (.own b o) := Option.some.inj e
        unfold keepA at e
        split at e
        · rename_i hlt
          exact absurd h1 (h i b o hlt)
        · cases e
  · rw [List.getElem?_eq_none (by rw [keepO_len]; omega), List.getElem?_eq_none (by simp; omega)]
theorem keepO_1 {d : D} {r : Env} : keepO 1 (some (.imm d) :: r) = List.replicate (r.length + 1) none := by
  rw [keepO_none fun i b o h => by
    have : i = 0 := by omega
    subst this
    simp]
  rfl
theorem cons_eq {f : Md Opd} {g : Md (List Opd)} {ρ ρ1 ρ2 : Env} {o : Opd} {os : List Opd} (h : f ρ = .ok o ρ1) (h2 : g ρ1 = .ok os ρ2) : mCons f g ρ = .ok (o :: os) ρ2 := by
  simp only [mCons, Md.bind, h, h2, Md.ret]
theorem nil_eq {ρ : Env} : mNil ρ = .ok [] ρ := rfl
theorem drop_eq {f : Md Opd} {ρ ρ1 : Env} {o : Opd} (h : f ρ = .ok o ρ1) : sDrop f ρ = .ok .nx ρ1 := by
  unfold sDrop Md.bind
  rw [h]
  rfl
theorem opd_dat {d : D} {ρ : Env} : im ρ (.dat d) = some d := rfl
theorem perm_erase {α : Type} {l : List α} {i : Nat} {x : α} (h : l[i]? = some x) : (x :: l.eraseIdx i).Perm l := by
  obtain ⟨hl, e⟩ := List.getElem?_eq_some_iff.mp h
  have e1 : l = l.take i ++ x :: l.drop (i + 1) := by
    rw [← e, List.getElem_cons_drop, List.take_append_drop]
  rw [List.eraseIdx_eq_take_drop_succ]
  exact (List.perm_middle.symm).trans (by rw [← e1])
theorem map_erase {α β : Type} (f : α → β) (l : List α) (i : Nat) : (l.map f).eraseIdx i = (l.eraseIdx i).map f := by
  simp [List.eraseIdx_eq_take_drop_succ, List.map_take, List.map_drop]
theorem set_eq {i : Nat} {f : Md Opd} {ρ ρ' : Env} {o : Opd} {d : D} (h : f ρ = .ok o ρ') (hi : im ρ' o = some d) (hc : canSet ρ' i = true) : sSet i f ρ = .ok .nx (ρ'.set i (some (.imm d))) := by
  simp only [sSet, sTg, Md.bind, h, hi, tN, hc, Option.bind_some, if_true]
theorem setN_eq {i : Nat} {f : Md Own} {ρ ρ' : Env} {o : Own} (h : f ρ = .ok o ρ') (hc : canSet ρ' i = true) : sSetN i f ρ = .ok .nx (ρ'.set i (some (.own false o))) := by
  simp only [sSetN, Md.bind, h, hc, if_true]
theorem tg_eq {tg : D → Env → Option Env} {f : Md Opd} {ρ ρ' ρ2 : Env} {o : Opd} {d : D} (h : f ρ = .ok o ρ') (hi : im ρ' o = some d) (ht : tg d ρ' = some ρ2) : sTg tg f ρ = .ok .nx ρ2 := by
  simp only [sTg, Md.bind, h, hi, Option.bind_some, ht]
end DV

set_option Elab.async false
set_option linter.all false
set_option maxRecDepth 100000
set_option maxHeartbeats 4000000
set_option autoImplicit false
/-! MxB: the deck of draws. -/
namespace DV
open PySem L2
/-- a deck that was drawn from at most n times -/
def Dk (n : Int) (o : Own) : Prop := ∃ a b t : Int, o = .lst [.int a, .int b, .int t] ∧ 0 ≤ a ∧ 0 ≤ b ∧ b < 2147483579 ∧ 0 ≤ t ∧ t ≤ n
theorem Dk.mono {n m : Int} {o : Own} (h : Dk n o) (l : n ≤ m) : Dk m o := by
  obtain ⟨a, b, t, e, h1, h2, h3, h4, h5⟩ := h
  exact ⟨a, b, t, e, h1, h2, h3, h4, by omega⟩
theorem cPow_of {i j : Int} (h1 : 0 ≤ j) (h2 : j ≤ 1000) (h3 : 0 ≤ i) (h4 : i < 18446744073709551616) : cPow i j = true := by
  unfold cPow
  have : i.natAbs < 2 ^ 64 := by
    have : i.natAbs < 18446744073709551616 := by omega
    simpa using this
  simp only [h1, h2, this, decide_true, Bool.and_self]
theorem log2_small {s : Int} (h0 : 0 ≤ s) {k : Nat} (h : s < 2 ^ k) (hk : 0 < k) : s.natAbs.log2 < k := by
  by_cases z : s.natAbs = 0
  · rw [z, Nat.log2_zero]; exact hk
  · rw [Nat.log2_lt z]
    have : (s.natAbs : Int) = s := by omega
    have h2 : (s.natAbs : Int) < ((2 ^ k : Nat) : Int) := by rw [this]; push_cast; exact h
    exact_mod_cast h2
theorem cMul_small {i j : Int} (h1 : i.natAbs < 2 ^ 400000) (h2 : j.natAbs < 2 ^ 400000) : cMul i j = true := by
  unfold cMul
  have a : ∀ n : Nat, n < 2 ^ 400000 → n.log2 ≤ 400000 := fun n h => by
    by_cases z : n = 0
    · subst z; rw [Nat.log2_zero]; omega
    · exact Nat.le_of_lt ((Nat.log2_lt z).mpr h)
  exact decide_eq_true (by have := a _ h1; have := a _ h2; omega)
theorem e_deck (cell turn : Int) (ht : 0 ≤ turn) : ∃ o, Dk turn o ∧ m__law_deck [.imm (.int cell), .imm (.int turn)] = .ok (.own false o) [none, none] := by
  have m0 : 0 ≤ cell % 2147483579 := Int.emod_nonneg _ (by decide)
  have m1 : cell % 2147483579 < 2147483579 := Int.emod_lt_of_pos _ (by decide)
  have e18 : gPow (.int 10) (.int 18) = some (.int 1000000000000000000) := by
    show (if cPow 10 18 = true then some (PyData.int (10 ^ (18 : Int).toNat)) else none) = _
    rw [cPow_of (by decide) (by decide) (by decide) (by decide)]
    rfl
  by_cases h : (1000000000000000000 : Int) ≤ cell
  · refine ⟨.lst [.int (cell - 1000000000000000000), .int (cell % 2147483579), .int turn], ⟨_, _, _, rfl, by omega, m0, m1, ht, Int.le_refl _⟩, ?_⟩
    simp [m__law_deck, runFn, startE, keepO, keepA, sRet, sRetN, sRetA, sRetNone, sSeq, sIf, sNx, sDrop, sSet, sTg, tN, canSet, sSetN, Md.bind, Md.ret, Md.opt, mVar, mC, mT, m2, m1, mIf, mAndV, mOrV, mNotV, mAndT, mOrT, mNotT, mChain, mCons, mNil, mCall, mCallN, mImm, mOwn, mTup, mLst, mLstN, mItems, mFrz, rs, im, rss, ims, ownD, argOf, argsOf, slotOf, isSlot, cellsBack, backA, mCallA, List.filterMap_cons, List.filterMap_nil, List.findIdx?_cons, List.findIdx?_nil, gOrd, gGe, e18, h, gI, gIC, gMod, cMod, DV.gSub, lim]
  · refine ⟨.lst [.int 0, .int (cell % 2147483579), .int turn], ⟨_, _, _, rfl, Int.le_refl _, m0, m1, ht, Int.le_refl _⟩, ?_⟩
    simp [m__law_deck, runFn, startE, keepO, keepA, sRet, sRetN, sRetA, sRetNone, sSeq, sIf, sNx, sDrop, sSet, sTg, tN, canSet, sSetN, Md.bind, Md.ret, Md.opt, mVar, mC, mT, m2, m1, mIf, mAndV, mOrV, mNotV, mAndT, mOrT, mNotT, mChain, mCons, mNil, mCall, mCallN, mImm, mOwn, mTup, mLst, mLstN, mItems, mFrz, rs, im, rss, ims, ownD, argOf, argsOf, slotOf, isSlot, cellsBack, backA, mCallA, List.filterMap_cons, List.filterMap_nil, List.findIdx?_cons, List.findIdx?_nil, gOrd, gGe, e18, h, gI, gIC, gMod, cMod, DV.gSub, lim]
theorem e_pick {n : Int} {o : Own} {s : Int} (hd : Dk n o) (hn : n ≤ 100000000000) (hs : 0 < s) (hl : s < 2 ^ 200) : ∃ r o', 0 ≤ r ∧ r < s ∧ Dk (n + 1) o' ∧ m__law_pick [.own true o, .imm (.int s)] = .ok (.imm (.int r)) [some (.own true o'), none, none, none] := by
  obtain ⟨a, b, t, rfl, ha, hb, hb2, ht, htn⟩ := hd
  have hl2 : s.natAbs.log2 < 9000 := Nat.lt_trans (log2_small (by omega) hl (by decide)) (by decide)
  by_cases h : 1 < a
  · refine ⟨a % s, .lst [.int (a / s), .int b, .int t], Int.emod_nonneg _ (by omega), Int.emod_lt_of_pos _ hs, ⟨_, _, _, rfl, Int.ediv_nonneg ha (by omega), hb, hb2, ht, by omega⟩, ?_⟩
    simp [m__law_pick, runFn, startE, keepO, keepA, sRet, sRetN, sRetA, sRetNone, sSeq, sIf, sNx, sDrop, sSet, sTg, tN, canSet, sSetN, Md.bind, Md.ret, Md.opt, mVar, mC, mT, m2, m1, mIf, mAndV, mOrV, mNotV, mAndT, mOrT, mNotT, mChain, mCons, mNil, mCall, mCallN, mImm, mOwn, mTup, mLst, mLstN, mItems, mFrz, rs, im, rss, ims, ownD, argOf, argsOf, slotOf, isSlot, cellsBack, backA, mCallA, List.filterMap_cons, List.filterMap_nil, List.findIdx?_cons, List.findIdx?_nil, gIx, gGt, gOrd, atI, ixN, h, gMod, gDiv, gIC, cMod, cDiv, hs, hl2, sPut, putO]
  · have hu : 0 ≤ b + 15485867 * (t + 1) ∧ b + 15485867 * (t + 1) < 18446744073709551616 := by omega
    have p1 : cPow (b + 15485867 * (t + 1)) 5 = true := cPow_of (by decide) (by decide) hu.1 hu.2
    have q0 : 0 ≤ (b + 15485867 * (t + 1)) ^ 5 % 2147483647 := Int.emod_nonneg _ (by decide)
    have q1 : (b + 15485867 * (t + 1)) ^ 5 % 2147483647 < 2147483647 := Int.emod_lt_of_pos _ (by decide)
    generalize hg : (b + 15485867 * (t + 1)) ^ 5 % 2147483647 = g at q0 q1
    have p2 : cPow (g + 7919 * (t + 1)) 3 = true := cPow_of (by decide) (by decide) (by omega) (by omega)
    have c1 : cMul 15485867 (t + 1) = true := by
      unfold cMul
      have : (t + 1).natAbs.log2 < 64 := log2_small (by omega) (by omega) (by decide)
      have h2 : (15485867 : Int).natAbs.log2 = 23 := by decide
      exact decide_eq_true (by omega)
    have c2 : cMul 7919 (t + 1) = true := by
      unfold cMul
      have : (t + 1).natAbs.log2 < 64 := log2_small (by omega) (by omega) (by decide)
      have h2 : (7919 : Int).natAbs.log2 = 12 := by decide
      exact decide_eq_true (by omega)
    have d1 : Nat.log2 32 < 9000 := by decide
    refine ⟨(g + 7919 * (t + 1)) ^ 3 % 2147483629 / 32 % s, .lst [.int a, .int b, .int (t + 1)], Int.emod_nonneg _ (by omega), Int.emod_lt_of_pos _ hs, ⟨_, _, _, rfl, ha, hb, hb2, by omega, by omega⟩, ?_⟩
    simp [m__law_pick, runFn, startE, keepO, keepA, sRet, sRetN, sRetA, sRetNone, sSeq, sIf, sNx, sDrop, sSet, sTg, tN, canSet, sSetN, Md.bind, Md.ret, Md.opt, mVar, mC, mT, m2, m1, mIf, mAndV, mOrV, mNotV, mAndT, mOrT, mNotT, mChain, mCons, mNil, mCall, mCallN, mImm, mOwn, mTup, mLst, mLstN, mItems, mFrz, rs, im, rss, ims, ownD, argOf, argsOf, slotOf, isSlot, cellsBack, backA, mCallA, List.filterMap_cons, List.filterMap_nil, List.findIdx?_cons, List.findIdx?_nil, gIx, gGt, gOrd, atI, ixN, h, gMod, gDiv, gIC, cMod, cDiv, hs, hl2, sPut, putO, gAdd, gMul, gPow, p1, p2, c1, c2, hg, d1]
theorem atI_nat' {ds : List D} {r : Int} (h0 : 0 ≤ r) (h1 : r < ds.length) : atI ds r = ds[r.toNat]? := by
  unfold atI
  rw [show ixN ds.length r = some r.toNat from ?_]
  · rfl
  · unfold ixN
    simp [h0, h1]
theorem e_one {n : Int} {o : Own} {ds : List D} (hd : Dk n o) (hn : n ≤ 100000000000) (hs : ds ≠ []) (hl : ds.length ≤ 4000000) : ∃ (i : Nat) (d : D) (o' : Own), ds[i]? = some d ∧ Dk (n + 1) o' ∧
    m__law_one [.own true o, .imm (.list ds)] = .ok (.imm d) [some (.own true o'), none] := by
  have hp : 0 < ds.length := List.length_pos_iff.mpr hs
  have hlt : ((ds.length : Nat) : Int) < 2 ^ 200 := by omega
  obtain ⟨r, o', h0, h1, dk, e⟩ := e_pick hd hn (s := (ds.length : Nat)) (by omega) hlt
  have hr : r.toNat < ds.length := by omega
  refine ⟨r.toNat, ds[r.toNat], o', List.getElem?_eq_getElem hr, dk, ?_⟩
  have ea := atI_nat' h0 h1
  rw [List.getElem?_eq_getElem hr] at ea
  simp [m__law_one, runFn, startE, keepO, keepA, sRet, sRetN, sRetA, sRetNone, sSeq, sIf, sNx, sDrop, sSet, sTg, tN, canSet, sSetN, Md.bind, Md.ret, Md.opt, mVar, mC, mT, m2, m1, mIf, mAndV, mOrV, mNotV, mAndT, mOrT, mNotT, mChain, mCons, mNil, mCall, mCallN, mImm, mOwn, mTup, mLst, mLstN, mItems, mFrz, rs, im, rss, ims, ownD, argOf, argsOf, slotOf, isSlot, cellsBack, backA, mCallA, List.filterMap_cons, List.filterMap_nil, List.findIdx?_cons, List.findIdx?_nil, gLen, e, gIx, ea]
end DV

set_option Elab.async false
set_option linter.all false
set_option maxRecDepth 100000
set_option maxHeartbeats 4000000
set_option autoImplicit false
/-! MxC: names, rows, coins. -/
namespace DV
open PySem L2
mutual
/-- texts and rows of a bearable size, no dict -/
def goodD : D → Bool
  | .none => true
  | .bool _ => true
  | .int _ => true
  | .str z => PyData.strOk z && decide (z.length ≤ 1000)
  | .list ds => goodDs ds && decide (ds.length ≤ 1000)
  | .tuple ds => goodDs ds && decide (ds.length ≤ 1000)
  | .dict _ => false
def goodDs : List D → Bool
  | [] => true
  | d :: r => goodD d && goodDs r
end
theorem goodDs_iff {ds : List D} : goodDs ds = true ↔ ∀ d ∈ ds, goodD d = true := by
  induction ds with
  | nil => simp [goodDs]
  | cons d r ih => simp [goodDs, ih]
theorem good_str {z : Str} (h : goodD (.str z) = true) : PyData.strOk z = true ∧ z.length ≤ 1000 := by
  simpa [goodD] using h
theorem good_tup {ds : List D} (h : goodD (.tuple ds) = true) : (∀ d ∈ ds, goodD d = true) ∧ ds.length ≤ 1000 := by
  rw [goodD] at h
  simpa [goodDs_iff] using h
theorem good_lst {ds : List D} (h : goodD (.list ds) = true) : (∀ d ∈ ds, goodD d = true) ∧ ds.length ≤ 1000 := by
  rw [goodD] at h
  simpa [goodDs_iff] using h
def isFrom (d : D) (lo hi : Int) : Bool := match d with
  | .int i => decide (lo ≤ i) && decide (i ≤ hi)
  | _ => false
theorem e_is_from (d : D) (lo hi : Int) : m_is_from [.imm d, .imm (.int lo), .imm (.int hi)] = .ok (.imm (.bool (isFrom d lo hi))) [none, none, none] := by
  cases d with
  | int i =>
    by_cases h : lo ≤ i <;> simp [m_is_from, runFn, startE, keepO, keepA, sRet, sRetN, sRetA, sRetNone, sSeq, sIf, sNx, sDrop, sSet, sTg, tN, canSet, sSetN, Md.bind, Md.ret, Md.opt, mVar, mC, mT, m2, m1, mIf, mAndV, mOrV, mNotV, mAndT, mOrT, mNotT, mChain, mCons, mNil, mCall, mCallN, mImm, mOwn, mTup, mLst, mLstN, mItems, mFrz, rs, im, rss, ims, ownD, argOf, argsOf, slotOf, isSlot, cellsBack, backA, mCallA, List.filterMap_cons, List.filterMap_nil, List.findIdx?_cons, List.findIdx?_nil, mIsi, isA, gLe, gOrd, isFrom, h]
  | _ => simp [m_is_from, runFn, startE, keepO, keepA, sRet, sRetN, sRetA, sRetNone, sSeq, sIf, sNx, sDrop, sSet, sTg, tN, canSet, sSetN, Md.bind, Md.ret, Md.opt, mVar, mC, mT, m2, m1, mIf, mAndV, mOrV, mNotV, mAndT, mOrT, mNotT, mChain, mCons, mNil, mCall, mCallN, mImm, mOwn, mTup, mLst, mLstN, mItems, mFrz, rs, im, rss, ims, ownD, argOf, argsOf, slotOf, isSlot, cellsBack, backA, mCallA, List.filterMap_cons, List.filterMap_nil, List.findIdx?_cons, List.findIdx?_nil, mIsi, isA, isFrom]
def abc : List Nat := lets "abcdefghijklmnopqrstuvwxyz"
/-- what is_name asks -/
def nameB (z : Str) : Bool := decide (1 ≤ z.length) && decide (z.length ≤ 8) && (lets z).all fun c => decide (c ∈ abc)
def isNameB : D → Bool
  | .str z => nameB z
  | _ => false
theorem c_name {z : Str} (hz : z.length ≤ 1000) : c_is_name_1 [some (.imm (.str z)), none] = .ok (.lst ((lets z).map fun c => .bool (decide (c ∈ abc)))) [some (.imm (.str z)), none] := by
  have e := lcL_map (vs := [1]) (tg := tN 1) (elt := x_is_name_1) (fun d => match d with
    | .str x => match x.cps.toList with
      | [c] => .bool (decide (c ∈ abc))
      | _ => .none
    | _ => .none) [some (.imm (.str z)), none] (signs z) (by
      have : (signs z).length = z.length := by simp [signs, Str.length]
      rw [this]; exact Nat.le_trans hz (by decide)) (fun d m => by
      obtain ⟨c, mc, rfl⟩ := List.mem_map.mp m
      refine ⟨[some (.imm (.str z)), some (.imm (.str ⟨#[c]⟩))], by simp [tN, canSet], .dat (.bool (decide (c ∈ abc))), [some (.imm (.str z)), some (.imm (.str ⟨#[c]⟩))], ?_, rfl, rfl, rfl⟩
      simp [x_is_name_1, runFn, startE, keepO, keepA, sRet, sRetN, sRetA, sRetNone, sSeq, sIf, sNx, sDrop, sSet, sTg, tN, canSet, sSetN, Md.bind, Md.ret, Md.opt, mVar, mC, mT, m2, m1, mIf, mAndV, mOrV, mNotV, mAndT, mOrT, mNotT, mChain, mCons, mNil, mCall, mCallN, mImm, mOwn, mTup, mLst, mLstN, mItems, mFrz, rs, im, rss, ims, ownD, argOf, argsOf, slotOf, isSlot, cellsBack, backA, mCallA, List.filterMap_cons, List.filterMap_nil, List.findIdx?_cons, List.findIdx?_nil, gIn, inB, abc, lets])
  refine (mLc_eq (ds := signs z) (ρ1 := [some (.imm (.str z)), none]) (by simp [mStr, runFn, startE, keepO, keepA, sRet, sRetN, sRetA, sRetNone, sSeq, sIf, sNx, sDrop, sSet, sTg, tN, canSet, sSetN, Md.bind, Md.ret, Md.opt, mVar, mC, mT, m2, m1, mIf, mAndV, mOrV, mNotV, mAndT, mOrT, mNotT, mChain, mCons, mNil, mCall, mCallN, mImm, mOwn, mTup, mLst, mLstN, mItems, mFrz, rs, im, rss, ims, ownD, argOf, argsOf, slotOf, isSlot, cellsBack, backA, mCallA, List.filterMap_cons, List.filterMap_nil, List.findIdx?_cons, List.findIdx?_nil]) rfl e).trans ?_
  simp [signs, backE, lets]
theorem e_is_name {d : D} (h : goodD d = true) : m_is_name [.imm d] = .ok (.imm (.bool (isNameB d))) [none, none] := by
  cases d with
  | str z =>
    obtain ⟨h1, h2⟩ := good_str h
    have h3 : z.length ≤ lim := Nat.le_trans h2 (by decide)
    have a := gAll_map (fun c => decide (c ∈ abc)) (lets z)
    have c := c_name h2
    have gl := gLen_str h3
    by_cases q1 : 1 ≤ z.length
    · have q1' : (1 : Int) ≤ (z.length : Nat) := by omega
      by_cases q2 : z.length ≤ 8
      · have q2' : ((z.length : Nat) : Int) ≤ 8 := by omega
        simp [m_is_name, runFn, startE, keepO, keepA, sRet, sRetN, sRetA, sRetNone, sSeq, sIf, sNx, sDrop, sSet, sTg, tN, canSet, sSetN, Md.bind, Md.ret, Md.opt, mVar, mC, mT, m2, m1, mIf, mAndV, mOrV, mNotV, mAndT, mOrT, mNotT, mChain, mCons, mNil, mCall, mCallN, mImm, mOwn, mTup, mLst, mLstN, mItems, mFrz, rs, im, rss, ims, ownD, argOf, argsOf, slotOf, isSlot, cellsBack, backA, mCallA, List.filterMap_cons, List.filterMap_nil, List.findIdx?_cons, List.findIdx?_nil, mIsi, isA, gl, gLe_int, isNameB, nameB, c, a, q1, q2, q1', q2']
      · have q2' : ¬ ((z.length : Nat) : Int) ≤ 8 := by omega
        simp [m_is_name, runFn, startE, keepO, keepA, sRet, sRetN, sRetA, sRetNone, sSeq, sIf, sNx, sDrop, sSet, sTg, tN, canSet, sSetN, Md.bind, Md.ret, Md.opt, mVar, mC, mT, m2, m1, mIf, mAndV, mOrV, mNotV, mAndT, mOrT, mNotT, mChain, mCons, mNil, mCall, mCallN, mImm, mOwn, mTup, mLst, mLstN, mItems, mFrz, rs, im, rss, ims, ownD, argOf, argsOf, slotOf, isSlot, cellsBack, backA, mCallA, List.filterMap_cons, List.filterMap_nil, List.findIdx?_cons, List.findIdx?_nil, mIsi, isA, gl, gLe_int, isNameB, nameB, q1, q2, q1', q2']
    · have q1' : ¬ (1 : Int) ≤ (z.length : Nat) := by omega
      simp [m_is_name, runFn, startE, keepO, keepA, sRet, sRetN, sRetA, sRetNone, sSeq, sIf, sNx, sDrop, sSet, sTg, tN, canSet, sSetN, Md.bind, Md.ret, Md.opt, mVar, mC, mT, m2, m1, mIf, mAndV, mOrV, mNotV, mAndT, mOrT, mNotT, mChain, mCons, mNil, mCall, mCallN, mImm, mOwn, mTup, mLst, mLstN, mItems, mFrz, rs, im, rss, ims, ownD, argOf, argsOf, slotOf, isSlot, cellsBack, backA, mCallA, List.filterMap_cons, List.filterMap_nil, List.findIdx?_cons, List.findIdx?_nil, mIsi, isA, gl, gLe_int, isNameB, nameB, q1, q1']
  | _ => simp [m_is_name, runFn, startE, keepO, keepA, sRet, sRetN, sRetA, sRetNone, sSeq, sIf, sNx, sDrop, sSet, sTg, tN, canSet, sSetN, Md.bind, Md.ret, Md.opt, mVar, mC, mT, m2, m1, mIf, mAndV, mOrV, mNotV, mAndT, mOrT, mNotT, mChain, mCons, mNil, mCall, mCallN, mImm, mOwn, mTup, mLst, mLstN, mItems, mFrz, rs, im, rss, ims, ownD, argOf, argsOf, slotOf, isSlot, cellsBack, backA, mCallA, List.filterMap_cons, List.filterMap_nil, List.findIdx?_cons, List.findIdx?_nil, mIsi, isA, isNameB]
/-- what is_coin asks -/
def isCoinB : D → Bool
  | .tuple [a, b, .str z] => isNameB a && (if z = "" then isFrom b 0 0 else isFrom b 2 9)
  | _ => false
theorem isCoinB_len {ds : List D} (h : ds.length ≠ 3) : isCoinB (.tuple ds) = false := by
  match ds, h with
  | [], _ => rfl
  | [_], _ => rfl
  | [_, _], _ => rfl
  | [_, _, _], h => exact absurd rfl h
  | _ :: _ :: _ :: _ :: _, _ => simp [isCoinB]
theorem e_is_coin {d : D} (h : goodD d = true) : m_is_coin [.imm d] = .ok (.imm (.bool (isCoinB d))) [none] := by
  cases d with
  | tuple ds =>
    obtain ⟨hg, hl⟩ := good_tup h
    by_cases h3 : ds.length = 3
    · match ds, hg, h3 with
      | [a, b, c], hg, _ =>
        have ea := e_is_name (hg a (by simp))
        cases c with
        | str z =>
          have hz := (good_str (hg (.str z) (by simp))).1
          have eq : gEq (.str z) (.str "") = some (.bool (decide (z = ""))) := gEq_str hz strOk_nil
          cases hn : isNameB a with
          | false =>
            rw [hn] at ea
            simp [m_is_coin, runFn, startE, keepO, keepA, sRet, sRetN, sRetA, sRetNone, sSeq, sIf, sNx, sDrop, sSet, sTg, tN, canSet, sSetN, Md.bind, Md.ret, Md.opt, mVar, mC, mT, m2, m1, mIf, mAndV, mOrV, mNotV, mAndT, mOrT, mNotT, mChain, mCons, mNil, mCall, mCallN, mImm, mOwn, mTup, mLst, mLstN, mItems, mFrz, rs, im, rss, ims, ownD, argOf, argsOf, slotOf, isSlot, cellsBack, backA, mCallA, List.filterMap_cons, List.filterMap_nil, List.findIdx?_cons, List.findIdx?_nil, gEq_int, gNe_int, gLe_int, gLt_int, gGt_int, gGe_int, gAdd_int, gAddI_int, gSub_int, gNeg_int, gIx_tup, gIx_lst, gLen_tup, gLen_lst, gLen_dict, gIsN_eq, gNotN_eq, mIsi, isA, atI, ixN, isCoinB, ea, hn]
          | true =>
            rw [hn] at ea
            by_cases hz2 : z = ""
            · subst hz2
              simp [m_is_coin, runFn, startE, keepO, keepA, sRet, sRetN, sRetA, sRetNone, sSeq, sIf, sNx, sDrop, sSet, sTg, tN, canSet, sSetN, Md.bind, Md.ret, Md.opt, mVar, mC, mT, m2, m1, mIf, mAndV, mOrV, mNotV, mAndT, mOrT, mNotT, mChain, mCons, mNil, mCall, mCallN, mImm, mOwn, mTup, mLst, mLstN, mItems, mFrz, rs, im, rss, ims, ownD, argOf, argsOf, slotOf, isSlot, cellsBack, backA, mCallA, List.filterMap_cons, List.filterMap_nil, List.findIdx?_cons, List.findIdx?_nil, gEq_int, gNe_int, gLe_int, gLt_int, gGt_int, gGe_int, gAdd_int, gAddI_int, gSub_int, gNeg_int, gIx_tup, gIx_lst, gLen_tup, gLen_lst, gLen_dict, gIsN_eq, gNotN_eq, mIsi, isA, atI, ixN, isCoinB, ea, hn, eq, e_is_from]
            · simp [m_is_coin, runFn, startE, keepO, keepA, sRet, sRetN, sRetA, sRetNone, sSeq, sIf, sNx, sDrop, sSet, sTg, tN, canSet, sSetN, Md.bind, Md.ret, Md.opt, mVar, mC, mT, m2, m1, mIf, mAndV, mOrV, mNotV, mAndT, mOrT, mNotT, mChain, mCons, mNil, mCall, mCallN, mImm, mOwn, mTup, mLst, mLstN, mItems, mFrz, rs, im, rss, ims, ownD, argOf, argsOf, slotOf, isSlot, cellsBack, backA, mCallA, List.filterMap_cons, List.filterMap_nil, List.findIdx?_cons, List.findIdx?_nil, gEq_int, gNe_int, gLe_int, gLt_int, gGt_int, gGe_int, gAdd_int, gAddI_int, gSub_int, gNeg_int, gIx_tup, gIx_lst, gLen_tup, gLen_lst, gLen_dict, gIsN_eq, gNotN_eq, mIsi, isA, atI, ixN, isCoinB, ea, hn, eq, hz2, e_is_from]
        | _ =>
          cases hn : isNameB a <;> (rw [hn] at ea; simp [m_is_coin, runFn, startE, keepO, keepA, sRet, sRetN, sRetA, sRetNone, sSeq, sIf, sNx, sDrop, sSet, sTg, tN, canSet, sSetN, Md.bind, Md.ret, Md.opt, mVar, mC, mT, m2, m1, mIf, mAndV, mOrV, mNotV, mAndT, mOrT, mNotT, mChain, mCons, mNil, mCall, mCallN, mImm, mOwn, mTup, mLst, mLstN, mItems, mFrz, rs, im, rss, ims, ownD, argOf, argsOf, slotOf, isSlot, cellsBack, backA, mCallA, List.filterMap_cons, List.filterMap_nil, List.findIdx?_cons, List.findIdx?_nil, gEq_int, gNe_int, gLe_int, gLt_int, gGt_int, gGe_int, gAdd_int, gAddI_int, gSub_int, gNeg_int, gIx_tup, gIx_lst, gLen_tup, gLen_lst, gLen_dict, gIsN_eq, gNotN_eq, mIsi, isA, atI, ixN, isCoinB, ea])
    · have h3' : ¬ ((ds.length : Nat) : Int) = 3 := by omega
      simp [m_is_coin, runFn, startE, keepO, keepA, sRet, sRetN, sRetA, sRetNone, sSeq, sIf, sNx, sDrop, sSet, sTg, tN, canSet, sSetN, Md.bind, Md.ret, Md.opt, mVar, mC, mT, m2, m1, mIf, mAndV, mOrV, mNotV, mAndT, mOrT, mNotT, mChain, mCons, mNil, mCall, mCallN, mImm, mOwn, mTup, mLst, mLstN, mItems, mFrz, rs, im, rss, ims, ownD, argOf, argsOf, slotOf, isSlot, cellsBack, backA, mCallA, List.filterMap_cons, List.filterMap_nil, List.findIdx?_cons, List.findIdx?_nil, gEq_int, gNe_int, gLe_int, gLt_int, gGt_int, gGe_int, gAdd_int, gAddI_int, gSub_int, gNeg_int, gIx_tup, gIx_lst, gLen_tup, gLen_lst, gLen_dict, gIsN_eq, gNotN_eq, mIsi, isA, isCoinB_len h3, h3']
  | _ => simp [m_is_coin, runFn, startE, keepO, keepA, sRet, sRetN, sRetA, sRetNone, sSeq, sIf, sNx, sDrop, sSet, sTg, tN, canSet, sSetN, Md.bind, Md.ret, Md.opt, mVar, mC, mT, m2, m1, mIf, mAndV, mOrV, mNotV, mAndT, mOrT, mNotT, mChain, mCons, mNil, mCall, mCallN, mImm, mOwn, mTup, mLst, mLstN, mItems, mFrz, rs, im, rss, ims, ownD, argOf, argsOf, slotOf, isSlot, cellsBack, backA, mCallA, List.filterMap_cons, List.filterMap_nil, List.findIdx?_cons, List.findIdx?_nil, mIsi, isA, isCoinB]
/-- a row of coins -/
structure Rw where
  nm : Str
  mn : Int
  up : Str
def rwD (r : Rw) : D := .tuple [.str r.nm, .int r.mn, .str r.up]
def csD (cs : List Rw) : D := .tuple (cs.map rwD)
def rowB (r : Rw) : Bool := nameB r.nm && (if r.up = "" then decide (r.mn = 0) else decide (2 ≤ r.mn) && decide (r.mn ≤ 9))
theorem isCoin_row (r : Rw) : isCoinB (rwD r) = rowB r := by
  show (nameB r.nm && if r.up = "" then decide (0 ≤ r.mn) && decide (r.mn ≤ 0) else decide (2 ≤ r.mn) && decide (r.mn ≤ 9)) = _
  unfold rowB
  by_cases h : r.up = ""
  · rw [if_pos h, if_pos h]
    congr 1
    by_cases z : r.mn = 0
    · rw [z]; rfl
    · by_cases z2 : 0 ≤ r.mn <;> simp [z, z2] <;> omega
  · rw [if_neg h, if_neg h]
theorem row_of_coin {d : D} (h : isCoinB d = true) : ∃ r, d = rwD r ∧ rowB r = true := by
  match d, h with
  | .tuple [.str a, .int m, .str z], h => exact ⟨⟨a, m, z⟩, rfl, by rw [← isCoin_row]; exact h⟩
  | .tuple [.str a, .none, .str z], h => simp [isCoinB, isFrom] at h
  | .tuple [.str a, .bool _, .str z], h => simp [isCoinB, isFrom] at h
  | .tuple [.str a, .str _, .str z], h => simp [isCoinB, isFrom] at h
  | .tuple [.str a, .list _, .str z], h => simp [isCoinB, isFrom] at h
  | .tuple [.str a, .tuple _, .str z], h => simp [isCoinB, isFrom] at h
  | .tuple [.str a, .dict _, .str z], h => simp [isCoinB, isFrom] at h
  | .tuple [.none, b, .str z], h => simp [isCoinB, isNameB] at h
  | .tuple [.bool _, b, .str z], h => simp [isCoinB, isNameB] at h
  | .tuple [.int _, b, .str z], h => simp [isCoinB, isNameB] at h
  | .tuple [.list _, b, .str z], h => simp [isCoinB, isNameB] at h
  | .tuple [.tuple _, b, .str z], h => simp [isCoinB, isNameB] at h
  | .tuple [.dict _, b, .str z], h => simp [isCoinB, isNameB] at h
def lim8 : (8 : Nat) ≤ lim := by decide
theorem cut_all (ds : List D) : cutG ds none none = ds := by
  unfold cutG
  rw [HT.sIx_none, HT.sIx_none, List.drop_zero, Nat.sub_zero, List.take_length]
theorem cut_from (ds : List D) (k : Nat) : cutG ds (some (k : Nat)) none = ds.drop k := by
  unfold cutG
  rw [HT.sIx_nat, HT.sIx_none]
  by_cases h : k ≤ ds.length
  · rw [Nat.min_eq_left h]
    exact List.take_of_length_le (by rw [List.length_drop]; exact Nat.le_refl _)
  · rw [Nat.min_eq_right (by omega), List.drop_length, List.drop_eq_nil_of_le (by omega)]
    simp
theorem cut_to (ds : List D) (k : Nat) : cutG ds none (some (k : Nat)) = ds.take k := by
  unfold cutG
  rw [HT.sIx_nat, HT.sIx_none, List.drop_zero, Nat.sub_zero]
  by_cases h : k ≤ ds.length
  · rw [Nat.min_eq_left h]
  · rw [Nat.min_eq_right (by omega), List.take_length, List.take_of_length_le (by omega)]
def pairs2 (xs : List Str) : List (Str × Str) := xs.zip (xs.drop 1)
def risingB (xs : List Str) : Bool := (pairs2 xs).all fun p => decide (lets p.1 < lets p.2)
theorem gLt_str (a b : Str) : gLt (.str a) (.str b) = some (.bool (decide (lets a < lets b))) := rfl
def ltD : D → D
  | .tuple [.str a, .str b] => .bool (decide (lets a < lets b))
  | _ => .none
theorem it_rising (xs : List Str) : (mZip (mCons (mVar 0) (mCons (mSl (mVar 0) (mPart (mC (.int 1))) (Md.ret none)) mNil))) [some (.imm (.list (xs.map .str))), none, none] = .ok ((pairs2 xs).map fun p => .tuple [.str p.1, .str p.2]) [some (.imm (.list (xs.map .str))), none, none] := by
  have h : cutG (xs.map PyData.str) (some 1) none = (xs.map PyData.str).drop 1 := cut_from (xs.map PyData.str) 1
  have h2 : zipD (xs.map PyData.str) ((xs.map PyData.str).drop 1) = (pairs2 xs).map fun p => .tuple [.str p.1, .str p.2] := by
    unfold zipD pairs2
    rw [← List.map_drop, List.zip_map, List.map_map]
    rfl
  rw [← h] at h2
  rw [← h2]
  simp [mZip, mSl, mPart, gSl, runFn, startE, keepO, keepA, sRet, sRetN, sRetA, sRetNone, sSeq, sIf, sNx, sDrop, sSet, sTg, tN, canSet, sSetN, Md.bind, Md.ret, Md.opt, mVar, mC, mT, m2, m1, mIf, mAndV, mOrV, mNotV, mAndT, mOrT, mNotT, mChain, mCons, mNil, mCall, mCallN, mImm, mOwn, mTup, mLst, mLstN, mItems, mFrz, rs, im, rss, ims, ownD, argOf, argsOf, slotOf, isSlot, cellsBack, backA, mCallA, List.filterMap_cons, List.filterMap_nil, List.findIdx?_cons, List.findIdx?_nil]
theorem e_is_rising {xs : List Str} (hl : xs.length ≤ 1000) : m_is_rising [.imm (.list (xs.map .str))] = .ok (.imm (.bool (risingB xs))) [none, none, none] := by
  have e := lcL_map (vs := [1, 2]) (tg := tTupT 2 (tsCons (tN 1) (tsCons (tN 2) tsNil))) (elt := x_is_rising_1) ltD [some (.imm (.list (xs.map .str))), none, none] ((pairs2 xs).map fun p => .tuple [.str p.1, .str p.2]) (by
      unfold pairs2
      rw [List.length_map, List.length_zip]
      exact Nat.le_trans (Nat.min_le_left _ _) (Nat.le_trans hl (by decide))) (fun d m => by
      obtain ⟨⟨a, b⟩, _, rfl⟩ := List.mem_map.mp m
      refine ⟨[some (.imm (.list (xs.map .str))), some (.imm (.str a)), some (.imm (.str b))], by simp [tTupT, tsCons, tsNil, tN, canSet], .dat (.bool (decide (lets a < lets b))), [some (.imm (.list (xs.map .str))), some (.imm (.str a)), some (.imm (.str b))], ?_, rfl, rfl, rfl⟩
      simp [x_is_rising_1, runFn, startE, keepO, keepA, sRet, sRetN, sRetA, sRetNone, sSeq, sIf, sNx, sDrop, sSet, sTg, tN, canSet, sSetN, Md.bind, Md.ret, Md.opt, mVar, mC, mT, m2, m1, mIf, mAndV, mOrV, mNotV, mAndT, mOrT, mNotT, mChain, mCons, mNil, mCall, mCallN, mImm, mOwn, mTup, mLst, mLstN, mItems, mFrz, rs, im, rss, ims, ownD, argOf, argsOf, slotOf, isSlot, cellsBack, backA, mCallA, List.filterMap_cons, List.filterMap_nil, List.findIdx?_cons, List.findIdx?_nil, gLt_str])
  have c : c_is_rising_1 [some (.imm (.list (xs.map .str))), none, none] = .ok (.lst ((pairs2 xs).map fun p => .bool (decide (lets p.1 < lets p.2)))) [some (.imm (.list (xs.map .str))), none, none] := by
    refine (mLc_eq (it_rising xs) rfl e).trans ?_
    rw [List.map_map]
    rfl
  have a := gAll_map (fun p : Str × Str => decide (lets p.1 < lets p.2)) (pairs2 xs)
  simp [m_is_rising, runFn, startE, keepO, keepA, sRet, sRetN, sRetA, sRetNone, sSeq, sIf, sNx, sDrop, sSet, sTg, tN, canSet, sSetN, Md.bind, Md.ret, Md.opt, mVar, mC, mT, m2, m1, mIf, mAndV, mOrV, mNotV, mAndT, mOrT, mNotT, mChain, mCons, mNil, mCall, mCallN, mImm, mOwn, mTup, mLst, mLstN, mItems, mFrz, rs, im, rss, ims, ownD, argOf, argsOf, slotOf, isSlot, cellsBack, backA, mCallA, List.filterMap_cons, List.filterMap_nil, List.findIdx?_cons, List.findIdx?_nil, c, a, risingB]
/-! the kinds, from one to the next above -/
def rowAt (cs : List Rw) (s : Str) : Option Rw := cs.find? fun r => decide (r.nm = s)
def up1 (cs : List Rw) (s : Str) : Str := if s = "" then "" else match rowAt cs s with
  | some r => r.up
  | none => ""
def inN (cs : List Rw) (s : Str) : Bool := (rowAt cs s).isSome
/-- t steps up, as long as one comes to a kind that is there -/
def climb (cs : List Rw) : Nat → Str → Option Str
  | 0, s => some s
  | t + 1, s => if up1 cs s ≠ "" ∧ inN cs (up1 cs s) = false then none else climb cs t (up1 cs s)
def forestB (cs : List Rw) : Bool := cs.all fun r => match climb cs cs.length r.nm with
  | some s => decide (s = "")
  | none => false
def aboveD (cs : List Rw) : List (Key × D) := cs.map fun r => (.inr r.nm, .str r.up)
def aboveDD (cs : List Rw) : List (D × D) := cs.map fun r => (.str r.nm, .str r.up)
theorem look_above (cs : List Rw) (s : Str) : lookD (aboveDD cs) (.inr s) = (rowAt cs s).map fun r => .str r.up := by
  unfold lookD aboveDD rowAt
  rw [List.find?_map, Option.map_map]
  congr 1
  congr 1
  funext r
  show decide ((Sum.inr s : Key) = .inr r.nm) = decide (r.nm = s)
  by_cases h : r.nm = s
  · subst h; simp
  · rw [decide_eq_false h, decide_eq_false]
    exact fun e => h (Sum.inr.inj e).symm
def okTexts (cs : List Rw) : Prop := ∀ r ∈ cs, PyData.strOk r.nm = true ∧ PyData.strOk r.up = true
theorem up1_ok {cs : List Rw} (h : okTexts cs) (s : Str) : PyData.strOk (up1 cs s) = true := by
  unfold up1
  split
  · exact strOk_nil
  · split
    · rename_i r e
      exact (h r (List.mem_of_find?_eq_some e)).2
    · exact strOk_nil
theorem climb_in {cs : List Rw} (h : okTexts cs) {a0 a1 a3 a4 a5 : Option A} : ∀ (ds : List D) (s : Str) (a7 : Option D), PyData.strOk s = true →
    match climb cs ds.length s with
    | some u => ∃ x : Option D, forL (tN 7) b_are_coins_1 ds [a0, a1, some (.imm (.dict (aboveDD cs))), a3, a4, a5, some (.imm (.str s)), a7.map .imm] = .ok .nx [a0, a1, some (.imm (.dict (aboveDD cs))), a3, a4, a5, some (.imm (.str u)), x.map .imm]
    | none => ∃ r : Env, r.length = 7 ∧ forL (tN 7) b_are_coins_1 ds [a0, a1, some (.imm (.dict (aboveDD cs))), a3, a4, a5, some (.imm (.str s)), a7.map .imm] = .ok (.rt (.imm (.bool false))) (a0 :: r)
  | [], s, a7, _ => ⟨a7, rfl⟩
  | d :: ds, s, a7, hs => by
    have hu := up1_ok h s
    have ih := climb_in h (a0 := a0) (a1 := a1) (a3 := a3) (a4 := a4) (a5 := a5) ds (up1 cs s) (some d) hu
    have t1 : tN 7 d [a0, a1, some (.imm (.dict (aboveDD cs))), a3, a4, a5, some (.imm (.str s)), a7.map .imm] = some [a0, a1, some (.imm (.dict (aboveDD cs))), a3, a4, a5, some (.imm (.str s)), some (.imm d)] := by
      cases a7 <;> simp [tN, canSet]
    have n1 : gNe (.str s) (.str "") = some (.bool (!decide (s = ""))) := gNe_str hs strOk_nil
    have n2 : gNe (.str (up1 cs s)) (.str "") = some (.bool (!decide (up1 cs s = ""))) := gNe_str hu strOk_nil
    have n3 : gNotIn (.str (up1 cs s)) (.dict (aboveDD cs)) = some (.bool (!inN cs (up1 cs s))) := by
      simp [gNotIn, inB, keyOf, look_above, inN]
    have g1 : ∀ q : s ≠ "", gGet (.dict (aboveDD cs)) (.str s) (.str "") = some (.str (up1 cs s)) := fun q => by
      simp only [gGet, keyOf, look_above, up1, if_neg q]
      cases rowAt cs s <;> rfl
    have bd : b_are_coins_1 [a0, a1, some (.imm (.dict (aboveDD cs))), a3, a4, a5, some (.imm (.str s)), some (.imm d)] =
        if up1 cs s ≠ "" ∧ inN cs (up1 cs s) = false then .ok (.rt (.imm (.bool false))) [a0, a1, some (.imm (.dict (aboveDD cs))), a3, a4, a5, some (.imm (.str (up1 cs s))), some (.imm d)]
        else .ok .nx [a0, a1, some (.imm (.dict (aboveDD cs))), a3, a4, a5, some (.imm (.str (up1 cs s))), some (.imm d)] := by
      by_cases q : s = ""
      · have e0 : up1 cs s = "" := by unfold up1; rw [if_pos q]
        rw [e0] at n2 n3 ⊢
        subst q
        simp [b_are_coins_1, runFn, startE, keepO, keepA, sRet, sRetN, sRetA, sRetNone, sSeq, sIf, sNx, sDrop, sSet, sTg, tN, canSet, sSetN, Md.bind, Md.ret, Md.opt, mVar, mC, mT, m2, m1, mIf, mAndV, mOrV, mNotV, mAndT, mOrT, mNotT, mChain, mCons, mNil, mCall, mCallN, mImm, mOwn, mTup, mLst, mLstN, mItems, mFrz, rs, im, rss, ims, ownD, argOf, argsOf, slotOf, isSlot, cellsBack, backA, mCallA, List.filterMap_cons, List.filterMap_nil, List.findIdx?_cons, List.findIdx?_nil, n1]
      · by_cases q2 : up1 cs s = ""
        · have g1' := g1 q
          rw [q2] at n2 g1' ⊢
          simp [b_are_coins_1, runFn, startE, keepO, keepA, sRet, sRetN, sRetA, sRetNone, sSeq, sIf, sNx, sDrop, sSet, sTg, tN, canSet, sSetN, Md.bind, Md.ret, Md.opt, mVar, mC, mT, m2, m1, mIf, mAndV, mOrV, mNotV, mAndT, mOrT, mNotT, mChain, mCons, mNil, mCall, mCallN, mImm, mOwn, mTup, mLst, mLstN, mItems, mFrz, rs, im, rss, ims, ownD, argOf, argsOf, slotOf, isSlot, cellsBack, backA, mCallA, List.filterMap_cons, List.filterMap_nil, List.findIdx?_cons, List.findIdx?_nil, n1, n2, q, mGet, g1']
        · cases q3 : inN cs (up1 cs s) with
          | true =>
            rw [q3] at n3
            simp [b_are_coins_1, runFn, startE, keepO, keepA, sRet, sRetN, sRetA, sRetNone, sSeq, sIf, sNx, sDrop, sSet, sTg, tN, canSet, sSetN, Md.bind, Md.ret, Md.opt, mVar, mC, mT, m2, m1, mIf, mAndV, mOrV, mNotV, mAndT, mOrT, mNotT, mChain, mCons, mNil, mCall, mCallN, mImm, mOwn, mTup, mLst, mLstN, mItems, mFrz, rs, im, rss, ims, ownD, argOf, argsOf, slotOf, isSlot, cellsBack, backA, mCallA, List.filterMap_cons, List.filterMap_nil, List.findIdx?_cons, List.findIdx?_nil, n1, n2, n3, q, q2, mGet, g1 q]
          | false =>
            rw [q3] at n3
            simp [b_are_coins_1, runFn, startE, keepO, keepA, sRet, sRetN, sRetA, sRetNone, sSeq, sIf, sNx, sDrop, sSet, sTg, tN, canSet, sSetN, Md.bind, Md.ret, Md.opt, mVar, mC, mT, m2, m1, mIf, mAndV, mOrV, mNotV, mAndT, mOrT, mNotT, mChain, mCons, mNil, mCall, mCallN, mImm, mOwn, mTup, mLst, mLstN, mItems, mFrz, rs, im, rss, ims, ownD, argOf, argsOf, slotOf, isSlot, cellsBack, backA, mCallA, List.filterMap_cons, List.filterMap_nil, List.findIdx?_cons, List.findIdx?_nil, n1, n2, n3, q, q2, mGet, g1 q]
    show match climb cs (ds.length + 1) s with
      | some u => _
      | none => _
    by_cases q : up1 cs s ≠ "" ∧ inN cs (up1 cs s) = false
    · rw [show climb cs (ds.length + 1) s = none by unfold climb; rw [if_pos q]]
      rw [if_pos q] at bd
      refine ⟨[a1, some (.imm (.dict (aboveDD cs))), a3, a4, a5, some (.imm (.str (up1 cs s))), some (.imm d)], rfl, ?_⟩
      simp only [forL, t1, bd]
    · rw [show climb cs (ds.length + 1) s = climb cs ds.length (up1 cs s) by rw [climb, if_neg q]]
      rw [if_neg q] at bd
      cases e : climb cs ds.length (up1 cs s) with
      | some u =>
        rw [e] at ih
        obtain ⟨x, ih⟩ := ih
        exact ⟨x, by simp only [forL, t1, bd]; exact ih⟩
      | none =>
        rw [e] at ih
        obtain ⟨x, hx, ih⟩ := ih
        exact ⟨x, hx, by simp only [forL, t1, bd]; exact ih⟩
/-! names in order -/
theorem lets_inj {a b : Str} (h : lets a = lets b) : a = b := by
  obtain ⟨x⟩ := a
  obtain ⟨y⟩ := b
  have : x = y := Array.toList_inj.mp h
  rw [this]
theorem rising_cons (x y : Str) (r : List Str) : risingB (x :: y :: r) = (decide (lets x < lets y) && risingB (y :: r)) := rfl
theorem rising_pw : ∀ {xs : List Str}, risingB xs = true → xs.Pairwise fun a b => lets a < lets b
  | [], _ => .nil
  | [x], _ => List.pairwise_singleton _ _
  | x :: y :: r, h => by
    rw [rising_cons, Bool.and_eq_true, decide_eq_true_eq] at h
    have ih := rising_pw h.2
    refine List.pairwise_cons.mpr ⟨fun z m => ?_, ih⟩
    rcases List.mem_cons.mp m with rfl | m
    · exact h.1
    · exact List.lt_trans h.1 ((List.pairwise_cons.mp ih).1 z m)
theorem pw_rising : ∀ {xs : List Str}, (xs.Pairwise fun a b => lets a < lets b) → risingB xs = true
  | [], _ => rfl
  | [x], _ => rfl
  | x :: y :: r, h => by
    obtain ⟨h1, h2⟩ := List.pairwise_cons.mp h
    rw [rising_cons, Bool.and_eq_true, decide_eq_true_eq]
    exact ⟨h1 y (.head _), pw_rising h2⟩
theorem pw_nodup {xs : List Str} (h : xs.Pairwise fun a b => lets a < lets b) : xs.Nodup :=
  h.imp fun {a b} hlt e => by
    subst e
    exact List.lt_irrefl _ hlt
/-! the dict of what is above -/
theorem putG_new {acc : List (Key × D)} {k : Key} {d : D} (h : ∀ p ∈ acc, p.1 ≠ k) : putG acc k d = acc ++ [(k, d)] := by
  unfold putG
  rw [if_neg]
  intro q
  obtain ⟨p, m, e⟩ := List.any_eq_true.mp q
  exact h p m (of_decide_eq_true e)
theorem dc_above {a0 a1 a2 a6 a7 : Option A} : ∀ (cs : List Rw) (acc : List (Key × D)), acc.length + cs.length ≤ 1000 → (cs.map (·.nm)).Nodup → (∀ p ∈ acc, ∀ r ∈ cs, p.1 ≠ .inr r.nm) →
    dcL [3, 4, 5] (tTupT 3 (tsCons (tN 3) (tsCons (tN 4) (tsCons (tN 5) tsNil)))) (Md.ret true) (mVar 3) (mVar 5) (cs.map rwD) acc [a0, a1, a2, none, none, none, a6, a7] = .ok (acc ++ aboveD cs) [a0, a1, a2, none, none, none, a6, a7]
  | [], acc, _, _, _ => by
    show Rs.ok acc _ = _
    rw [show aboveD [] = [] from rfl, List.append_nil]
  | r :: cs, acc, hl, nd, hn => by
    rw [List.map_cons, List.nodup_cons] at nd
    have t : tTupT 3 (tsCons (tN 3) (tsCons (tN 4) (tsCons (tN 5) tsNil))) (rwD r) [a0, a1, a2, none, none, none, a6, a7] = some [a0, a1, a2, some (.imm (.str r.nm)), some (.imm (.int r.mn)), some (.imm (.str r.up)), a6, a7] := by
      simp [tTupT, rwD, tsCons, tsNil, tN, canSet]
    have hl2 : acc.length < lim := by
      rw [List.length_cons] at hl
      have : (1000 : Nat) < lim := by decide
      omega
    have p : putG acc (.inr r.nm) (.str r.up) = acc ++ [(.inr r.nm, .str r.up)] := putG_new fun p m => hn p m r (.head _)
    have ih := dc_above (a0 := a0) (a1 := a1) (a2 := a2) (a6 := a6) (a7 := a7) cs (acc ++ [(.inr r.nm, .str r.up)]) (by rw [List.length_append, List.length_singleton]; rw [List.length_cons] at hl; omega) nd.2 (fun p m r' m' => by
      rcases List.mem_append.mp m with m | m
      · exact hn p m r' (.tail _ m')
      · rw [List.mem_singleton.mp m]
        intro e
        exact nd.1 (by rw [Sum.inr.inj e]; exact List.mem_map.mpr ⟨r', m', rfl⟩))
    rw [List.map_cons]
    unfold dcL
    rw [t]
    simp [Md.ret, mVar, im, keyOf, noOwn, wipeE, hl2, p]
    rw [ih, List.append_assoc]
    rfl
theorem dk_above (cs : List Rw) : (aboveD cs).map (fun p => (keyD p.1, p.2)) = aboveDD cs := by
  unfold aboveD aboveDD
  rw [List.map_map]
  rfl
theorem keys_above (cs : List Rw) : keysD (aboveD cs) = cs.map fun r => .str r.nm := by
  unfold keysD aboveD
  rw [List.map_map]
  rfl
theorem climb_ok {cs : List Rw} (h : okTexts cs) : ∀ (t : Nat) (s u : Str), PyData.strOk s = true → climb cs t s = some u → PyData.strOk u = true := fun t => by
  induction t with
  | zero => intro s u a b; cases b; exact a
  | succ t ih =>
    intro s u a b
    unfold climb at b
    split at b
    · cases b
    · exact ih _ _ (up1_ok h s) b
def orFalse : Option Str → Bool
  | some s => decide (s = "")
  | none => false
end DV

set_option Elab.async false
set_option linter.all false
set_option maxRecDepth 100000
set_option maxHeartbeats 4000000
set_option autoImplicit false
namespace DV
open PySem L2
theorem loop2 {cs : List Rw} (h : okTexts cs) (hc : cs.length ≤ 1000) {a0 a1 a4 a5 : Option A} (ks : List Str) : ∀ (a3 a6 a7 : Option D), (∀ k ∈ ks, PyData.strOk k = true) →
    (∃ r : Env, r.length = 7 ∧ forL (tN 3) b_are_coins_2 (ks.map .str) [a0, a1, some (.imm (.dict (aboveDD cs))), a3.map .imm, a4, a5, a6.map .imm, a7.map .imm] =
      .ok (if (ks.all fun k => orFalse (climb cs cs.length k)) = true then .nx else .rt (.imm (.bool false))) (a0 :: r))
 := by
  induction ks with
  | nil => exact fun a3 a6 a7 _ => ⟨[a1, some (.imm (.dict (aboveDD cs))), a3.map .imm, a4, a5, a6.map .imm, a7.map .imm], rfl, rfl⟩
  | cons k ks ihk =>
    intro a3 a6 a7 hk
    have t1 : tN 3 (.str k) [a0, a1, some (.imm (.dict (aboveDD cs))), a3.map .imm, a4, a5, a6.map .imm, a7.map .imm] = some [a0, a1, some (.imm (.dict (aboveDD cs))), some (.imm (.str k)), a4, a5, a6.map .imm, a7.map .imm] := by
      cases a3 <;> simp [tN, canSet]
    have hr : (rangeD 0 cs.length).length = cs.length := by simp [rangeD]
    have ci := climb_in h (a0 := a0) (a1 := a1) (a3 := some (.imm (.str k))) (a4 := a4) (a5 := a5) (rangeD 0 cs.length) k a7 (hk k (.head _))
    rw [hr] at ci
    have hl : (aboveDD cs).length = cs.length := by simp [aboveDD]
    have s62 := small62_nat hc
    have lf : ∀ a6, l_are_coins_1 [a0, a1, some (.imm (.dict (aboveDD cs))), some (.imm (.str k)), a4, a5, some (.imm (.str k)), a6] = forL (tN 7) b_are_coins_1 (rangeD 0 cs.length) [a0, a1, some (.imm (.dict (aboveDD cs))), some (.imm (.str k)), a4, a5, some (.imm (.str k)), a6] := fun a6 => by
      refine sFor_eq (range1_eq (os := [.dat (.int cs.length)]) ?_ rfl s62)
      simp [runFn, startE, keepO, keepA, sRet, sRetN, sRetA, sRetNone, sSeq, sIf, sNx, sDrop, sSet, sTg, tN, canSet, sSetN, Md.bind, Md.ret, Md.opt, mVar, mC, mT, m2, m1, mIf, mAndV, mOrV, mNotV, mAndT, mOrT, mNotT, mChain, mCons, mNil, mCall, mCallN, mImm, mOwn, mTup, mLst, mLstN, mItems, mFrz, rs, im, rss, ims, ownD, argOf, argsOf, slotOf, isSlot, cellsBack, backA, mCallA, List.filterMap_cons, List.filterMap_nil, List.findIdx?_cons, List.findIdx?_nil, gLen_dict, hl]
    have st : sSet 6 (mVar 3) [a0, a1, some (.imm (.dict (aboveDD cs))), some (.imm (.str k)), a4, a5, a6.map .imm, a7.map .imm] = .ok .nx [a0, a1, some (.imm (.dict (aboveDD cs))), some (.imm (.str k)), a4, a5, some (.imm (.str k)), a7.map .imm] := by
      cases a6 <;> simp [runFn, startE, keepO, keepA, sRet, sRetN, sRetA, sRetNone, sSeq, sIf, sNx, sDrop, sSet, sTg, tN, canSet, sSetN, Md.bind, Md.ret, Md.opt, mVar, mC, mT, m2, m1, mIf, mAndV, mOrV, mNotV, mAndT, mOrT, mNotT, mChain, mCons, mNil, mCall, mCallN, mImm, mOwn, mTup, mLst, mLstN, mItems, mFrz, rs, im, rss, ims, ownD, argOf, argsOf, slotOf, isSlot, cellsBack, backA, mCallA, List.filterMap_cons, List.filterMap_nil, List.findIdx?_cons, List.findIdx?_nil]
    cases e : climb cs cs.length k with
    | none =>
      rw [e] at ci
      obtain ⟨ρ', hx, ci⟩ := ci
      have bd : b_are_coins_2 [a0, a1, some (.imm (.dict (aboveDD cs))), some (.imm (.str k)), a4, a5, a6.map .imm, a7.map .imm] = .ok (.rt (.imm (.bool false))) (a0 :: ρ') := by
        unfold b_are_coins_2
        rw [sSeq_nx st]
        exact sSeq_rt ((lf _).trans ci)
      refine ⟨ρ', hx, ?_⟩
      rw [List.map_cons, if_neg (by rw [List.all_cons, e]; simp [orFalse])]
      simp only [forL, t1, bd]
    | some u =>
      rw [e] at ci
      obtain ⟨x, ci⟩ := ci
      have hu : PyData.strOk u = true := climb_ok h _ _ _ (hk k (.head _)) e
      have n1 : gNe (.str u) (.str "") = some (.bool (!decide (u = ""))) := gNe_str hu strOk_nil
      by_cases q : u = ""
      · have bd : b_are_coins_2 [a0, a1, some (.imm (.dict (aboveDD cs))), some (.imm (.str k)), a4, a5, a6.map .imm, a7.map .imm] = .ok .nx [a0, a1, some (.imm (.dict (aboveDD cs))), some (.imm (.str k)), a4, a5, some (.imm (.str u)), x.map .imm] := by
          unfold b_are_coins_2
          rw [sSeq_nx st, sSeq_nx ((lf _).trans ci)]
          subst q
          simp [runFn, startE, keepO, keepA, sRet, sRetN, sRetA, sRetNone, sSeq, sIf, sNx, sDrop, sSet, sTg, tN, canSet, sSetN, Md.bind, Md.ret, Md.opt, mVar, mC, mT, m2, m1, mIf, mAndV, mOrV, mNotV, mAndT, mOrT, mNotT, mChain, mCons, mNil, mCall, mCallN, mImm, mOwn, mTup, mLst, mLstN, mItems, mFrz, rs, im, rss, ims, ownD, argOf, argsOf, slotOf, isSlot, cellsBack, backA, mCallA, List.filterMap_cons, List.filterMap_nil, List.findIdx?_cons, List.findIdx?_nil, n1]
        obtain ⟨ρ', hx, ih⟩ := ihk (some (.str k)) (some (.str u)) x fun k m => hk k (.tail _ m)
        refine ⟨ρ', hx, ?_⟩
        rw [List.map_cons, List.all_cons, e, show orFalse (some u) = true by simp [orFalse, q], Bool.true_and]
        simp only [forL, t1, bd]
        exact ih
      · have bd : b_are_coins_2 [a0, a1, some (.imm (.dict (aboveDD cs))), some (.imm (.str k)), a4, a5, a6.map .imm, a7.map .imm] = .ok (.rt (.imm (.bool false))) [a0, a1, some (.imm (.dict (aboveDD cs))), some (.imm (.str k)), a4, a5, some (.imm (.str u)), x.map .imm] := by
          unfold b_are_coins_2
          rw [sSeq_nx st, sSeq_nx ((lf _).trans ci)]
          simp [runFn, startE, keepO, keepA, sRet, sRetN, sRetA, sRetNone, sSeq, sIf, sNx, sDrop, sSet, sTg, tN, canSet, sSetN, Md.bind, Md.ret, Md.opt, mVar, mC, mT, m2, m1, mIf, mAndV, mOrV, mNotV, mAndT, mOrT, mNotT, mChain, mCons, mNil, mCall, mCallN, mImm, mOwn, mTup, mLst, mLstN, mItems, mFrz, rs, im, rss, ims, ownD, argOf, argsOf, slotOf, isSlot, cellsBack, backA, mCallA, List.filterMap_cons, List.filterMap_nil, List.findIdx?_cons, List.findIdx?_nil, n1, q]
        refine ⟨[a1, some (.imm (.dict (aboveDD cs))), some (.imm (.str k)), a4, a5, some (.imm (.str u)), x.map .imm], rfl, ?_⟩
        rw [List.map_cons, List.all_cons, e, show orFalse (some u) = false by simp [orFalse, q], Bool.false_and, if_neg Bool.false_ne_true]
        simp only [forL, t1, bd]
theorem good_rows {cs : List Rw} (h : goodD (csD cs) = true) : okTexts cs ∧ ∀ r ∈ cs, goodD (rwD r) = true := by
  have g := (good_tup h).1
  have g2 : ∀ r ∈ cs, goodD (rwD r) = true := fun r m => g _ (List.mem_map.mpr ⟨r, m, rfl⟩)
  refine ⟨fun r m => ?_, g2⟩
  have := (good_tup (g2 r m)).1
  exact ⟨(good_str (this (.str r.nm) (by simp))).1, (good_str (this (.str r.up) (by simp))).1⟩
/-- is_coin of each -/
theorem c_coins1 {ds : List D} (h : ∀ d ∈ ds, goodD d = true) (hl : ds.length ≤ 1000) {a : List (Option A)} (ha : a.length = 6) :
    c_are_coins_1 (some (.imm (.tuple ds)) :: none :: a) = .ok (.lst (ds.map fun d => .bool (isCoinB d))) (some (.imm (.tuple ds)) :: none :: a) := by
  have e := lcL_map (vs := [1]) (tg := tN 1) (elt := x_are_coins_1) (fun d => .bool (isCoinB d)) (some (.imm (.tuple ds)) :: none :: a) ds (Nat.le_trans hl (by decide)) (fun d m => by
    refine ⟨some (.imm (.tuple ds)) :: some (.imm d) :: a, by simp [tN, canSet], .dat (.bool (isCoinB d)), some (.imm (.tuple ds)) :: some (.imm d) :: a, ?_, rfl, rfl, rfl⟩
    have ec := e_is_coin (h d m)
    match a, ha with
    | [b1, b2, b3, b4, b5, b6], _ =>
      simp [x_are_coins_1, runFn, startE, keepO, keepA, sRet, sRetN, sRetA, sRetNone, sSeq, sIf, sNx, sDrop, sSet, sTg, tN, canSet, sSetN, Md.bind, Md.ret, Md.opt, mVar, mC, mT, m2, m1, mIf, mAndV, mOrV, mNotV, mAndT, mOrT, mNotT, mChain, mCons, mNil, mCall, mCallN, mImm, mOwn, mTup, mLst, mLstN, mItems, mFrz, rs, im, rss, ims, ownD, argOf, argsOf, slotOf, isSlot, cellsBack, backA, mCallA, List.filterMap_cons, List.filterMap_nil, List.findIdx?_cons, List.findIdx?_nil, ec])
  refine (mLc_eq (ds := ds) (ρ1 := some (.imm (.tuple ds)) :: none :: a) (by simp [mSeq, runFn, startE, keepO, keepA, sRet, sRetN, sRetA, sRetNone, sSeq, sIf, sNx, sDrop, sSet, sTg, tN, canSet, sSetN, Md.bind, Md.ret, Md.opt, mVar, mC, mT, m2, m1, mIf, mAndV, mOrV, mNotV, mAndT, mOrT, mNotT, mChain, mCons, mNil, mCall, mCallN, mImm, mOwn, mTup, mLst, mLstN, mItems, mFrz, rs, im, rss, ims, ownD, argOf, argsOf, slotOf, isSlot, cellsBack, backA, mCallA, List.filterMap_cons, List.filterMap_nil, List.findIdx?_cons, List.findIdx?_nil, items]) rfl e).trans ?_
  simp [backE]
theorem it_tup {ds : List D} {a : List (Option A)} : mSeq (mVar 0) (some (.imm (.tuple ds)) :: a) = .ok ds (some (.imm (.tuple ds)) :: a) := by simp [mSeq, runFn, startE, keepO, keepA, sRet, sRetN, sRetA, sRetNone, sSeq, sIf, sNx, sDrop, sSet, sTg, tN, canSet, sSetN, Md.bind, Md.ret, Md.opt, mVar, mC, mT, m2, m1, mIf, mAndV, mOrV, mNotV, mAndT, mOrT, mNotT, mChain, mCons, mNil, mCall, mCallN, mImm, mOwn, mTup, mLst, mLstN, mItems, mFrz, rs, im, rss, ims, ownD, argOf, argsOf, slotOf, isSlot, cellsBack, backA, mCallA, List.filterMap_cons, List.filterMap_nil, List.findIdx?_cons, List.findIdx?_nil, items]
/-- one[0] of each -/
theorem c_coins2 {cs : List Rw} (hl : cs.length ≤ 1000) {a : List (Option A)} (ha : a.length = 6) :
    c_are_coins_2 (some (.imm (csD cs)) :: none :: a) = .ok (.lst ((cs.map (·.nm)).map .str)) (some (.imm (csD cs)) :: none :: a) := by
  have e := lcL_map (vs := [1]) (tg := tN 1) (elt := x_are_coins_2) (fun d => match d with
    | .tuple (x :: _) => x
    | _ => .none) (some (.imm (csD cs)) :: none :: a) (cs.map rwD) (by rw [List.length_map]; exact Nat.le_trans hl (by decide)) (fun d m => by
    obtain ⟨r, _, rfl⟩ := List.mem_map.mp m
    refine ⟨some (.imm (csD cs)) :: some (.imm (rwD r)) :: a, by simp [tN, canSet], .dat (.str r.nm), some (.imm (csD cs)) :: some (.imm (rwD r)) :: a, ?_, rfl, rfl, rfl⟩
    match a, ha with
    | [b1, b2, b3, b4, b5, b6], _ =>
      simp [x_are_coins_2, runFn, startE, keepO, keepA, sRet, sRetN, sRetA, sRetNone, sSeq, sIf, sNx, sDrop, sSet, sTg, tN, canSet, sSetN, Md.bind, Md.ret, Md.opt, mVar, mC, mT, m2, m1, mIf, mAndV, mOrV, mNotV, mAndT, mOrT, mNotT, mChain, mCons, mNil, mCall, mCallN, mImm, mOwn, mTup, mLst, mLstN, mItems, mFrz, rs, im, rss, ims, ownD, argOf, argsOf, slotOf, isSlot, cellsBack, backA, mCallA, List.filterMap_cons, List.filterMap_nil, List.findIdx?_cons, List.findIdx?_nil, rwD, gIx_tup, atI, ixN])
  refine (mLc_eq (ds := cs.map rwD) it_tup rfl e).trans ?_
  rw [List.map_map, List.map_map]
  rfl
theorem c_coins3 {cs : List Rw} (hl : cs.length ≤ 1000) (nd : (cs.map (·.nm)).Nodup) :
    c_are_coins_3 [some (.imm (csD cs)), none, none, none, none, none, none, none] = .ok (.dK (aboveD cs)) [some (.imm (csD cs)), none, none, none, none, none, none, none] := by
  have e := dc_above (a0 := some (.imm (csD cs))) (a1 := none) (a2 := none) (a6 := none) (a7 := none) cs [] (by simpa using hl) nd (fun p m => by cases m)
  exact (mDc_eq (ds := cs.map rwD) it_tup rfl e).trans rfl
def coinsB (cs : List Rw) : Bool := decide (1 ≤ cs.length) && decide (cs.length ≤ 8) && cs.all rowB && risingB (cs.map (·.nm)) && forestB cs
theorem gAll_coins (ds : List D) : gAll [.list (ds.map fun d => .bool (isCoinB d))] = some (.bool (ds.all isCoinB)) := gAll_map isCoinB ds
theorem forestB_eq (cs : List Rw) : ((cs.map (·.nm)).all fun k => orFalse (climb cs cs.length k)) = forestB cs := by
  unfold forestB
  rw [List.all_map]
  rfl
theorem gLen_cs (cs : List Rw) : gLen [csD cs] = some (.int cs.length) := by
  unfold csD; rw [gLen_tup, List.length_map]
theorem isA_cs (cs : List Rw) : isA "tuple" (csD cs) = true := rfl
/-- the coins that have rows -/
theorem e_are_coins {cs : List Rw} (hg : goodD (csD cs) = true) : m_are_coins [.imm (csD cs)] = .ok (.imm (.bool (coinsB cs))) [none, none, none, none, none, none, none, none] := by
  obtain ⟨ht, hr⟩ := good_rows hg
  have hlen := (good_tup hg).2
  rw [List.length_map] at hlen
  have hall : (cs.map rwD).all isCoinB = cs.all rowB := by
    rw [List.all_map]
    congr 1
    funext r
    exact isCoin_row r
  have c1 : c_are_coins_1 [some (.imm (csD cs)), none, none, none, none, none, none, none] = .ok (.lst ((cs.map rwD).map fun d => .bool (isCoinB d))) [some (.imm (csD cs)), none, none, none, none, none, none, none] :=
    c_coins1 (ds := cs.map rwD) (good_tup hg).1 (by rw [List.length_map]; exact hlen) (a := [none, none, none, none, none, none]) rfl
  have c2 := c_coins2 (cs := cs) hlen (a := [none, none, none, none, none, none]) rfl
  have al := gAll_coins (cs.map rwD)
  rw [hall] at al
  generalize (cs.map rwD).map (fun d => PyData.bool (isCoinB d)) = bs at c1 al
  have er := e_is_rising (xs := cs.map (·.nm)) (by rw [List.length_map]; exact hlen)
  generalize (cs.map (·.nm)).map PyData.str = ns at c2 er
  show runFn 8 _ [.imm (csD cs)] = _
  unfold coinsB
  by_cases q1 : 1 ≤ cs.length
  case neg =>
    have q1' : ¬ (1 : Int) ≤ (cs.length : Nat) := by omega
    refine (runFn_rt (sSeq_rt (a := .imm (.bool false)) (ρ1 := [some (.imm (csD cs)), none, none, none, none, none, none, none]) ?_)).trans ?_
    · simp [runFn, startE, keepO, keepA, sRet, sRetN, sRetA, sRetNone, sSeq, sIf, sNx, sDrop, sSet, sTg, tN, canSet, sSetN, Md.bind, Md.ret, Md.opt, mVar, mC, mT, m2, m1, mIf, mAndV, mOrV, mNotV, mAndT, mOrT, mNotT, mChain, mCons, mNil, mCall, mCallN, mImm, mOwn, mTup, mLst, mLstN, mItems, mFrz, rs, im, rss, ims, ownD, argOf, argsOf, slotOf, isSlot, cellsBack, backA, mCallA, List.filterMap_cons, List.filterMap_nil, List.findIdx?_cons, List.findIdx?_nil, gEq_int, gNe_int, gLe_int, gLt_int, gGt_int, gGe_int, gAdd_int, gAddI_int, gSub_int, gNeg_int, gIx_tup, gIx_lst, gLen_tup, gLen_lst, gLen_dict, gIsN_eq, gNotN_eq, gLen_cs, isA_cs, mIsi, q1']
    · rw [decide_eq_false q1]; rfl
  have q1' : (1 : Int) ≤ (cs.length : Nat) := by omega
  by_cases q2 : cs.length ≤ 8
  case neg =>
    have q2' : ¬ ((cs.length : Nat) : Int) ≤ 8 := by omega
    refine (runFn_rt (sSeq_rt (a := .imm (.bool false)) (ρ1 := [some (.imm (csD cs)), none, none, none, none, none, none, none]) ?_)).trans ?_
    · simp [runFn, startE, keepO, keepA, sRet, sRetN, sRetA, sRetNone, sSeq, sIf, sNx, sDrop, sSet, sTg, tN, canSet, sSetN, Md.bind, Md.ret, Md.opt, mVar, mC, mT, m2, m1, mIf, mAndV, mOrV, mNotV, mAndT, mOrT, mNotT, mChain, mCons, mNil, mCall, mCallN, mImm, mOwn, mTup, mLst, mLstN, mItems, mFrz, rs, im, rss, ims, ownD, argOf, argsOf, slotOf, isSlot, cellsBack, backA, mCallA, List.filterMap_cons, List.filterMap_nil, List.findIdx?_cons, List.findIdx?_nil, gEq_int, gNe_int, gLe_int, gLt_int, gGt_int, gGe_int, gAdd_int, gAddI_int, gSub_int, gNeg_int, gIx_tup, gIx_lst, gLen_tup, gLen_lst, gLen_dict, gIsN_eq, gNotN_eq, gLen_cs, isA_cs, mIsi, q1', q2']
    · rw [decide_eq_false q2, Bool.and_false]; rfl
  have q2' : ((cs.length : Nat) : Int) ≤ 8 := by omega
  rw [decide_eq_true q1, decide_eq_true q2, Bool.true_and]
  cases q3 : cs.all rowB with
  | false =>
    rw [q3] at al
    refine (runFn_rt (sSeq_rt (a := .imm (.bool false)) (ρ1 := [some (.imm (csD cs)), none, none, none, none, none, none, none]) ?_)).trans ?_
    · simp [runFn, startE, keepO, keepA, sRet, sRetN, sRetA, sRetNone, sSeq, sIf, sNx, sDrop, sSet, sTg, tN, canSet, sSetN, Md.bind, Md.ret, Md.opt, mVar, mC, mT, m2, m1, mIf, mAndV, mOrV, mNotV, mAndT, mOrT, mNotT, mChain, mCons, mNil, mCall, mCallN, mImm, mOwn, mTup, mLst, mLstN, mItems, mFrz, rs, im, rss, ims, ownD, argOf, argsOf, slotOf, isSlot, cellsBack, backA, mCallA, List.filterMap_cons, List.filterMap_nil, List.findIdx?_cons, List.findIdx?_nil, gEq_int, gNe_int, gLe_int, gLt_int, gGt_int, gGe_int, gAdd_int, gAddI_int, gSub_int, gNeg_int, gIx_tup, gIx_lst, gLen_tup, gLen_lst, gLen_dict, gIsN_eq, gNotN_eq, gLen_cs, isA_cs, mIsi, q1', q2', c1, al]
    · rfl
  | true =>
    rw [q3] at al
    have st1 : ∀ f : Md Fw, sIf (mOrT (mNotT (mT (mIsi ["tuple"] (mVar 0)))) (mOrT (mNotT (mT (mChain gLe gLe (mC (.int 1)) (mCall gLen (mCons (mVar 0) mNil)) (mC (.int 8))))) (mNotT (mT (mCall gAll (mCons (mFrz c_are_coins_1) mNil)))))) f sNx
        [some (.imm (csD cs)), none, none, none, none, none, none, none] = .ok .nx [some (.imm (csD cs)), none, none, none, none, none, none, none] := fun f => by
      simp [runFn, startE, keepO, keepA, sRet, sRetN, sRetA, sRetNone, sSeq, sIf, sNx, sDrop, sSet, sTg, tN, canSet, sSetN, Md.bind, Md.ret, Md.opt, mVar, mC, mT, m2, m1, mIf, mAndV, mOrV, mNotV, mAndT, mOrT, mNotT, mChain, mCons, mNil, mCall, mCallN, mImm, mOwn, mTup, mLst, mLstN, mItems, mFrz, rs, im, rss, ims, ownD, argOf, argsOf, slotOf, isSlot, cellsBack, backA, mCallA, List.filterMap_cons, List.filterMap_nil, List.findIdx?_cons, List.findIdx?_nil, gEq_int, gNe_int, gLe_int, gLt_int, gGt_int, gGe_int, gAdd_int, gAddI_int, gSub_int, gNeg_int, gIx_tup, gIx_lst, gLen_tup, gLen_lst, gLen_dict, gIsN_eq, gNotN_eq, gLen_cs, isA_cs, mIsi, q1', q2', c1, al]
    cases q4 : risingB (cs.map (·.nm)) with
    | false =>
      rw [q4] at er
      refine run_rt (.imm (.bool false)) [some (.imm (csD cs)), none, none, none, none, none, none, none] (seq_nx _ (st1 _) (sSeq_rt ?_)) rfl
      simp [runFn, startE, keepO, keepA, sRet, sRetN, sRetA, sRetNone, sSeq, sIf, sNx, sDrop, sSet, sTg, tN, canSet, sSetN, Md.bind, Md.ret, Md.opt, mVar, mC, mT, m2, m1, mIf, mAndV, mOrV, mNotV, mAndT, mOrT, mNotT, mChain, mCons, mNil, mCall, mCallN, mImm, mOwn, mTup, mLst, mLstN, mItems, mFrz, rs, im, rss, ims, ownD, argOf, argsOf, slotOf, isSlot, cellsBack, backA, mCallA, List.filterMap_cons, List.filterMap_nil, List.findIdx?_cons, List.findIdx?_nil, c2, er]
    | true =>
      rw [q4] at er
      have c3 := c_coins3 (cs := cs) hlen (pw_nodup (rising_pw q4))
      obtain ⟨r, hr7, l2⟩ := loop2 ht hlen (a0 := some (.imm (csD cs))) (a1 := none) (a4 := none) (a5 := none) (cs.map (·.nm)) none none none (fun k m => by
        obtain ⟨r', m', rfl⟩ := List.mem_map.mp m
        exact (ht r' m').1)
      rw [forestB_eq] at l2
      have l2' : l_are_coins_2 [some (.imm (csD cs)), none, some (.own false (.dK (aboveD cs))), none, none, none, none, none] = .ok (if forestB cs = true then .nx else .rt (.imm (.bool false))) (some (.imm (csD cs)) :: r) := by
        refine Eq.trans ?_ l2
        rw [List.map_map, ← dk_above]
        show forL (tN 3) b_are_coins_2 (keysD (aboveD cs)) _ = _
        rw [keys_above]
        rfl
      have st2 : sIf (mNotT (mT (mImm (mCallA 1 m_is_rising (mCons (mFrz c_are_coins_2) mNil))))) (sRet (mC (.bool false))) sNx [some (.imm (csD cs)), none, none, none, none, none, none, none] = .ok .nx [some (.imm (csD cs)), none, none, none, none, none, none, none] := by
        simp [runFn, startE, keepO, keepA, sRet, sRetN, sRetA, sRetNone, sSeq, sIf, sNx, sDrop, sSet, sTg, tN, canSet, sSetN, Md.bind, Md.ret, Md.opt, mVar, mC, mT, m2, m1, mIf, mAndV, mOrV, mNotV, mAndT, mOrT, mNotT, mChain, mCons, mNil, mCall, mCallN, mImm, mOwn, mTup, mLst, mLstN, mItems, mFrz, rs, im, rss, ims, ownD, argOf, argsOf, slotOf, isSlot, cellsBack, backA, mCallA, List.filterMap_cons, List.filterMap_nil, List.findIdx?_cons, List.findIdx?_nil, c2, er]
      have st3 : sSetN 2 c_are_coins_3 [some (.imm (csD cs)), none, none, none, none, none, none, none] = .ok .nx [some (.imm (csD cs)), none, some (.own false (.dK (aboveD cs))), none, none, none, none, none] := by
        simp [runFn, startE, keepO, keepA, sRet, sRetN, sRetA, sRetNone, sSeq, sIf, sNx, sDrop, sSet, sTg, tN, canSet, sSetN, Md.bind, Md.ret, Md.opt, mVar, mC, mT, m2, m1, mIf, mAndV, mOrV, mNotV, mAndT, mOrT, mNotT, mChain, mCons, mNil, mCall, mCallN, mImm, mOwn, mTup, mLst, mLstN, mItems, mFrz, rs, im, rss, ims, ownD, argOf, argsOf, slotOf, isSlot, cellsBack, backA, mCallA, List.filterMap_cons, List.filterMap_nil, List.findIdx?_cons, List.findIdx?_nil, c3]
      have ke : keepO 1 (some (.imm (csD cs)) :: r) = [none, none, none, none, none, none, none, none] := by
        rw [keepO_1, hr7]; rfl
      rw [Bool.true_and, Bool.true_and]
      cases q5 : forestB cs with
      | false =>
        rw [q5, if_neg Bool.false_ne_true] at l2'
        refine run_rt (.imm (.bool false)) _ (seq_nx _ (st1 _) (seq_nx _ st2 (seq_nx _ st3 (sSeq_rt l2')))) ?_
        show Rs.ok _ (keepO 1 (some (.imm (csD cs)) :: r)) = _
        rw [ke]
        rfl
      | true =>
        rw [q5, if_pos rfl] at l2'
        refine run_rt (.imm (.bool true)) _ (seq_nx _ (st1 _) (seq_nx _ st2 (seq_nx _ st3 (seq_nx _ l2' (by simp [runFn, startE, keepO, keepA, sRet, sRetN, sRetA, sRetNone, sSeq, sIf, sNx, sDrop, sSet, sTg, tN, canSet, sSetN, Md.bind, Md.ret, Md.opt, mVar, mC, mT, m2, m1, mIf, mAndV, mOrV, mNotV, mAndT, mOrT, mNotT, mChain, mCons, mNil, mCall, mCallN, mImm, mOwn, mTup, mLst, mLstN, mItems, mFrz, rs, im, rss, ims, ownD, argOf, argsOf, slotOf, isSlot, cellsBack, backA, mCallA, List.filterMap_cons, List.filterMap_nil, List.findIdx?_cons, List.findIdx?_nil]; rfl))))) ?_
        show Rs.ok _ (keepO 1 (some (.imm (csD cs)) :: r)) = _
        rw [ke]
        rfl
end DV

set_option Elab.async false
set_option linter.all false
set_option maxRecDepth 100000
set_option maxHeartbeats 4000000
set_option autoImplicit false
/-! MxD: drawn coins. -/
namespace DV
open PySem L2
/-- coins as the program wants them -/
structure Coins (cs : List Rw) : Prop where
  good : goodD (csD cs) = true
  ok : coinsB cs = true
def rowLe (a b : Rw) : Bool := !decide (lets b.nm < lets a.nm)
theorem rowLe_trans (a b c : Rw) (h1 : rowLe a b = true) (h2 : rowLe b c = true) : rowLe a c = true := by
  unfold rowLe at *
  simp only [Bool.not_eq_true', decide_eq_false_iff_not] at *
  exact List.le_trans (l₁ := lets a.nm) (l₂ := lets b.nm) (l₃ := lets c.nm) h1 h2
theorem rowLe_total (a b : Rw) : (rowLe a b || rowLe b a) = true := by
  unfold rowLe
  simp only [Bool.or_eq_true, Bool.not_eq_true', decide_eq_false_iff_not]
  exact List.le_total (lets a.nm) (lets b.nm)
def sortRows (rs : List Rw) : List Rw := rs.mergeSort rowLe
theorem nodup_same {rs : List Rw} (nd : (rs.map (·.nm)).Nodup) {a b : Rw} (ha : a ∈ rs) (hb : b ∈ rs) (e : a.nm = b.nm) : a = b := by
  induction rs with
  | nil => cases ha
  | cons r rs ih =>
    rw [List.map_cons, List.nodup_cons] at nd
    rcases List.mem_cons.mp ha with ea | ha'
    · rcases List.mem_cons.mp hb with eb | hb'
      · rw [ea, eb]
      · subst ea
        exact absurd (List.mem_map.mpr ⟨b, hb', e.symm⟩) nd.1
    · rcases List.mem_cons.mp hb with eb | hb'
      · subst eb
        exact absurd (List.mem_map.mpr ⟨a, ha', e⟩) nd.1
      · exact ih nd.2 ha' hb'
theorem alike_rows (a b : Rw) : PySem.W.alike (rwD a) (rwD b) = true := by
  simp [rwD, PySem.W.alike, PySem.W.alikeAll]
theorem dataLe_rw (a b : Rw) (h : a.nm = b.nm → a = b) : PySem.W.dataLe false id (rwD a) (rwD b) = rowLe a b := by
  rw [PySem.W.dataLe_eq]
  show (!PySem.W.dataLt (rwD b) (rwD a)) = _
  by_cases e : b.nm = a.nm
  · have := h e.symm
    subst this
    have i1 : PySem.W.dataLt (rwD a) (rwD a) = false := by
      unfold PySem.W.dataLt
      exact PyProof.Rows.lex_irrefl _
    rw [i1]
    unfold rowLe
    rw [decide_eq_false (List.lt_irrefl _)]
  · have e2 : PyData.eqv (.str b.nm) (.str a.nm) = false := by rw [eqv_str, decide_eq_false e]
    unfold rwD
    rw [PySem.W.dataLt_tuple, PySem.W.dataLt_cons (by simp [PySem.W.alike]), e2, if_neg Bool.false_ne_true, PySem.W.dataLt_str]
    rfl
theorem sort_rows {rs : List Rw} (nd : (rs.map (·.nm)).Nodup) : (rs.map rwD).mergeSort (PySem.W.dataLe false id) = (sortRows rs).map rwD := by
  refine (List.map_mergeSort (fun a ha b hb => ?_)).symm
  exact (dataLe_rw a b fun e => nodup_same nd ha hb e).symm
theorem sortRows_perm (rs : List Rw) : (sortRows rs).Perm rs := List.mergeSort_perm _ _
theorem sortRows_rising {rs : List Rw} (nd : (rs.map (·.nm)).Nodup) : risingB ((sortRows rs).map (·.nm)) = true := by
  have p := List.pairwise_mergeSort (le := rowLe) rowLe_trans rowLe_total rs
  have nd2 : ((sortRows rs).map (·.nm)).Nodup := ((sortRows_perm rs).map _).nodup_iff.mpr nd
  refine pw_rising ?_
  rw [List.pairwise_map]
  have nd3 := List.pairwise_map.mp nd2
  refine (p.and nd3).imp fun {a b} ⟨h1, h2⟩ => ?_
  unfold rowLe at h1
  simp only [Bool.not_eq_true', decide_eq_false_iff_not] at h1
  by_cases q : lets a.nm < lets b.nm
  · exact q
  · exact absurd (lets_inj (List.le_antisymm (as := lets a.nm) (bs := lets b.nm) h1 q)) h2

theorem gPopAt_of {es : List D} {r : Int} {d : D} (h0 : 0 ≤ r) (h1 : r ≤ 1000) (h : es[r.toNat]? = some d) : gPopAt es [.int r] = some (d, es.eraseIdx r.toNat) := by
  have hl := (List.getElem?_eq_some_iff.mp h).1
  have hx : ixN es.length r = some r.toNat := by
    unfold ixN
    have : r < es.length := by omega
    simp [h0, this]
  show (if small62 r = true then match ixN es.length r with
    | some j => (es[j]?).map fun d => (d, es.eraseIdx j)
    | none => none
    else none) = _
  rw [if_pos (small62_int h0 (by omega)), hx]
  simp [h]
theorem gAppend_of {es : List D} {d : D} (h : es.length ≤ 100000) : gAppend es [d] = some (.none, es ++ [d]) := by
  show (if es.length < lim then some (PyData.none, es ++ [d]) else none) = _
  rw [if_pos (Nat.lt_of_le_of_lt h (by decide))]
theorem meth_eq {i : Nat} {g : List D → List D → Option (D × List D)} {fa : Md (List Opd)} {ρ ρ' : Env} {os : List Opd} {b b' : Bool} {es es' : List D} {ds : List D} {d : D} {es2 : List D}
    (h0 : ρ[i]? = some (some (.own b (.lst es)))) (ha : fa ρ = .ok os ρ') (hi : ρ'[i]? = some (some (.own b' (.lst es')))) (hs : ims ρ' os = some ds) (hg : g es' ds = some (d, es2)) :
    mMeth i g fa ρ = .ok (.dat d) (ρ'.set i (some (.own b' (.lst es2)))) := by
  unfold mMeth isLst Md.bind
  rw [h0]
  simp only [if_true]
  rw [ha]
  simp only [hi, hs, hg]
theorem strs_get {ns : List Str} {i : Nat} {x : Str} (h : ns[i]? = some x) : (ns.map PyData.str)[i]? = some (.str x) := by
  rw [List.getElem?_map, h]; rfl
theorem coins_turn1 {n : Int} {o : Own} {ns ls : List Str} {a1 a4 a5 a6 a7 : Option A} (hd : Dk n o) (hn : n ≤ 100000000000) (hne : ns ≠ []) (hl : ns.length ≤ 1000) (hl2 : ls.length ≤ 1000) :
    ∃ (j : Nat) (x : Str) (o' : Own), ns[j]? = some x ∧ Dk (n + 1) o' ∧
      b__law_coins_1 [some (.own true o), a1, some (.own false (.lst (ns.map .str))), some (.own false (.lst (ls.map .str))), a4, a5, a6, a7] =
        .ok .nx [some (.own true o'), a1, some (.own false (.lst ((ns.eraseIdx j).map .str))), some (.own false (.lst ((ls ++ [x]).map .str))), a4, a5, a6, a7] := by
  have hp : 0 < ns.length := List.length_pos_iff.mpr hne
  obtain ⟨r, o', h0, h1, dk, e⟩ := e_pick hd hn (s := (ns.length : Nat)) (by omega) (by omega)
  have hr : r.toNat < ns.length := by omega
  have hx : ns[r.toNat]? = some ns[r.toNat] := List.getElem?_eq_getElem hr
  refine ⟨r.toNat, ns[r.toNat], o', hx, dk, ?_⟩
  have pp := gPopAt_of h0 (by omega) (strs_get hx)
  have ga := gAppend_of (es := ls.map PyData.str) (d := .str ns[r.toNat]) (by rw [List.length_map]; omega)
  have m1 : mMeth 2 gPopAt (mCons (mImm (mCallA 2 m__law_pick (mCons (mVar 0) (mCons (mCall gLen (mCons (mVar 2) mNil)) mNil)))) mNil) [some (.own true o), a1, some (.own false (.lst (ns.map .str))), some (.own false (.lst (ls.map .str))), a4, a5, a6, a7] =
      .ok (.dat (.str ns[r.toNat])) [some (.own true o'), a1, some (.own false (.lst ((ns.map PyData.str).eraseIdx r.toNat))), some (.own false (.lst (ls.map .str))), a4, a5, a6, a7] := by
    refine meth_eq (ρ' := [some (.own true o'), a1, some (.own false (.lst (ns.map .str))), some (.own false (.lst (ls.map .str))), a4, a5, a6, a7]) (os := [.dat (.int r)]) rfl ?_ rfl rfl pp
    simp [runFn, startE, keepO, keepA, sRet, sRetN, sRetA, sRetNone, sSeq, sIf, sNx, sDrop, sSet, sTg, tN, canSet, sSetN, Md.bind, Md.ret, Md.opt, mVar, mC, mT, m2, m1, mIf, mAndV, mOrV, mNotV, mAndT, mOrT, mNotT, mChain, mCons, mNil, mCall, mCallN, mImm, mOwn, mTup, mLst, mLstN, mItems, mFrz, rs, im, rss, ims, ownD, argOf, argsOf, slotOf, isSlot, cellsBack, backA, mCallA, List.filterMap_cons, List.filterMap_nil, List.findIdx?_cons, List.findIdx?_nil, gEq_int, gNe_int, gLe_int, gLt_int, gGt_int, gGe_int, gAdd_int, gAddI_int, gSub_int, gNeg_int, gIx_tup, gIx_lst, gLen_tup, gLen_lst, gLen_dict, gIsN_eq, gNotN_eq, e]
  have m2 : mMeth 3 gAppend (mCons (mMeth 2 gPopAt (mCons (mImm (mCallA 2 m__law_pick (mCons (mVar 0) (mCons (mCall gLen (mCons (mVar 2) mNil)) mNil)))) mNil)) mNil) [some (.own true o), a1, some (.own false (.lst (ns.map .str))), some (.own false (.lst (ls.map .str))), a4, a5, a6, a7] =
      .ok (.dat .none) [some (.own true o'), a1, some (.own false (.lst ((ns.map PyData.str).eraseIdx r.toNat))), some (.own false (.lst (ls.map .str ++ [.str ns[r.toNat]]))), a4, a5, a6, a7] := by
    refine meth_eq (ρ' := [some (.own true o'), a1, some (.own false (.lst ((ns.map PyData.str).eraseIdx r.toNat))), some (.own false (.lst (ls.map .str))), a4, a5, a6, a7]) (os := [.dat (.str ns[r.toNat])]) rfl (cons_eq m1 nil_eq) rfl rfl ga
  refine (drop_eq m2).trans ?_
  rw [List.map_append, map_erase]
  rfl
def N8 : List Str := ["ant", "bee", "cent", "dime", "elk", "fox", "gnu", "hen"]
theorem range_get {lo : Int} {k : Nat} {i : Nat} {d : D} (h : (rangeD lo (lo + k))[i]? = some d) : i < k ∧ d = .int (lo + (i : Nat)) := by
  unfold rangeD at h
  rw [List.getElem?_map, show (lo + (k : Int) - lo).toNat = k by omega] at h
  cases e : (List.range k)[i]? with
  | none => rw [e] at h; cases h
  | some j =>
    rw [e] at h
    obtain ⟨hl, hj⟩ := List.getElem?_eq_some_iff.mp e
    rw [List.getElem_range] at hj
    subst hj
    rw [List.length_range] at hl
    exact ⟨hl, (Option.some.inj h).symm⟩
theorem range_len (lo : Int) (k : Nat) : (rangeD lo (lo + k)).length = k := by
  unfold rangeD
  rw [List.length_map, List.length_range]
  omega
theorem range0 (k : Nat) : rangeD 0 k = rangeD 0 (0 + k) := by rw [Int.zero_add]
/-- the kinds are drawn -/
theorem coins_loop1 {n : Int} {o : Own} {a1 a5 a6 a7 : Option A} (hd : Dk n o) (hn : n ≤ 10000000000) (k : Nat) (hk : k ≤ 8) :
    ∃ (ns ls : List Str) (o' : Own) (x : Option D), (ls ++ ns).Perm N8 ∧ ls.length = k ∧ Dk (n + k) o' ∧
      forL (tN 4) b__law_coins_1 (rangeD 0 k) [some (.own true o), a1, some (.own false (.lst (N8.map .str))), some (.own false (.lst [])), none, a5, a6, a7] =
        .ok .nx [some (.own true o'), a1, some (.own false (.lst (ns.map .str))), some (.own false (.lst (ls.map .str))), x.map .imm, a5, a6, a7] := by
  obtain ⟨ρ', e, ns, ls, o', x, h1, h2, h3, h4⟩ := forL_run (tg := tN 4) (body := b__law_coins_1) (fun i ρ => ∃ (ns ls : List Str) (o' : Own) (x : Option D), (ls ++ ns).Perm N8 ∧ ls.length = i ∧ Dk (n + i) o' ∧
      ρ = [some (.own true o'), a1, some (.own false (.lst (ns.map .str))), some (.own false (.lst (ls.map .str))), x.map .imm, a5, a6, a7])
    (rangeD 0 k) [some (.own true o), a1, some (.own false (.lst (N8.map .str))), some (.own false (.lst [])), none, a5, a6, a7] ⟨N8, [], o, none, .refl _, rfl, by simpa using hd, rfl⟩
    (fun i d ρ hd ⟨ns, ls, o1, x, p, hl, dk, e⟩ => by
      subst e
      rw [range0] at hd
      obtain ⟨hi, rfl⟩ := range_get hd
      have lp := p.length_eq
      rw [List.length_append] at lp
      have l8 : N8.length = 8 := rfl
      have hne : ns ≠ [] := fun e => by
        subst e
        rw [List.length_nil] at lp
        omega
      obtain ⟨j, y, o2, hj, dk2, eb⟩ := coins_turn1 (a1 := a1) (a4 := some (.imm (.int (0 + (i : Nat))))) (a5 := a5) (a6 := a6) (a7 := a7) dk (by omega) hne (by omega) (ls := ls) (by omega)
      refine ⟨_, _, ?_, .inl eb, ns.eraseIdx j, ls ++ [y], o2, some (.int (0 + (i : Nat))), ?_, ?_, ?_, rfl⟩
      · cases x <;> simp [tN, canSet]
      · have q := perm_erase hj
        rw [List.append_assoc]
        exact (List.Perm.append_left ls q).trans p
      · rw [List.length_append, List.length_singleton, hl]
      · refine dk2.mono ?_
        push_cast
        omega)
  rw [range0, range_len] at h2 h3
  exact ⟨ns, ls, o', x, h1, h2, h3, by rw [e, h4]⟩
/-! the rows -/
/-- a drawn row: its own kind's place is i -/
structure RowAt (ls : List Str) (i : Nat) (r : Rw) : Prop where
  nm : ls[i]? = some r.nm
  way : (r.up = "" ∧ r.mn = 0) ∨ (∃ j, j < i ∧ ls[j]? = some r.up) ∧ 2 ≤ r.mn ∧ r.mn ≤ 9
theorem coins_turn2 {n : Int} {o : Own} {ls : List Str} {qs : List Rw} {a1 a2 a4 : Option A} {i : Nat} {x : Str} (hd : Dk n o) (hn : n ≤ 10000000000) (hx : ls[i]? = some x) (hi : i ≤ 1000) (hl : qs.length ≤ 1000) :
    ∃ (r : Rw) (o' : Own), RowAt ls i r ∧ Dk (n + 4) o' ∧
      b__law_coins_2 [some (.own true o), a1, a2, some (.imm (.list (ls.map .str))), a4, some (.own false (.lst (qs.map rwD))), some (.imm (.int (i : Nat))), some (.imm (.str x))] =
        .ok .nx [some (.own true o'), a1, a2, some (.imm (.list (ls.map .str))), a4, some (.own false (.lst ((qs ++ [r]).map rwD))), some (.imm (.int (i : Nat))), some (.imm (.str x))] := by
  have flat : ∀ (o' : Own), (sDrop (mMeth 5 gAppend (mCons (mTup (mCons (mVar 7) (mCons (mC (.int 0)) (mCons (mC (.str ("" : Str))) mNil)))) mNil)))
      [some (.own true o'), a1, a2, some (.imm (.list (ls.map .str))), a4, some (.own false (.lst (qs.map rwD))), some (.imm (.int (i : Nat))), some (.imm (.str x))] =
      .ok .nx [some (.own true o'), a1, a2, some (.imm (.list (ls.map .str))), a4, some (.own false (.lst ((qs ++ [(⟨x, 0, ""⟩ : Rw)]).map rwD))), some (.imm (.int (i : Nat))), some (.imm (.str x))] := fun o' => by
    have ga := gAppend_of (es := qs.map rwD) (d := rwD ⟨x, 0, ""⟩) (by rw [List.length_map]; omega)
    refine (drop_eq (meth_eq (ρ' := [some (.own true o'), a1, a2, some (.imm (.list (ls.map .str))), a4, some (.own false (.lst (qs.map rwD))), some (.imm (.int (i : Nat))), some (.imm (.str x))]) (os := [.dat (rwD ⟨x, 0, ""⟩)]) rfl (cons_eq (ρ1 := [some (.own true o'), a1, a2, some (.imm (.list (ls.map .str))), a4, some (.own false (.lst (qs.map rwD))), some (.imm (.int (i : Nat))), some (.imm (.str x))]) ?_ nil_eq) rfl rfl ga)).trans ?_
    · simp [runFn, startE, keepO, keepA, sRet, sRetN, sRetA, sRetNone, sSeq, sIf, sNx, sDrop, sSet, sTg, tN, canSet, sSetN, Md.bind, Md.ret, Md.opt, mVar, mC, mT, m2, m1, mIf, mAndV, mOrV, mNotV, mAndT, mOrT, mNotT, mChain, mCons, mNil, mCall, mCallN, mImm, mOwn, mTup, mLst, mLstN, mItems, mFrz, rs, im, rss, ims, ownD, argOf, argsOf, slotOf, isSlot, cellsBack, backA, mCallA, List.filterMap_cons, List.filterMap_nil, List.findIdx?_cons, List.findIdx?_nil, lim, rwD]
    · rw [List.map_append]
      rfl
  by_cases h0 : i = 0
  · refine ⟨⟨x, 0, ""⟩, o, ⟨hx, .inl ⟨rfl, rfl⟩⟩, hd.mono (by omega), ?_⟩
    refine (sIf_t (ρ1 := [some (.own true o), a1, a2, some (.imm (.list (ls.map .str))), a4, some (.own false (.lst (qs.map rwD))), some (.imm (.int (i : Nat))), some (.imm (.str x))]) ?_).trans (flat o)
    subst h0
    simp [runFn, startE, keepO, keepA, sRet, sRetN, sRetA, sRetNone, sSeq, sIf, sNx, sDrop, sSet, sTg, tN, canSet, sSetN, Md.bind, Md.ret, Md.opt, mVar, mC, mT, m2, m1, mIf, mAndV, mOrV, mNotV, mAndT, mOrT, mNotT, mChain, mCons, mNil, mCall, mCallN, mImm, mOwn, mTup, mLst, mLstN, mItems, mFrz, rs, im, rss, ims, ownD, argOf, argsOf, slotOf, isSlot, cellsBack, backA, mCallA, List.filterMap_cons, List.filterMap_nil, List.findIdx?_cons, List.findIdx?_nil, gEq_int, gNe_int, gLe_int, gLt_int, gGt_int, gGe_int, gAdd_int, gAddI_int, gSub_int, gNeg_int, gIx_tup, gIx_lst, gLen_tup, gLen_lst, gLen_dict, gIsN_eq, gNotN_eq]
  have h0' : ¬ ((i : Nat) : Int) = 0 := by omega
  obtain ⟨r1, o1, r10, r11, d1, e1⟩ := e_pick hd (by omega) (s := 7) (by decide) (by decide)
  by_cases hz : r1 = 0
  · refine ⟨⟨x, 0, ""⟩, o1, ⟨hx, .inl ⟨rfl, rfl⟩⟩, d1.mono (by omega), ?_⟩
    refine (sIf_t (ρ1 := [some (.own true o1), a1, a2, some (.imm (.list (ls.map .str))), a4, some (.own false (.lst (qs.map rwD))), some (.imm (.int (i : Nat))), some (.imm (.str x))]) ?_).trans (flat o1)
    subst hz
    simp [runFn, startE, keepO, keepA, sRet, sRetN, sRetA, sRetNone, sSeq, sIf, sNx, sDrop, sSet, sTg, tN, canSet, sSetN, Md.bind, Md.ret, Md.opt, mVar, mC, mT, m2, m1, mIf, mAndV, mOrV, mNotV, mAndT, mOrT, mNotT, mChain, mCons, mNil, mCall, mCallN, mImm, mOwn, mTup, mLst, mLstN, mItems, mFrz, rs, im, rss, ims, ownD, argOf, argsOf, slotOf, isSlot, cellsBack, backA, mCallA, List.filterMap_cons, List.filterMap_nil, List.findIdx?_cons, List.findIdx?_nil, gEq_int, gNe_int, gLe_int, gLt_int, gGt_int, gGe_int, gAdd_int, gAddI_int, gSub_int, gNeg_int, gIx_tup, gIx_lst, gLen_tup, gLen_lst, gLen_dict, gIsN_eq, gNotN_eq, e1, h0, h0']
  obtain ⟨r2, o2, r20, r21, d2, e2⟩ := e_pick d1 (by omega) (s := 8) (by decide) (by decide)
  obtain ⟨k, m, o3, hk, d3, e3⟩ := e_one (ds := [.int 2, .int 2, .int 3, .int 5, .int (2 + r2)]) d2 (by omega) (by simp) (by simp)
  have hm : ∃ v : Int, m = .int v ∧ 2 ≤ v ∧ v ≤ 9 := by
    match k, hk with
    | 0, hk => cases hk; exact ⟨2, rfl, by omega, by omega⟩
    | 1, hk => cases hk; exact ⟨2, rfl, by omega, by omega⟩
    | 2, hk => cases hk; exact ⟨3, rfl, by omega, by omega⟩
    | 3, hk => cases hk; exact ⟨5, rfl, by omega, by omega⟩
    | 4, hk => cases hk; exact ⟨2 + r2, rfl, by omega, by omega⟩
    | k + 5, hk => simp at hk
  obtain ⟨v, rfl, v0, v1⟩ := hm
  obtain ⟨r4, o4, r40, r41, d4, e4⟩ := e_pick d3 (by omega) (s := (i : Nat)) (by omega) (by omega)
  have hil := (List.getElem?_eq_some_iff.mp hx).1
  have hj : r4.toNat < ls.length := by omega
  have hy : ls[r4.toNat]? = some ls[r4.toNat] := List.getElem?_eq_getElem hj
  have ha : atI (ls.map PyData.str) r4 = some (.str ls[r4.toNat]) := by
    rw [atI_nat' r40 (by rw [List.length_map]; omega)]
    exact strs_get hy
  have ga := gAppend_of (es := qs.map rwD) (d := rwD ⟨x, v, ls[r4.toNat]⟩) (by rw [List.length_map]; omega)
  refine ⟨⟨x, v, ls[r4.toNat]⟩, o4, ⟨hx, .inr ⟨⟨r4.toNat, by omega, hy⟩, v0, v1⟩⟩, d4.mono (by omega), ?_⟩
  refine (sIf_f (ρ1 := [some (.own true o1), a1, a2, some (.imm (.list (ls.map .str))), a4, some (.own false (.lst (qs.map rwD))), some (.imm (.int (i : Nat))), some (.imm (.str x))]) ?_).trans ?_
  · simp [runFn, startE, keepO, keepA, sRet, sRetN, sRetA, sRetNone, sSeq, sIf, sNx, sDrop, sSet, sTg, tN, canSet, sSetN, Md.bind, Md.ret, Md.opt, mVar, mC, mT, m2, m1, mIf, mAndV, mOrV, mNotV, mAndT, mOrT, mNotT, mChain, mCons, mNil, mCall, mCallN, mImm, mOwn, mTup, mLst, mLstN, mItems, mFrz, rs, im, rss, ims, ownD, argOf, argsOf, slotOf, isSlot, cellsBack, backA, mCallA, List.filterMap_cons, List.filterMap_nil, List.findIdx?_cons, List.findIdx?_nil, gEq_int, gNe_int, gLe_int, gLt_int, gGt_int, gGe_int, gAdd_int, gAddI_int, gSub_int, gNeg_int, gIx_tup, gIx_lst, gLen_tup, gLen_lst, gLen_dict, gIsN_eq, gNotN_eq, e1, h0, h0', hz]
  refine (drop_eq (meth_eq (ρ' := [some (.own true o4), a1, a2, some (.imm (.list (ls.map .str))), a4, some (.own false (.lst (qs.map rwD))), some (.imm (.int (i : Nat))), some (.imm (.str x))]) (os := [.dat (rwD ⟨x, v, ls[r4.toNat]⟩)]) rfl (cons_eq (ρ1 := [some (.own true o4), a1, a2, some (.imm (.list (ls.map .str))), a4, some (.own false (.lst (qs.map rwD))), some (.imm (.int (i : Nat))), some (.imm (.str x))]) ?_ nil_eq) rfl rfl ga)).trans ?_
  · simp [runFn, startE, keepO, keepA, sRet, sRetN, sRetA, sRetNone, sSeq, sIf, sNx, sDrop, sSet, sTg, tN, canSet, sSetN, Md.bind, Md.ret, Md.opt, mVar, mC, mT, m2, m1, mIf, mAndV, mOrV, mNotV, mAndT, mOrT, mNotT, mChain, mCons, mNil, mCall, mCallN, mImm, mOwn, mTup, mLst, mLstN, mItems, mFrz, rs, im, rss, ims, ownD, argOf, argsOf, slotOf, isSlot, cellsBack, backA, mCallA, List.filterMap_cons, List.filterMap_nil, List.findIdx?_cons, List.findIdx?_nil, gEq_int, gNe_int, gLe_int, gLt_int, gGt_int, gGe_int, gAdd_int, gAddI_int, gSub_int, gNeg_int, gIx_tup, gIx_lst, gLen_tup, gLen_lst, gLen_dict, gIsN_eq, gNotN_eq, lim, rwD, e2, e3, e4, ha]
  · rw [List.map_append]
    rfl
theorem enum_get : ∀ {ds : List D} {k i : Nat} {d : D}, (enumD k ds)[i]? = some d → ∃ x, ds[i]? = some x ∧ d = .tuple [.int ((k + i : Nat) : Int), x]
  | [], _, _, _, h => by simp [enumD] at h
  | x :: r, k, 0, d, h => by
    have : PyData.tuple [.int (k : Nat), x] = d := Option.some.inj h
    exact ⟨x, rfl, this.symm⟩
  | x :: r, k, i + 1, d, h => by
    have h' : (enumD (k + 1) r)[i]? = some d := h
    obtain ⟨y, e, q⟩ := enum_get h'
    refine ⟨y, e, ?_⟩
    rw [q]
    congr 3
    omega
theorem enum_len : ∀ (ds : List D) (k : Nat), (enumD k ds).length = ds.length
  | [], _ => rfl
  | _ :: r, k => by
    show (enumD (k + 1) r).length + 1 = r.length + 1
    rw [enum_len r]
theorem coins_loop2 {n : Int} {o : Own} {ls : List Str} {a1 a2 a4 : Option A} (hd : Dk n o) (hn : n ≤ 1000000000) (hl : ls.length ≤ 8) :
    ∃ (qs : List Rw) (o' : Own) (x y : Option D), qs.length = ls.length ∧ (∀ i r, qs[i]? = some r → RowAt ls i r) ∧ Dk (n + 32) o' ∧
      forL (tTupT 2 (tsCons (tN 6) (tsCons (tN 7) tsNil))) b__law_coins_2 (enumD 0 (ls.map .str)) [some (.own true o), a1, a2, some (.imm (.list (ls.map .str))), a4, some (.own false (.lst [])), none, none] =
        .ok .nx [some (.own true o'), a1, a2, some (.imm (.list (ls.map .str))), a4, some (.own false (.lst (qs.map rwD))), x.map .imm, y.map .imm] := by
  obtain ⟨ρ', e, qs, o', x, y, h1, h2, h3, h4⟩ := forL_run (tg := tTupT 2 (tsCons (tN 6) (tsCons (tN 7) tsNil))) (body := b__law_coins_2) (fun i ρ => ∃ (qs : List Rw) (o' : Own) (x y : Option D), qs.length = i ∧ (∀ i r, qs[i]? = some r → RowAt ls i r) ∧ Dk (n + 4 * i) o' ∧
      ρ = [some (.own true o'), a1, a2, some (.imm (.list (ls.map .str))), a4, some (.own false (.lst (qs.map rwD))), x.map .imm, y.map .imm])
    (enumD 0 (ls.map .str)) [some (.own true o), a1, a2, some (.imm (.list (ls.map .str))), a4, some (.own false (.lst [])), none, none] ⟨[], o, none, none, rfl, fun i r h => by simp at h, by simpa using hd, rfl⟩
    (fun i d ρ hd ⟨qs, o1, x, y, hl2, hr, dk, e⟩ => by
      subst e
      obtain ⟨z, hz, rfl⟩ := enum_get hd
      rw [List.getElem?_map] at hz
      cases ez : ls[i]? with
      | none => rw [ez] at hz; cases hz
      | some w =>
        rw [ez] at hz
        have hz : PyData.str w = z := Option.some.inj hz
        subst hz
        have hil := (List.getElem?_eq_some_iff.mp ez).1
        obtain ⟨r, o2, ra, dk2, eb⟩ := coins_turn2 (a1 := a1) (a2 := a2) (a4 := a4) (qs := qs) dk (by omega) ez (by omega) (by omega)
        refine ⟨_, _, ?_, .inl eb, qs ++ [r], o2, some (.int (i : Nat)), some (.str w), ?_, ?_, ?_, rfl⟩
        · rw [Nat.zero_add]
          cases x <;> cases y <;> simp [tTupT, tsCons, tsNil, tN, canSet]
        · rw [List.length_append, List.length_singleton, hl2]
        · intro j q hq
          by_cases hj : j < qs.length
          · rw [List.getElem?_append_left hj] at hq
            exact hr j q hq
          · rw [List.getElem?_append_right (by omega)] at hq
            have : j - qs.length = 0 := by
              cases e0 : j - qs.length with
              | zero => rfl
              | succ m => rw [e0] at hq; simp at hq
            rw [this] at hq
            have : r = q := Option.some.inj hq
            subst this
            have : j = i := by omega
            subst this
            exact ra
        · refine dk2.mono ?_
          push_cast
          omega)
  rw [enum_len, List.length_map] at h1 h3
  exact ⟨qs, o', x, y, h1, h2, h3.mono (by omega), by rw [e, h4]⟩
end DV

set_option Elab.async false
set_option linter.all false
set_option maxRecDepth 100000
set_option maxHeartbeats 4000000
set_option autoImplicit false
/-! MxD2: drawn coins are coins. -/
namespace DV
open PySem L2
theorem row_found {cs : List Rw} (nd : (cs.map (·.nm)).Nodup) {r : Rw} (h : r ∈ cs) : rowAt cs r.nm = some r := by
  unfold rowAt
  cases e : cs.find? fun q => decide (q.nm = r.nm) with
  | none =>
    rw [List.find?_eq_none] at e
    exact absurd (decide_eq_true rfl) (e r h)
  | some q =>
    have m := List.mem_of_find?_eq_some e
    have p : q.nm = r.nm := by simpa using List.find?_some e
    rw [nodup_same nd m h p]
theorem rows_names {ls : List Str} {qs : List Rw} (hl : qs.length = ls.length) (h : ∀ i r, qs[i]? = some r → RowAt ls i r) : qs.map (·.nm) = ls := by
  refine List.ext_getElem? fun i => ?_
  rw [List.getElem?_map]
  cases e : qs[i]? with
  | none =>
    rw [List.getElem?_eq_none_iff] at e
    exact (List.getElem?_eq_none (by omega)).symm
  | some r => exact (h i r e).nm.symm
theorem n8_ok : ∀ s ∈ N8, nameB s = true ∧ s ≠ "" ∧ PyData.strOk s = true ∧ s.length ≤ 1000 := by decide +kernel
theorem n8_nodup : N8.Nodup := by decide +kernel
theorem climb_rows {ls : List Str} {cs : List Rw} (nd : (cs.map (·.nm)).Nodup) (hne : ∀ s ∈ ls, s ≠ "") (h : ∀ p s, ls[p]? = some s → ∃ r, r ∈ cs ∧ RowAt ls p r ∧ r.nm = s) :
    ∀ (t : Nat) (s : Str), (s = "" ∨ ∃ p, p < t ∧ ls[p]? = some s) → climb cs t s = some "" := fun t => by
  induction t with
  | zero =>
    intro s q
    rcases q with q | ⟨p, q, _⟩
    · rw [q]; rfl
    · omega
  | succ t ih =>
    intro s q
    rcases q with q | ⟨p, q, e⟩
    · have u : up1 cs s = "" := by unfold up1; rw [if_pos q]
      unfold climb
      rw [u, if_neg (fun z => z.1 rfl)]
      exact ih _ (.inl rfl)
    · obtain ⟨r, m, ra, rn⟩ := h p s e
      have hs : s ≠ "" := hne s (List.mem_of_getElem? e)
      have u : up1 cs s = r.up := by
        unfold up1
        rw [if_neg hs, ← rn, row_found nd m]
      unfold climb
      rw [u]
      rcases ra.way with ⟨w, _⟩ | ⟨⟨j, hj, ej⟩, _, _⟩
      · rw [if_neg (fun z => z.1 w)]
        exact ih _ (.inl w)
      · obtain ⟨r2, m2, ra2, rn2⟩ := h j _ ej
        have i2 : inN cs r.up = true := by
          unfold inN
          rw [← rn2, row_found nd m2]
          rfl
        rw [if_neg (fun z => by rw [i2] at z; exact Bool.noConfusion z.2)]
        exact ih _ (.inr ⟨j, by omega, ej⟩)
theorem coins_drawn {ls : List Str} {qs : List Rw} (hl : qs.length = ls.length) (h1 : 1 ≤ ls.length) (h8 : ls.length ≤ 8) (hn : ∀ s ∈ ls, s ∈ N8) (nd : ls.Nodup) (h : ∀ i r, qs[i]? = some r → RowAt ls i r) : Coins (sortRows qs) := by
  have hnm := rows_names hl h
  have nq : (qs.map (·.nm)).Nodup := by rw [hnm]; exact nd
  have pq := sortRows_perm qs
  have nd2 : ((sortRows qs).map (·.nm)).Nodup := (pq.map _).nodup_iff.mpr nq
  have at_ : ∀ r ∈ sortRows qs, ∃ i, RowAt ls i r := fun r m => by
    obtain ⟨i, e⟩ := List.mem_iff_getElem?.mp (pq.mem_iff.mp m)
    exact ⟨i, h i r e⟩
  have up_in : ∀ r ∈ sortRows qs, r.up = "" ∨ r.up ∈ N8 := fun r m => by
    obtain ⟨i, ra⟩ := at_ r m
    rcases ra.way with ⟨w, _⟩ | ⟨⟨j, _, ej⟩, _⟩
    · exact .inl w
    · exact .inr (hn _ (List.mem_of_getElem? ej))
  have nm_in : ∀ r ∈ sortRows qs, r.nm ∈ N8 := fun r m => by
    obtain ⟨i, ra⟩ := at_ r m
    exact hn _ (List.mem_of_getElem? ra.nm)
  refine ⟨?_, ?_⟩
  · unfold csD goodD
    rw [Bool.and_eq_true, goodDs_iff, decide_eq_true_eq, List.length_map, pq.length_eq, hl]
    refine ⟨fun d m => ?_, by omega⟩
    obtain ⟨r, mr, rfl⟩ := List.mem_map.mp m
    have g1 := n8_ok _ (nm_in r mr)
    have g2 : PyData.strOk r.up = true ∧ r.up.length ≤ 1000 := by
      rcases up_in r mr with e | e
      · rw [e]; exact ⟨strOk_nil, by decide⟩
      · exact (n8_ok _ e).2.2
    simp [rwD, goodD, goodDs, g1.2.2.1, g1.2.2.2, g2.1, g2.2]
  · unfold coinsB
    rw [pq.length_eq, hl, decide_eq_true h1, decide_eq_true h8, sortRows_rising nq]
    have a1 : (sortRows qs).all rowB = true := List.all_eq_true.mpr fun r m => by
      obtain ⟨i, ra⟩ := at_ r m
      unfold rowB
      rw [(n8_ok _ (nm_in r m)).1, Bool.true_and]
      rcases ra.way with ⟨w, z⟩ | ⟨⟨j, _, ej⟩, v0, v1⟩
      · rw [if_pos w, decide_eq_true z]
      · rw [if_neg (n8_ok _ (hn _ (List.mem_of_getElem? ej))).2.1, decide_eq_true v0, decide_eq_true v1]
        rfl
    have a2 : forestB (sortRows qs) = true := List.all_eq_true.mpr fun r m => by
      obtain ⟨i, ra⟩ := at_ r m
      have hi := (List.getElem?_eq_some_iff.mp ra.nm).1
      have := climb_rows (ls := ls) nd2 (fun s m => (n8_ok s (hn s m)).2.1) (fun p s e => by
        have hp := (List.getElem?_eq_some_iff.mp e).1
        have hq : qs[p]? = some qs[p] := List.getElem?_eq_getElem (by omega)
        have rp := h p _ hq
        refine ⟨qs[p], pq.mem_iff.mpr (List.mem_of_getElem? hq), rp, ?_⟩
        have := rp.nm
        rw [e] at this
        exact (Option.some.inj this).symm) (sortRows qs).length r.nm (.inr ⟨i, by rw [pq.length_eq, hl]; exact hi, ra.nm⟩)
      rw [this]
      rfl
    rw [a1, a2]
    rfl
theorem gSorted_rows {qs : List Rw} (hl : ∀ r ∈ qs, PyData.strOk r.nm = true ∧ PyData.strOk r.up = true) (nd : (qs.map (·.nm)).Nodup) : gSorted [.list (qs.map rwD)] = some (.lst ((sortRows qs).map rwD)) := by
  have lay : PyData.canLayAll0 (qs.map rwD) = true := by
    have : ∀ rs : List Rw, (∀ r ∈ rs, PyData.strOk r.nm = true ∧ PyData.strOk r.up = true) → PyData.canLayAll0 (rs.map rwD) = true := fun rs => by
      induction rs with
      | nil => intro _; rfl
      | cons r rs ih =>
        intro h
        have := h r (.head _)
        rw [List.map_cons]
        show (PyData.canLay0 (rwD r) && PyData.canLayAll0 (rs.map rwD)) = true
        rw [ih fun q m => h q (.tail _ m), Bool.and_true]
        show (PyData.strOk r.nm && (true && (PyData.strOk r.up && true))) = true
        rw [this.1, this.2]
        rfl
    exact this qs hl
  have ok : okSort (qs.map rwD) = true := by
    unfold okSort
    rw [lay, Bool.and_true]
    have e1 : ((qs.map rwD).all fun d => (qs.map rwD).all fun d' => PySem.W.alike d d') = true := List.all_eq_true.mpr fun d m => List.all_eq_true.mpr fun d' m' => by
      obtain ⟨a, _, rfl⟩ := List.mem_map.mp m
      obtain ⟨b, _, rfl⟩ := List.mem_map.mp m'
      exact alike_rows a b
    have e2 : (qs.map rwD).all tupOne = true := List.all_eq_true.mpr fun d m => by
      obtain ⟨a, _, rfl⟩ := List.mem_map.mp m
      rfl
    have e3 : ((qs.map rwD).all fun d => decide (d.depth ≤ 8)) = true := List.all_eq_true.mpr fun d m => by
      obtain ⟨a, _, rfl⟩ := List.mem_map.mp m
      exact decide_eq_true (by show 1 ≤ 8; omega)
    rw [e1, e2, e3]
    rfl
  show (if okSort (qs.map rwD) = true then some (Own.lst ((qs.map rwD).mergeSort (PySem.W.dataLe false id))) else none) = _
  rw [if_pos ok, sort_rows nd]
theorem e_coins {n : Int} {o : Own} {m : Int} (hd : Dk n o) (hn : n ≤ 100000000) (h1 : 1 ≤ m) (h8 : m ≤ 8) :
    ∃ (cs : List Rw) (o' : Own), Coins cs ∧ (cs.length : Int) ≤ m ∧ Dk (n + 50) o' ∧ m__law_coins [.own true o, .imm (.int m)] = .ok (.imm (csD cs)) [some (.own true o'), none, none, none, none, none, none, none] := by
  obtain ⟨r, o1, r0, r1, d1, e1⟩ := e_pick hd (by omega) (s := m) (by omega) (by omega)
  obtain ⟨k, hk⟩ : ∃ k : Nat, 1 + r = (k : Int) := ⟨(1 + r).toNat, by omega⟩
  obtain ⟨ns, ls, o2, x, p, hl, d2, e2⟩ := coins_loop1 (a1 := some (.imm (.int m))) (a5 := none) (a6 := none) (a7 := none) d1 (by omega) k (by omega)
  obtain ⟨qs, o3, y, z, hq, hr, d3, e3⟩ := coins_loop2 (ls := ls) (a1 := some (.imm (.int m))) (a2 := some (.own false (.lst (ns.map .str)))) (a4 := x.map .imm) d2 (by omega) (by omega)
  have hin : ∀ s ∈ ls, s ∈ N8 := fun s m => p.mem_iff.mp (List.mem_append_left _ m)
  have nd : ls.Nodup := (List.nodup_append.mp (p.nodup_iff.mpr n8_nodup)).1
  have co := coins_drawn hq (by omega) (by omega) hin nd hr
  have hlen : (sortRows qs).length = ls.length := by rw [(sortRows_perm qs).length_eq, hq]
  refine ⟨sortRows qs, o3, co, by rw [hlen]; omega, d3.mono (by omega), ?_⟩
  have st : (N8.map PyData.str) = [.str ("ant" : Str), .str ("bee" : Str), .str ("cent" : Str), .str ("dime" : Str), .str ("elk" : Str), .str ("fox" : Str), .str ("gnu" : Str), .str ("hen" : Str)] := rfl
  have s62 : small62 (1 + r) = true := small62_int (by omega) (by omega)
  have gs := gSorted_rows (qs := qs) (fun r m => by
    have := good_rows co.good
    exact this.1 r ((sortRows_perm qs).mem_iff.mpr m)) (by rw [rows_names hq hr]; exact nd)
  refine run_rt (.imm (csD (sortRows qs))) [some (.own true o3), some (.imm (.int m)), some (.own false (.lst (ns.map .str))), some (.imm (.list (ls.map .str))), x.map .imm, some (.own false (.lst (qs.map rwD))), y.map .imm, z.map .imm] ?_ ?_
  · refine seq_nx [some (.own true o), some (.imm (.int m)), some (.own false (.lst (N8.map .str))), none, none, none, none, none] ?_ ?_
    · rw [st]; simp [runFn, startE, keepO, keepA, sRet, sRetN, sRetA, sRetNone, sSeq, sIf, sNx, sDrop, sSet, sTg, tN, canSet, sSetN, Md.bind, Md.ret, Md.opt, mVar, mC, mT, m2, m1, mIf, mAndV, mOrV, mNotV, mAndT, mOrT, mNotT, mChain, mCons, mNil, mCall, mCallN, mImm, mOwn, mTup, mLst, mLstN, mItems, mFrz, rs, im, rss, ims, ownD, argOf, argsOf, slotOf, isSlot, cellsBack, backA, mCallA, List.filterMap_cons, List.filterMap_nil, List.findIdx?_cons, List.findIdx?_nil, lim]
    refine seq_nx [some (.own true o), some (.imm (.int m)), some (.own false (.lst (N8.map .str))), some (.own false (.lst [])), none, none, none, none] ?_ ?_
    · simp [runFn, startE, keepO, keepA, sRet, sRetN, sRetA, sRetNone, sSeq, sIf, sNx, sDrop, sSet, sTg, tN, canSet, sSetN, Md.bind, Md.ret, Md.opt, mVar, mC, mT, m2, m1, mIf, mAndV, mOrV, mNotV, mAndT, mOrT, mNotT, mChain, mCons, mNil, mCall, mCallN, mImm, mOwn, mTup, mLst, mLstN, mItems, mFrz, rs, im, rss, ims, ownD, argOf, argsOf, slotOf, isSlot, cellsBack, backA, mCallA, List.filterMap_cons, List.filterMap_nil, List.findIdx?_cons, List.findIdx?_nil, lim]
    refine seq_nx [some (.own true o2), some (.imm (.int m)), some (.own false (.lst (ns.map .str))), some (.own false (.lst (ls.map .str))), x.map .imm, none, none, none] ?_ ?_
    · refine (sFor_eq (range1_eq (ρ' := [some (.own true o1), some (.imm (.int m)), some (.own false (.lst (N8.map .str))), some (.own false (.lst [])), none, none, none, none]) (os := [.dat (.int (1 + r))]) ?_ rfl s62)).trans ?_
      · simp [runFn, startE, keepO, keepA, sRet, sRetN, sRetA, sRetNone, sSeq, sIf, sNx, sDrop, sSet, sTg, tN, canSet, sSetN, Md.bind, Md.ret, Md.opt, mVar, mC, mT, m2, m1, mIf, mAndV, mOrV, mNotV, mAndT, mOrT, mNotT, mChain, mCons, mNil, mCall, mCallN, mImm, mOwn, mTup, mLst, mLstN, mItems, mFrz, rs, im, rss, ims, ownD, argOf, argsOf, slotOf, isSlot, cellsBack, backA, mCallA, List.filterMap_cons, List.filterMap_nil, List.findIdx?_cons, List.findIdx?_nil, gEq_int, gNe_int, gLe_int, gLt_int, gGt_int, gGe_int, gAdd_int, gAddI_int, gSub_int, gNeg_int, gIx_tup, gIx_lst, gLen_tup, gLen_lst, gLen_dict, gIsN_eq, gNotN_eq, e1]
      · rw [hk]; exact e2
    refine seq_nx [some (.own true o2), some (.imm (.int m)), some (.own false (.lst (ns.map .str))), some (.own false (.lst (ls.map .str))), x.map .imm, some (.own false (.lst [])), none, none] ?_ ?_
    · simp [runFn, startE, keepO, keepA, sRet, sRetN, sRetA, sRetNone, sSeq, sIf, sNx, sDrop, sSet, sTg, tN, canSet, sSetN, Md.bind, Md.ret, Md.opt, mVar, mC, mT, m2, m1, mIf, mAndV, mOrV, mNotV, mAndT, mOrT, mNotT, mChain, mCons, mNil, mCall, mCallN, mImm, mOwn, mTup, mLst, mLstN, mItems, mFrz, rs, im, rss, ims, ownD, argOf, argsOf, slotOf, isSlot, cellsBack, backA, mCallA, List.filterMap_cons, List.filterMap_nil, List.findIdx?_cons, List.findIdx?_nil, lim]
    refine seq_nx [some (.own true o3), some (.imm (.int m)), some (.own false (.lst (ns.map .str))), some (.imm (.list (ls.map .str))), x.map .imm, some (.own false (.lst (qs.map rwD))), y.map .imm, z.map .imm] ?_ ?_
    · refine (sFor_eq (ds := enumD 0 (ls.map .str)) (ρ1 := [some (.own true o2), some (.imm (.int m)), some (.own false (.lst (ns.map .str))), some (.imm (.list (ls.map .str))), x.map .imm, some (.own false (.lst [])), none, none]) ?_).trans e3
      simp [mEnum, mFrzV, runFn, startE, keepO, keepA, sRet, sRetN, sRetA, sRetNone, sSeq, sIf, sNx, sDrop, sSet, sTg, tN, canSet, sSetN, Md.bind, Md.ret, Md.opt, mVar, mC, mT, m2, m1, mIf, mAndV, mOrV, mNotV, mAndT, mOrT, mNotT, mChain, mCons, mNil, mCall, mCallN, mImm, mOwn, mTup, mLst, mLstN, mItems, mFrz, rs, im, rss, ims, ownD, argOf, argsOf, slotOf, isSlot, cellsBack, backA, mCallA, List.filterMap_cons, List.filterMap_nil, List.findIdx?_cons, List.findIdx?_nil, items]
    simp [runFn, startE, keepO, keepA, sRet, sRetN, sRetA, sRetNone, sSeq, sIf, sNx, sDrop, sSet, sTg, tN, canSet, sSetN, Md.bind, Md.ret, Md.opt, mVar, mC, mT, m2, m1, mIf, mAndV, mOrV, mNotV, mAndT, mOrT, mNotT, mChain, mCons, mNil, mCall, mCallN, mImm, mOwn, mTup, mLst, mLstN, mItems, mFrz, rs, im, rss, ims, ownD, argOf, argsOf, slotOf, isSlot, cellsBack, backA, mCallA, List.filterMap_cons, List.filterMap_nil, List.findIdx?_cons, List.findIdx?_nil, gs, gTuple, csD]
  · cases x <;> cases y <;> cases z <;> simp [keepO, keepA]
end DV

set_option Elab.async false
set_option linter.all false
set_option maxRecDepth 100000
set_option maxHeartbeats 4000000
set_option autoImplicit false
/-! MxE: purses, fees. -/
namespace DV
open PySem L2
def psD (p : List Int) : D := .tuple (p.map .int)
theorem good_ints (p : List Int) : goodDs (p.map .int) = true := by
  rw [goodDs_iff]
  intro d m
  obtain ⟨i, _, rfl⟩ := List.mem_map.mp m
  rfl
theorem good_ps {p : List Int} (h : p.length ≤ 1000) : goodD (psD p) = true := by
  unfold psD goodD
  rw [good_ints, List.length_map, decide_eq_true h]
  rfl
theorem e_need_coins {cs : List Rw} (h : Coins cs) : m_need_coins [.imm (csD cs)] = .ok (.imm .none) [none] := by
  have e := e_are_coins h.good
  rw [h.ok] at e
  simp [m_need_coins, runFn, startE, keepO, keepA, sRet, sRetN, sRetA, sRetNone, sSeq, sIf, sNx, sDrop, sSet, sTg, tN, canSet, sSetN, Md.bind, Md.ret, Md.opt, mVar, mC, mT, m2, m1, mIf, mAndV, mOrV, mNotV, mAndT, mOrT, mNotT, mChain, mCons, mNil, mCall, mCallN, mImm, mOwn, mTup, mLst, mLstN, mItems, mFrz, rs, im, rss, ims, ownD, argOf, argsOf, slotOf, isSlot, cellsBack, backA, mCallA, List.filterMap_cons, List.filterMap_nil, List.findIdx?_cons, List.findIdx?_nil, e]
/-- n whole numbers from 0 to hi -/
def numsB (n : Nat) (hi : Int) (d : D) : Bool := match d with
  | .tuple ds => decide (ds.length = n) && ds.all fun x => isFrom x 0 hi
  | _ => false
theorem numsB_tup (n : Nat) (hi : Int) (ds : List D) : numsB n hi (.tuple ds) = (decide (ds.length = n) && ds.all fun x => isFrom x 0 hi) := rfl
theorem numsB_ps {n : Nat} {hi : Int} {p : List Int} : numsB n hi (psD p) = (decide (p.length = n) && p.all fun x => decide (0 ≤ x) && decide (x ≤ hi)) := by
  unfold psD
  rw [numsB_tup, List.length_map, List.all_map]
  rfl
theorem c_stock {cs : List Rw} {ds : List D} (hl : ds.length ≤ 1000) : c_is_stock_1 [some (.imm (csD cs)), some (.imm (.tuple ds)), none] = .ok (.lst (ds.map fun d => .bool (isFrom d 0 (10 ^ 30)))) [some (.imm (csD cs)), some (.imm (.tuple ds)), none] := by
  have e := lcL_map (vs := [2]) (tg := tN 2) (elt := x_is_stock_1) (fun d => .bool (isFrom d 0 (10 ^ 30))) [some (.imm (csD cs)), some (.imm (.tuple ds)), none] ds (Nat.le_trans hl (by decide)) (fun d m => by
    refine ⟨[some (.imm (csD cs)), some (.imm (.tuple ds)), some (.imm d)], by simp [tN, canSet], .dat (.bool (isFrom d 0 (10 ^ 30))), [some (.imm (csD cs)), some (.imm (.tuple ds)), some (.imm d)], ?_, rfl, rfl, rfl⟩
    simp [x_is_stock_1, runFn, startE, keepO, keepA, sRet, sRetN, sRetA, sRetNone, sSeq, sIf, sNx, sDrop, sSet, sTg, tN, canSet, sSetN, Md.bind, Md.ret, Md.opt, mVar, mC, mT, m2, m1, mIf, mAndV, mOrV, mNotV, mAndT, mOrT, mNotT, mChain, mCons, mNil, mCall, mCallN, mImm, mOwn, mTup, mLst, mLstN, mItems, mFrz, rs, im, rss, ims, ownD, argOf, argsOf, slotOf, isSlot, cellsBack, backA, mCallA, List.filterMap_cons, List.filterMap_nil, List.findIdx?_cons, List.findIdx?_nil, e_is_from])
  exact (mLc_eq (ds := ds) (ρ1 := [some (.imm (csD cs)), some (.imm (.tuple ds)), none]) (by simp [mSeq, runFn, startE, keepO, keepA, sRet, sRetN, sRetA, sRetNone, sSeq, sIf, sNx, sDrop, sSet, sTg, tN, canSet, sSetN, Md.bind, Md.ret, Md.opt, mVar, mC, mT, m2, m1, mIf, mAndV, mOrV, mNotV, mAndT, mOrT, mNotT, mChain, mCons, mNil, mCall, mCallN, mImm, mOwn, mTup, mLst, mLstN, mItems, mFrz, rs, im, rss, ims, ownD, argOf, argsOf, slotOf, isSlot, cellsBack, backA, mCallA, List.filterMap_cons, List.filterMap_nil, List.findIdx?_cons, List.findIdx?_nil, items]) rfl e).trans rfl
theorem e_is_stock {cs : List Rw} {d : D} (h : goodD d = true) : m_is_stock [.imm (csD cs), .imm d] = .ok (.imm (.bool (numsB cs.length (10 ^ 30) d))) [none, none, none] := by
  cases d with
  | tuple ds =>
    have hl := (good_tup h).2
    have c := c_stock (cs := cs) hl
    have a := gAll_map (fun d => isFrom d 0 (10 ^ 30)) ds
    generalize ds.map (fun d => PyData.bool (isFrom d 0 (10 ^ 30))) = bs at c a
    rw [numsB_tup]
    generalize (ds.all fun d => isFrom d 0 (10 ^ 30)) = q at a
    by_cases hn : ds.length = cs.length
    · have hn' : ((ds.length : Nat) : Int) = (cs.length : Nat) := by rw [hn]
      rw [decide_eq_true hn, Bool.true_and]
      simp [m_is_stock, runFn, startE, keepO, keepA, sRet, sRetN, sRetA, sRetNone, sSeq, sIf, sNx, sDrop, sSet, sTg, tN, canSet, sSetN, Md.bind, Md.ret, Md.opt, mVar, mC, mT, m2, m1, mIf, mAndV, mOrV, mNotV, mAndT, mOrT, mNotT, mChain, mCons, mNil, mCall, mCallN, mImm, mOwn, mTup, mLst, mLstN, mItems, mFrz, rs, im, rss, ims, ownD, argOf, argsOf, slotOf, isSlot, cellsBack, backA, mCallA, List.filterMap_cons, List.filterMap_nil, List.findIdx?_cons, List.findIdx?_nil, gEq_int, gNe_int, gLe_int, gLt_int, gGt_int, gGe_int, gAdd_int, gAddI_int, gSub_int, gNeg_int, gIx_tup, gIx_lst, gLen_tup, gLen_lst, gLen_dict, gIsN_eq, gNotN_eq, mIsi, isA, gLen_cs, hn, hn', c, a]
    · have hn' : ¬ ((ds.length : Nat) : Int) = (cs.length : Nat) := by omega
      rw [decide_eq_false hn, Bool.false_and]
      simp [m_is_stock, runFn, startE, keepO, keepA, sRet, sRetN, sRetA, sRetNone, sSeq, sIf, sNx, sDrop, sSet, sTg, tN, canSet, sSetN, Md.bind, Md.ret, Md.opt, mVar, mC, mT, m2, m1, mIf, mAndV, mOrV, mNotV, mAndT, mOrT, mNotT, mChain, mCons, mNil, mCall, mCallN, mImm, mOwn, mTup, mLst, mLstN, mItems, mFrz, rs, im, rss, ims, ownD, argOf, argsOf, slotOf, isSlot, cellsBack, backA, mCallA, List.filterMap_cons, List.filterMap_nil, List.findIdx?_cons, List.findIdx?_nil, gEq_int, gNe_int, gLe_int, gLt_int, gGt_int, gGe_int, gAdd_int, gAddI_int, gSub_int, gNeg_int, gIx_tup, gIx_lst, gLen_tup, gLen_lst, gLen_dict, gIsN_eq, gNotN_eq, mIsi, isA, gLen_cs, hn, hn']
  | _ => simp [m_is_stock, runFn, startE, keepO, keepA, sRet, sRetN, sRetA, sRetNone, sSeq, sIf, sNx, sDrop, sSet, sTg, tN, canSet, sSetN, Md.bind, Md.ret, Md.opt, mVar, mC, mT, m2, m1, mIf, mAndV, mOrV, mNotV, mAndT, mOrT, mNotT, mChain, mCons, mNil, mCall, mCallN, mImm, mOwn, mTup, mLst, mLstN, mItems, mFrz, rs, im, rss, ims, ownD, argOf, argsOf, slotOf, isSlot, cellsBack, backA, mCallA, List.filterMap_cons, List.filterMap_nil, List.findIdx?_cons, List.findIdx?_nil, mIsi, isA, numsB]
theorem c_paid {cs : List Rw} {ds : List D} (hl : ds.length ≤ 1000) : c_are_paid_1 [some (.imm (csD cs)), some (.imm (.tuple ds)), none] = .ok (.lst (ds.map fun d => .bool (isFrom d 0 99))) [some (.imm (csD cs)), some (.imm (.tuple ds)), none] := by
  have e := lcL_map (vs := [2]) (tg := tN 2) (elt := x_are_paid_1) (fun d => .bool (isFrom d 0 99)) [some (.imm (csD cs)), some (.imm (.tuple ds)), none] ds (Nat.le_trans hl (by decide)) (fun d m => by
    refine ⟨[some (.imm (csD cs)), some (.imm (.tuple ds)), some (.imm d)], by simp [tN, canSet], .dat (.bool (isFrom d 0 99)), [some (.imm (csD cs)), some (.imm (.tuple ds)), some (.imm d)], ?_, rfl, rfl, rfl⟩
    simp [x_are_paid_1, runFn, startE, keepO, keepA, sRet, sRetN, sRetA, sRetNone, sSeq, sIf, sNx, sDrop, sSet, sTg, tN, canSet, sSetN, Md.bind, Md.ret, Md.opt, mVar, mC, mT, m2, m1, mIf, mAndV, mOrV, mNotV, mAndT, mOrT, mNotT, mChain, mCons, mNil, mCall, mCallN, mImm, mOwn, mTup, mLst, mLstN, mItems, mFrz, rs, im, rss, ims, ownD, argOf, argsOf, slotOf, isSlot, cellsBack, backA, mCallA, List.filterMap_cons, List.filterMap_nil, List.findIdx?_cons, List.findIdx?_nil, e_is_from])
  exact (mLc_eq (ds := ds) (ρ1 := [some (.imm (csD cs)), some (.imm (.tuple ds)), none]) (by simp [mSeq, runFn, startE, keepO, keepA, sRet, sRetN, sRetA, sRetNone, sSeq, sIf, sNx, sDrop, sSet, sTg, tN, canSet, sSetN, Md.bind, Md.ret, Md.opt, mVar, mC, mT, m2, m1, mIf, mAndV, mOrV, mNotV, mAndT, mOrT, mNotT, mChain, mCons, mNil, mCall, mCallN, mImm, mOwn, mTup, mLst, mLstN, mItems, mFrz, rs, im, rss, ims, ownD, argOf, argsOf, slotOf, isSlot, cellsBack, backA, mCallA, List.filterMap_cons, List.filterMap_nil, List.findIdx?_cons, List.findIdx?_nil, items]) rfl e).trans rfl
theorem e_are_paid {cs : List Rw} {d : D} (h : goodD d = true) : m_are_paid [.imm (csD cs), .imm d] = .ok (.imm (.bool (numsB cs.length 99 d))) [none, none, none] := by
  cases d with
  | tuple ds =>
    have hl := (good_tup h).2
    have c := c_paid (cs := cs) hl
    have a := gAll_map (fun d => isFrom d 0 99) ds
    generalize ds.map (fun d => PyData.bool (isFrom d 0 99)) = bs at c a
    rw [numsB_tup]
    generalize (ds.all fun d => isFrom d 0 99) = q at a
    by_cases hn : ds.length = cs.length
    · have hn' : ((ds.length : Nat) : Int) = (cs.length : Nat) := by rw [hn]
      rw [decide_eq_true hn, Bool.true_and]
      simp [m_are_paid, runFn, startE, keepO, keepA, sRet, sRetN, sRetA, sRetNone, sSeq, sIf, sNx, sDrop, sSet, sTg, tN, canSet, sSetN, Md.bind, Md.ret, Md.opt, mVar, mC, mT, m2, m1, mIf, mAndV, mOrV, mNotV, mAndT, mOrT, mNotT, mChain, mCons, mNil, mCall, mCallN, mImm, mOwn, mTup, mLst, mLstN, mItems, mFrz, rs, im, rss, ims, ownD, argOf, argsOf, slotOf, isSlot, cellsBack, backA, mCallA, List.filterMap_cons, List.filterMap_nil, List.findIdx?_cons, List.findIdx?_nil, gEq_int, gNe_int, gLe_int, gLt_int, gGt_int, gGe_int, gAdd_int, gAddI_int, gSub_int, gNeg_int, gIx_tup, gIx_lst, gLen_tup, gLen_lst, gLen_dict, gIsN_eq, gNotN_eq, mIsi, isA, gLen_cs, hn, hn', c, a]
    · have hn' : ¬ ((ds.length : Nat) : Int) = (cs.length : Nat) := by omega
      rw [decide_eq_false hn, Bool.false_and]
      simp [m_are_paid, runFn, startE, keepO, keepA, sRet, sRetN, sRetA, sRetNone, sSeq, sIf, sNx, sDrop, sSet, sTg, tN, canSet, sSetN, Md.bind, Md.ret, Md.opt, mVar, mC, mT, m2, m1, mIf, mAndV, mOrV, mNotV, mAndT, mOrT, mNotT, mChain, mCons, mNil, mCall, mCallN, mImm, mOwn, mTup, mLst, mLstN, mItems, mFrz, rs, im, rss, ims, ownD, argOf, argsOf, slotOf, isSlot, cellsBack, backA, mCallA, List.filterMap_cons, List.filterMap_nil, List.findIdx?_cons, List.findIdx?_nil, gEq_int, gNe_int, gLe_int, gLt_int, gGt_int, gGe_int, gAdd_int, gAddI_int, gSub_int, gNeg_int, gIx_tup, gIx_lst, gLen_tup, gLen_lst, gLen_dict, gIsN_eq, gNotN_eq, mIsi, isA, gLen_cs, hn, hn']
  | _ => simp [m_are_paid, runFn, startE, keepO, keepA, sRet, sRetN, sRetA, sRetNone, sSeq, sIf, sNx, sDrop, sSet, sTg, tN, canSet, sSetN, Md.bind, Md.ret, Md.opt, mVar, mC, mT, m2, m1, mIf, mAndV, mOrV, mNotV, mAndT, mOrT, mNotT, mChain, mCons, mNil, mCall, mCallN, mImm, mOwn, mTup, mLst, mLstN, mItems, mFrz, rs, im, rss, ims, ownD, argOf, argsOf, slotOf, isSlot, cellsBack, backA, mCallA, List.filterMap_cons, List.filterMap_nil, List.findIdx?_cons, List.findIdx?_nil, mIsi, isA, numsB]
theorem coins_len {cs : List Rw} (h : Coins cs) : 1 ≤ cs.length ∧ cs.length ≤ 8 := by
  have := h.ok
  unfold coinsB at this
  simp only [Bool.and_eq_true, decide_eq_true_eq] at this
  exact this.1.1.1
/-- a purse: as many numbers as kinds, none below 0, none above hi -/
structure Purse (cs : List Rw) (hi : Int) (p : List Int) : Prop where
  len : p.length = cs.length
  low : ∀ x ∈ p, 0 ≤ x
  high : ∀ x ∈ p, x ≤ hi
theorem Purse.nums {cs : List Rw} {hi : Int} {p : List Int} (h : Purse cs hi p) : numsB cs.length hi (psD p) = true := by
  rw [numsB_ps, decide_eq_true h.len, Bool.true_and, List.all_eq_true]
  intro x m
  rw [decide_eq_true (h.low x m), decide_eq_true (h.high x m)]
  rfl
theorem Purse.good {cs : List Rw} {hi : Int} {p : List Int} (c : Coins cs) (h : Purse cs hi p) : goodD (psD p) = true := good_ps (by rw [h.len]; have := (coins_len c).2; omega)
theorem e_need_purse {cs : List Rw} {p : List Int} (c : Coins cs) (h : Purse cs (10 ^ 30) p) : m_need_purse [.imm (csD cs), .imm (psD p)] = .ok (.imm .none) [none, none] := by
  have e1 := e_need_coins c
  have e2 := e_is_stock (cs := cs) (h.good c)
  rw [h.nums] at e2
  simp [m_need_purse, runFn, startE, keepO, keepA, sRet, sRetN, sRetA, sRetNone, sSeq, sIf, sNx, sDrop, sSet, sTg, tN, canSet, sSetN, Md.bind, Md.ret, Md.opt, mVar, mC, mT, m2, m1, mIf, mAndV, mOrV, mNotV, mAndT, mOrT, mNotT, mChain, mCons, mNil, mCall, mCallN, mImm, mOwn, mTup, mLst, mLstN, mItems, mFrz, rs, im, rss, ims, ownD, argOf, argsOf, slotOf, isSlot, cellsBack, backA, mCallA, List.filterMap_cons, List.filterMap_nil, List.findIdx?_cons, List.findIdx?_nil, e1, e2]
theorem e_need_fees {cs : List Rw} {p : List Int} (c : Coins cs) (h : Purse cs 99 p) : m_need_fees [.imm (csD cs), .imm (psD p)] = .ok (.imm .none) [none, none] := by
  have e1 := e_need_coins c
  have e2 := e_are_paid (cs := cs) (h.good c)
  rw [h.nums] at e2
  simp [m_need_fees, runFn, startE, keepO, keepA, sRet, sRetN, sRetA, sRetNone, sSeq, sIf, sNx, sDrop, sSet, sTg, tN, canSet, sSetN, Md.bind, Md.ret, Md.opt, mVar, mC, mT, m2, m1, mIf, mAndV, mOrV, mNotV, mAndT, mOrT, mNotT, mChain, mCons, mNil, mCall, mCallN, mImm, mOwn, mTup, mLst, mLstN, mItems, mFrz, rs, im, rss, ims, ownD, argOf, argsOf, slotOf, isSlot, cellsBack, backA, mCallA, List.filterMap_cons, List.filterMap_nil, List.findIdx?_cons, List.findIdx?_nil, e1, e2]
/-! a drawn purse -/
theorem purse_turn {n : Int} {o : Own} {a1 a4 : Option A} {h : Int} {p : List Int} (hd : Dk n o) (hn : n ≤ 10000000000) (h0 : 0 ≤ h) (h1 : h < 2 ^ 150) (hl : p.length ≤ 1000) :
    ∃ (x : Int) (o' : Own), 0 ≤ x ∧ x ≤ max 1 h ∧ Dk (n + 3) o' ∧
      b__law_purse_1 [some (.own true o), a1, some (.imm (.int h)), some (.own false (.lst (p.map .int))), a4] = .ok .nx [some (.own true o'), a1, some (.imm (.int h)), some (.own false (.lst ((p ++ [x]).map .int))), a4] := by
  obtain ⟨r1, o1, r10, r11, d1, e1⟩ := e_pick hd (by omega) (s := h + 1) (by omega) (by omega)
  obtain ⟨r2, o2, r20, r21, d2, e2⟩ := e_pick d1 (by omega) (s := h + 1) (by omega) (by omega)
  obtain ⟨k, m, o3, hk, d3, e3⟩ := e_one (ds := [.int 0, .int 1, .int r1, .int r2]) d2 (by omega) (by simp) (by simp)
  have hm : ∃ v : Int, m = .int v ∧ 0 ≤ v ∧ v ≤ max 1 h := by
    match k, hk with
    | 0, hk => cases hk; exact ⟨0, rfl, by omega, by omega⟩
    | 1, hk => cases hk; exact ⟨1, rfl, by omega, by omega⟩
    | 2, hk => cases hk; exact ⟨r1, rfl, by omega, by omega⟩
    | 3, hk => cases hk; exact ⟨r2, rfl, by omega, by omega⟩
    | k + 4, hk => simp at hk
  obtain ⟨v, rfl, v0, v1⟩ := hm
  refine ⟨v, o3, v0, v1, d3.mono (by omega), ?_⟩
  have ga := gAppend_of (es := p.map PyData.int) (d := .int v) (by rw [List.length_map]; omega)
  refine (drop_eq (meth_eq (ρ' := [some (.own true o3), a1, some (.imm (.int h)), some (.own false (.lst (p.map .int))), a4]) (os := [.dat (.int v)]) rfl (cons_eq (ρ1 := [some (.own true o3), a1, some (.imm (.int h)), some (.own false (.lst (p.map .int))), a4]) ?_ nil_eq) rfl rfl ga)).trans ?_
  · simp [runFn, startE, keepO, keepA, sRet, sRetN, sRetA, sRetNone, sSeq, sIf, sNx, sDrop, sSet, sTg, tN, canSet, sSetN, Md.bind, Md.ret, Md.opt, mVar, mC, mT, m2, m1, mIf, mAndV, mOrV, mNotV, mAndT, mOrT, mNotT, mChain, mCons, mNil, mCall, mCallN, mImm, mOwn, mTup, mLst, mLstN, mItems, mFrz, rs, im, rss, ims, ownD, argOf, argsOf, slotOf, isSlot, cellsBack, backA, mCallA, List.filterMap_cons, List.filterMap_nil, List.findIdx?_cons, List.findIdx?_nil, gEq_int, gNe_int, gLe_int, gLt_int, gGt_int, gGe_int, gAdd_int, gAddI_int, gSub_int, gNeg_int, gIx_tup, gIx_lst, gLen_tup, gLen_lst, gLen_dict, gIsN_eq, gNotN_eq, lim, e1, e2, e3]
  · rw [List.map_append]
    rfl
theorem e_purse {n : Int} {o : Own} {cs : List Rw} {h : Int} (c : Coins cs) (hd : Dk n o) (hn : n ≤ 1000000000) (h0 : 0 ≤ h) (h1 : h < 2 ^ 150) :
    ∃ (p : List Int) (o' : Own), Purse cs (max 1 h) p ∧ Dk (n + 24) o' ∧ m__law_purse [.own true o, .imm (csD cs), .imm (.int h)] = .ok (.imm (psD p)) [some (.own true o'), none, none, none, none] := by
  have h8 := (coins_len c).2
  obtain ⟨ρ', e, p, o', x, q1, q2, q3, q4⟩ := forL_run (tg := tN 4) (body := b__law_purse_1) (fun i ρ => ∃ (p : List Int) (o' : Own) (x : Option D), p.length = i ∧ (∀ v ∈ p, 0 ≤ v ∧ v ≤ max 1 h) ∧ Dk (n + 3 * i) o' ∧
      ρ = [some (.own true o'), some (.imm (csD cs)), some (.imm (.int h)), some (.own false (.lst (p.map .int))), x.map .imm])
    (cs.map rwD) [some (.own true o), some (.imm (csD cs)), some (.imm (.int h)), some (.own false (.lst [])), none] ⟨[], o, none, rfl, fun v m => absurd m List.not_mem_nil, by simpa using hd, rfl⟩
    (fun i d ρ hd ⟨p, o1, x, hl, hp, dk, e⟩ => by
      subst e
      have hi := (List.getElem?_eq_some_iff.mp hd).1
      rw [List.length_map] at hi
      obtain ⟨v, o2, v0, v1, dk2, eb⟩ := purse_turn (a1 := some (.imm (csD cs))) (a4 := some (.imm d)) dk (by omega) h0 h1 (p := p) (by omega)
      refine ⟨_, _, ?_, .inl eb, p ++ [v], o2, some d, by rw [List.length_append, List.length_singleton, hl], fun w m => ?_, dk2.mono (by push_cast; omega), rfl⟩
      · cases x <;> simp [tN, canSet]
      · rcases List.mem_append.mp m with m | m
        · exact hp w m
        · rw [List.mem_singleton.mp m]; exact ⟨v0, v1⟩)
  rw [List.length_map] at q1 q3
  refine ⟨p, o', ⟨q1, fun v m => (q2 v m).1, fun v m => (q2 v m).2⟩, q3.mono (by omega), ?_⟩
  refine run_rt (.imm (psD p)) ρ' ?_ ?_
  · refine seq_nx [some (.own true o), some (.imm (csD cs)), some (.imm (.int h)), some (.own false (.lst [])), none] (by simp [runFn, startE, keepO, keepA, sRet, sRetN, sRetA, sRetNone, sSeq, sIf, sNx, sDrop, sSet, sTg, tN, canSet, sSetN, Md.bind, Md.ret, Md.opt, mVar, mC, mT, m2, m1, mIf, mAndV, mOrV, mNotV, mAndT, mOrT, mNotT, mChain, mCons, mNil, mCall, mCallN, mImm, mOwn, mTup, mLst, mLstN, mItems, mFrz, rs, im, rss, ims, ownD, argOf, argsOf, slotOf, isSlot, cellsBack, backA, mCallA, List.filterMap_cons, List.filterMap_nil, List.findIdx?_cons, List.findIdx?_nil, lim]) ?_
    refine seq_nx ρ' ((sFor_eq (ds := cs.map rwD) (ρ1 := [some (.own true o), some (.imm (csD cs)), some (.imm (.int h)), some (.own false (.lst [])), none]) ?_).trans e) ?_
    · simp [mSeq, runFn, startE, keepO, keepA, sRet, sRetN, sRetA, sRetNone, sSeq, sIf, sNx, sDrop, sSet, sTg, tN, canSet, sSetN, Md.bind, Md.ret, Md.opt, mVar, mC, mT, m2, m1, mIf, mAndV, mOrV, mNotV, mAndT, mOrT, mNotT, mChain, mCons, mNil, mCall, mCallN, mImm, mOwn, mTup, mLst, mLstN, mItems, mFrz, rs, im, rss, ims, ownD, argOf, argsOf, slotOf, isSlot, cellsBack, backA, mCallA, List.filterMap_cons, List.filterMap_nil, List.findIdx?_cons, List.findIdx?_nil, csD, items]
    · rw [q4]
      simp [runFn, startE, keepO, keepA, sRet, sRetN, sRetA, sRetNone, sSeq, sIf, sNx, sDrop, sSet, sTg, tN, canSet, sSetN, Md.bind, Md.ret, Md.opt, mVar, mC, mT, m2, m1, mIf, mAndV, mOrV, mNotV, mAndT, mOrT, mNotT, mChain, mCons, mNil, mCall, mCallN, mImm, mOwn, mTup, mLst, mLstN, mItems, mFrz, rs, im, rss, ims, ownD, argOf, argsOf, slotOf, isSlot, cellsBack, backA, mCallA, List.filterMap_cons, List.filterMap_nil, List.findIdx?_cons, List.findIdx?_nil, gTuple, psD]
  · rw [q4]
    cases x <;> simp [keepO, keepA]
end DV

set_option Elab.async false
set_option linter.all false
set_option maxRecDepth 100000
set_option maxHeartbeats 4000000
set_option autoImplicit false
/-! MxF: a thing is the same as itself. -/
namespace DV
open PySem L2
mutual
theorem good_lay : ∀ (d : D), goodD d = true → PyData.canLay0 d = true
  | .none, _ => rfl
  | .bool _, _ => rfl
  | .int _, _ => rfl
  | .str z, h => (good_str h).1
  | .list ds, h => by
    show PyData.canLayAll0 ds = true
    exact goods_lay ds (by unfold goodD at h; rw [Bool.and_eq_true] at h; exact h.1)
  | .tuple ds, h => by
    show PyData.canLayAll0 ds = true
    exact goods_lay ds (by unfold goodD at h; rw [Bool.and_eq_true] at h; exact h.1)
  | .dict _, h => by simp [goodD] at h
theorem goods_lay : ∀ (ds : List D), goodDs ds = true → PyData.canLayAll0 ds = true
  | [], _ => rfl
  | d :: ds, h => by
    unfold goodDs at h
    rw [Bool.and_eq_true] at h
    show (PyData.canLay0 d && PyData.canLayAll0 ds) = true
    rw [good_lay d h.1, goods_lay ds h.2]
    rfl
end
theorem depth_mem : ∀ {ds : List D} {d : D}, d ∈ ds → d.depth ≤ PyData.depthAll ds
  | e :: ds, d, m => by
    show d.depth ≤ max e.depth (PyData.depthAll ds)
    rcases List.mem_cons.mp m with rfl | m
    · exact Nat.le_max_left _ _
    · exact Nat.le_trans (depth_mem m) (Nat.le_max_right _ _)
theorem good_shaped {d : D} (h : goodD d = true) (hd : d.depth ≤ 64) : SeqAt.shaped d = true := by
  unfold SeqAt.shaped
  rw [good_lay d h, decide_eq_true hd]
  rfl
theorem gEq_self {d : D} (h : goodD d = true) (hd : d.depth ≤ 64) : gEq d d = some (.bool true) := by
  unfold gEq
  rw [good_shaped h hd, SeqAt.eqv_refl d (good_lay d h)]
  rfl
def sortN : D → Int
  | .bool _ => 1
  | .int _ => 2
  | .str _ => 3
  | .list _ => 4
  | .tuple _ => 5
  | _ => 6
theorem e_sort (d : D) : m__law_sort [.imm d] = .ok (.imm (.int (sortN d))) [none] := by
  cases d <;> simp [m__law_sort, runFn, startE, keepO, keepA, sRet, sRetN, sRetA, sRetNone, sSeq, sIf, sNx, sDrop, sSet, sTg, tN, canSet, sSetN, Md.bind, Md.ret, Md.opt, mVar, mC, mT, m2, m1, mIf, mAndV, mOrV, mNotV, mAndT, mOrT, mNotT, mChain, mCons, mNil, mCall, mCallN, mImm, mOwn, mTup, mLst, mLstN, mItems, mFrz, rs, im, rss, ims, ownD, argOf, argsOf, slotOf, isSlot, cellsBack, backA, mCallA, List.filterMap_cons, List.filterMap_nil, List.findIdx?_cons, List.findIdx?_nil, mIsi, isA, sortN]
theorem e_same : ∀ (n : Nat) (d : D), goodD d = true → d.depth < n → d.depth ≤ 60 → m__law_same n [.imm d, .imm d] = .ok (.imm (.bool true)) [none, none, none, none]
  | 0, _, _, h, _ => absurd h (Nat.not_lt_zero _)
  | n + 1, d, hg, hd, h60 => by
    have es := e_sort d
    have seqs : ∀ ds : List D, (d = .list ds ∨ d = .tuple ds) → (∀ x ∈ ds, goodD x = true) → ds.length ≤ 1000 → PyData.depthAll ds < n → PyData.depthAll ds ≤ 60 →
        c__law_same_1 (m__law_same n) [some (.imm d), some (.imm d), none, none] = .ok (.lst []) [some (.imm d), some (.imm d), none, none] := fun ds hds hx hl hn hm => by
      have ix : ∀ (i : Nat) x, ds[i]? = some x → gIx d (.int (i : Nat)) = some x := fun i x e => by
        rcases hds with rfl | rfl
        · exact atI_at e
        · exact atI_at e
      have e := lcL_pure (vs := [2, 3]) (tg := tTupT 2 (tsCons (tN 2) (tsCons (tN 3) tsNil))) (test := t__law_same_1 (m__law_same n)) (elt := mVar 2) (fun _ => false) id [some (.imm d), some (.imm d), none, none] (enumD 0 ds) (by rw [enum_len]; exact Nat.le_trans hl (by decide)) (fun q m => by
        obtain ⟨i, ei⟩ := List.mem_iff_getElem?.mp m
        obtain ⟨x, ex, rfl⟩ := enum_get ei
        have mx := List.mem_of_getElem? ex
        have ih := e_same n x (hx x mx) (Nat.lt_of_le_of_lt (depth_mem mx) hn) (Nat.le_trans (depth_mem mx) hm)
        have ig := ix i x ex
        refine ⟨[some (.imm d), some (.imm d), some (.imm (.int ((0 + i : Nat) : Int))), some (.imm x)], [some (.imm d), some (.imm d), some (.imm (.int ((0 + i : Nat) : Int))), some (.imm x)], by simp [tTupT, tsCons, tsNil, tN, canSet], ?_, fun _ => ⟨rfl, rfl⟩, fun z => Bool.noConfusion z⟩
        rw [Nat.zero_add]
        simp [t__law_same_1, runFn, startE, keepO, keepA, sRet, sRetN, sRetA, sRetNone, sSeq, sIf, sNx, sDrop, sSet, sTg, tN, canSet, sSetN, Md.bind, Md.ret, Md.opt, mVar, mC, mT, m2, m1, mIf, mAndV, mOrV, mNotV, mAndT, mOrT, mNotT, mChain, mCons, mNil, mCall, mCallN, mImm, mOwn, mTup, mLst, mLstN, mItems, mFrz, rs, im, rss, ims, ownD, argOf, argsOf, slotOf, isSlot, cellsBack, backA, mCallA, List.filterMap_cons, List.filterMap_nil, List.findIdx?_cons, List.findIdx?_nil, ig, ih])
      refine (mLc_eq (ds := enumD 0 ds) (ρ1 := [some (.imm d), some (.imm d), none, none]) ?_ rfl e).trans ?_
      · rcases hds with rfl | rfl <;> simp [mEnum, runFn, startE, keepO, keepA, sRet, sRetN, sRetA, sRetNone, sSeq, sIf, sNx, sDrop, sSet, sTg, tN, canSet, sSetN, Md.bind, Md.ret, Md.opt, mVar, mC, mT, m2, m1, mIf, mAndV, mOrV, mNotV, mAndT, mOrT, mNotT, mChain, mCons, mNil, mCall, mCallN, mImm, mOwn, mTup, mLst, mLstN, mItems, mFrz, rs, im, rss, ims, ownD, argOf, argsOf, slotOf, isSlot, cellsBack, backA, mCallA, List.filterMap_cons, List.filterMap_nil, List.findIdx?_cons, List.findIdx?_nil, items]
      · have : (enumD 0 ds).filter (fun _ => false) = [] := List.filter_eq_nil_iff.mpr fun _ _ => Bool.false_ne_true
        rw [this]
        rfl
    have gn : gEq (.list []) (.list []) = some (.bool true) := rfl
    cases d with
    | list ds =>
      have g := good_lst hg
      have c := seqs ds (.inl rfl) g.1 g.2 (by have : PyData.depthAll ds + 1 < n + 1 := hd; omega) (by have : PyData.depthAll ds + 1 ≤ 60 := h60; omega)
      simp [m__law_same, runFn, startE, keepO, keepA, sRet, sRetN, sRetA, sRetNone, sSeq, sIf, sNx, sDrop, sSet, sTg, tN, canSet, sSetN, Md.bind, Md.ret, Md.opt, mVar, mC, mT, m2, m1, mIf, mAndV, mOrV, mNotV, mAndT, mOrT, mNotT, mChain, mCons, mNil, mCall, mCallN, mImm, mOwn, mTup, mLst, mLstN, mItems, mFrz, rs, im, rss, ims, ownD, argOf, argsOf, slotOf, isSlot, cellsBack, backA, mCallA, List.filterMap_cons, List.filterMap_nil, List.findIdx?_cons, List.findIdx?_nil, gEq_int, gNe_int, gLe_int, gLt_int, gGt_int, gGe_int, gAdd_int, gAddI_int, gSub_int, gNeg_int, gIx_tup, gIx_lst, gLen_tup, gLen_lst, gLen_dict, gIsN_eq, gNotN_eq, es, sortN, c, gn]
    | tuple ds =>
      have g := good_tup hg
      have c := seqs ds (.inr rfl) g.1 g.2 (by have : PyData.depthAll ds + 1 < n + 1 := hd; omega) (by have : PyData.depthAll ds + 1 ≤ 60 := h60; omega)
      simp [m__law_same, runFn, startE, keepO, keepA, sRet, sRetN, sRetA, sRetNone, sSeq, sIf, sNx, sDrop, sSet, sTg, tN, canSet, sSetN, Md.bind, Md.ret, Md.opt, mVar, mC, mT, m2, m1, mIf, mAndV, mOrV, mNotV, mAndT, mOrT, mNotT, mChain, mCons, mNil, mCall, mCallN, mImm, mOwn, mTup, mLst, mLstN, mItems, mFrz, rs, im, rss, ims, ownD, argOf, argsOf, slotOf, isSlot, cellsBack, backA, mCallA, List.filterMap_cons, List.filterMap_nil, List.findIdx?_cons, List.findIdx?_nil, gEq_int, gNe_int, gLe_int, gLt_int, gGt_int, gGe_int, gAdd_int, gAddI_int, gSub_int, gNeg_int, gIx_tup, gIx_lst, gLen_tup, gLen_lst, gLen_dict, gIsN_eq, gNotN_eq, es, sortN, c, gn]
    | dict kvs => simp [goodD] at hg
    | none =>
      have ge := gEq_self hg (by decide)
      simp [m__law_same, runFn, startE, keepO, keepA, sRet, sRetN, sRetA, sRetNone, sSeq, sIf, sNx, sDrop, sSet, sTg, tN, canSet, sSetN, Md.bind, Md.ret, Md.opt, mVar, mC, mT, m2, m1, mIf, mAndV, mOrV, mNotV, mAndT, mOrT, mNotT, mChain, mCons, mNil, mCall, mCallN, mImm, mOwn, mTup, mLst, mLstN, mItems, mFrz, rs, im, rss, ims, ownD, argOf, argsOf, slotOf, isSlot, cellsBack, backA, mCallA, List.filterMap_cons, List.filterMap_nil, List.findIdx?_cons, List.findIdx?_nil, gNe_int, gGt_int, gLt_int, es, sortN, ge]
    | bool b =>
      have ge := gEq_self hg (by show 0 ≤ 64; omega)
      simp [m__law_same, runFn, startE, keepO, keepA, sRet, sRetN, sRetA, sRetNone, sSeq, sIf, sNx, sDrop, sSet, sTg, tN, canSet, sSetN, Md.bind, Md.ret, Md.opt, mVar, mC, mT, m2, m1, mIf, mAndV, mOrV, mNotV, mAndT, mOrT, mNotT, mChain, mCons, mNil, mCall, mCallN, mImm, mOwn, mTup, mLst, mLstN, mItems, mFrz, rs, im, rss, ims, ownD, argOf, argsOf, slotOf, isSlot, cellsBack, backA, mCallA, List.filterMap_cons, List.filterMap_nil, List.findIdx?_cons, List.findIdx?_nil, gNe_int, gGt_int, gLt_int, es, sortN, ge]
    | int b =>
      have ge := gEq_self hg (by show 0 ≤ 64; omega)
      simp [m__law_same, runFn, startE, keepO, keepA, sRet, sRetN, sRetA, sRetNone, sSeq, sIf, sNx, sDrop, sSet, sTg, tN, canSet, sSetN, Md.bind, Md.ret, Md.opt, mVar, mC, mT, m2, m1, mIf, mAndV, mOrV, mNotV, mAndT, mOrT, mNotT, mChain, mCons, mNil, mCall, mCallN, mImm, mOwn, mTup, mLst, mLstN, mItems, mFrz, rs, im, rss, ims, ownD, argOf, argsOf, slotOf, isSlot, cellsBack, backA, mCallA, List.filterMap_cons, List.filterMap_nil, List.findIdx?_cons, List.findIdx?_nil, gNe_int, gGt_int, gLt_int, es, sortN, ge]
    | str b =>
      have ge := gEq_self hg (by show 0 ≤ 64; omega)
      simp [m__law_same, runFn, startE, keepO, keepA, sRet, sRetN, sRetA, sRetNone, sSeq, sIf, sNx, sDrop, sSet, sTg, tN, canSet, sSetN, Md.bind, Md.ret, Md.opt, mVar, mC, mT, m2, m1, mIf, mAndV, mOrV, mNotV, mAndT, mOrT, mNotT, mChain, mCons, mNil, mCall, mCallN, mImm, mOwn, mTup, mLst, mLstN, mItems, mFrz, rs, im, rss, ims, ownD, argOf, argsOf, slotOf, isSlot, cellsBack, backA, mCallA, List.filterMap_cons, List.filterMap_nil, List.findIdx?_cons, List.findIdx?_nil, gNe_int, gGt_int, gLt_int, es, sortN, ge]
end DV

set_option Elab.async false
set_option linter.all false
set_option maxRecDepth 100000
set_option maxHeartbeats 4000000
set_option autoImplicit false
/-! MxG: places, single changes (the law's side). -/
namespace DV
open PySem L2
theorem coins_parts {cs : List Rw} (h : Coins cs) : cs.all rowB = true ∧ risingB (cs.map (·.nm)) = true ∧ forestB cs = true := by
  have := h.ok
  unfold coinsB at this
  simp only [Bool.and_eq_true] at this
  exact ⟨this.1.1.2, this.1.2, this.2⟩
theorem coins_nodup {cs : List Rw} (h : Coins cs) : (cs.map (·.nm)).Nodup := pw_nodup (rising_pw (coins_parts h).2.1)
theorem name_ne {z : Str} (h : nameB z = true) : z ≠ "" := fun e => by
  subst e
  revert h
  decide +kernel
theorem coins_nm_ne {cs : List Rw} (h : Coins cs) {r : Rw} (m : r ∈ cs) : r.nm ≠ "" := by
  have := List.all_eq_true.mp (coins_parts h).1 r m
  unfold rowB at this
  rw [Bool.and_eq_true] at this
  exact name_ne this.1
theorem coins_mn {cs : List Rw} (h : Coins cs) {r : Rw} (m : r ∈ cs) : 0 ≤ r.mn ∧ r.mn ≤ 9 ∧ (r.up ≠ "" → 2 ≤ r.mn) ∧ (r.up = "" → r.mn = 0) := by
  have := List.all_eq_true.mp (coins_parts h).1 r m
  unfold rowB at this
  rw [Bool.and_eq_true] at this
  by_cases q : r.up = ""
  · rw [if_pos q] at this
    have := of_decide_eq_true this.2
    exact ⟨by omega, by omega, fun z => absurd q z, fun _ => this⟩
  · rw [if_neg q, Bool.and_eq_true, decide_eq_true_eq, decide_eq_true_eq] at this
    exact ⟨by omega, this.2.2, fun _ => this.2.1, fun z => absurd z q⟩
/-- the kind above is there -/
theorem coins_up {cs : List Rw} (h : Coins cs) {r : Rw} (m : r ∈ cs) (hu : r.up ≠ "") : ∃ (a : Nat) (r2 : Rw), cs[a]? = some r2 ∧ r2.nm = r.up ∧ r2.nm ≠ r.nm := by
  have f := List.all_eq_true.mp (coins_parts h).2.2 r m
  obtain ⟨k, hk⟩ : ∃ k, cs.length = k + 1 := ⟨cs.length - 1, by have := (coins_len h).1; omega⟩
  have u : up1 cs r.nm = r.up := by
    unfold up1
    rw [if_neg (coins_nm_ne h m), row_found (coins_nodup h) m]
  have loopB : r.up = r.nm → ∀ t, climb cs t r.nm = some r.nm ∨ climb cs t r.nm = none := fun e t => by
    induction t with
    | zero => exact .inl rfl
    | succ t ih =>
      unfold climb
      rw [u, e]
      split
      · exact .inr rfl
      · exact ih
  by_cases q : inN cs r.up = true
  · unfold inN at q
    cases e : rowAt cs r.up with
    | none => rw [e] at q; cases q
    | some r2 =>
      unfold rowAt at e
      have m2 := List.mem_of_find?_eq_some e
      have p : r2.nm = r.up := by simpa using List.find?_some e
      obtain ⟨a, ha⟩ := List.mem_iff_getElem?.mp m2
      refine ⟨a, r2, ha, p, fun z => ?_⟩
      rcases loopB (p.symm.trans z) cs.length with z2 | z2
      · rw [z2] at f
        exact coins_nm_ne h m (of_decide_eq_true f)
      · rw [z2] at f
        cases f
  · have : climb cs cs.length r.nm = none := by
      rw [hk]
      unfold climb
      rw [u, if_pos ⟨hu, by cases z : inN cs r.up with | true => exact absurd z q | false => rfl⟩]
    rw [this] at f
    cases f
theorem coins_texts {cs : List Rw} (h : Coins cs) {r : Rw} (m : r ∈ cs) : PyData.strOk r.nm = true ∧ PyData.strOk r.up = true := (good_rows h.good).1 r m
theorem ix_cs {cs : List Rw} {i : Nat} {r : Rw} (h : cs[i]? = some r) : gIx (csD cs) (.int (i : Nat)) = some (rwD r) := atI_at (by rw [List.getElem?_map, h]; rfl)
theorem ix_rw0 (r : Rw) : gIx (rwD r) (.int 0) = some (.str r.nm) := rfl
theorem ix_rw1 (r : Rw) : gIx (rwD r) (.int 1) = some (.int r.mn) := rfl
theorem ix_rw2 (r : Rw) : gIx (rwD r) (.int 2) = some (.str r.up) := rfl
theorem at_uniq {cs : List Rw} (nd : (cs.map (·.nm)).Nodup) {i j : Nat} {r q : Rw} (hi : cs[i]? = some r) (hj : cs[j]? = some q) (e : r.nm = q.nm) : i = j := by
  have h1 : (cs.map (·.nm))[i]? = some r.nm := by rw [List.getElem?_map, hi]; rfl
  have h2 : (cs.map (·.nm))[j]? = some r.nm := by rw [List.getElem?_map, hj, e]; rfl
  obtain ⟨l1, e1⟩ := List.getElem?_eq_some_iff.mp h1
  obtain ⟨l2, e2⟩ := List.getElem?_eq_some_iff.mp h2
  have pw := List.pairwise_iff_getElem.mp nd
  rcases Nat.lt_trichotomy i j with h | h | h
  · exact absurd (e1.trans e2.symm) (pw i j l1 l2 h)
  · exact h
  · exact absurd (e2.trans e1.symm) (pw j i l2 l1 h)
/-- the place of a kind, the law's way -/
theorem e_at {cs : List Rw} (h : Coins cs) {i : Nat} {r : Rw} (hi : cs[i]? = some r) : m__law_at [.imm (csD cs), .imm (.str r.nm)] = .ok (.imm (.int (i : Nat))) [none, none, none] := by
  have h8 := (coins_len h).2
  have e := lcL_map (vs := [2]) (tg := tN 2) (elt := x__law_at_1) (fun d => match d with
    | .tuple (x :: _) => x
    | _ => .none) [some (.imm (csD cs)), some (.imm (.str r.nm)), none] (cs.map rwD) (by rw [List.length_map]; exact Nat.le_trans h8 (by decide)) (fun d m => by
    obtain ⟨q, _, rfl⟩ := List.mem_map.mp m
    refine ⟨[some (.imm (csD cs)), some (.imm (.str r.nm)), some (.imm (rwD q))], by simp [tN, canSet], .dat (.str q.nm), [some (.imm (csD cs)), some (.imm (.str r.nm)), some (.imm (rwD q))], ?_, rfl, rfl, rfl⟩
    simp [x__law_at_1, runFn, startE, keepO, keepA, sRet, sRetN, sRetA, sRetNone, sSeq, sIf, sNx, sDrop, sSet, sTg, tN, canSet, sSetN, Md.bind, Md.ret, Md.opt, mVar, mC, mT, m2, m1, mIf, mAndV, mOrV, mNotV, mAndT, mOrT, mNotT, mChain, mCons, mNil, mCall, mCallN, mImm, mOwn, mTup, mLst, mLstN, mItems, mFrz, rs, im, rss, ims, ownD, argOf, argsOf, slotOf, isSlot, cellsBack, backA, mCallA, List.filterMap_cons, List.filterMap_nil, List.findIdx?_cons, List.findIdx?_nil, ix_rw0])
  have c : c__law_at_1 [some (.imm (csD cs)), some (.imm (.str r.nm)), none] = .ok (.lst ((cs.map (·.nm)).map .str)) [some (.imm (csD cs)), some (.imm (.str r.nm)), none] := by
    refine (mLc_eq (ds := cs.map rwD) it_tup rfl e).trans ?_
    rw [List.map_map, List.map_map]
    rfl
  have gi : gIndex (.list ((cs.map (·.nm)).map .str)) [.str r.nm] = some (.int (i : Nat)) := by
    have hm : r ∈ cs := List.mem_of_getElem? hi
    have sh : SeqAt.shaped (.list ((cs.map (·.nm)).map .str)) = true := by
      refine good_shaped ?_ ?_
      · unfold goodD
        rw [Bool.and_eq_true, goodDs_iff, decide_eq_true_eq]
        refine ⟨fun d m => ?_, by rw [List.length_map, List.length_map]; omega⟩
        obtain ⟨x, m2, rfl⟩ := List.mem_map.mp m
        obtain ⟨q, mq, rfl⟩ := List.mem_map.mp m2
        have := (good_tup ((good_rows h.good).2 q mq)).1 (.str q.nm) (by simp)
        exact this
      · have : ∀ xs : List Str, PyData.depthAll (xs.map .str) = 0 := fun xs => by
          induction xs with
          | nil => rfl
          | cons x xs ih => show max 0 (PyData.depthAll (xs.map .str)) = 0; rw [ih]; rfl
        show PyData.depthAll _ + 1 ≤ 64
        rw [this]
        omega
    have sh2 : SeqAt.shaped (.str r.nm) = true := shaped_str (coins_texts h hm).1
    show (if SeqAt.shaped (.list ((cs.map (·.nm)).map .str)) && SeqAt.shaped (.str r.nm) then (((cs.map (·.nm)).map PyData.str).findIdx? fun z => PyData.eqv z (.str r.nm)).map fun j => PyData.int (j : Nat) else none) = _
    rw [sh, sh2]
    have hn : (cs.map (·.nm))[i]? = some r.nm := by rw [List.getElem?_map, hi]; rfl
    have hl : i < cs.length := (List.getElem?_eq_some_iff.mp hi).1
    have : (((cs.map (·.nm)).map PyData.str).findIdx? fun z => PyData.eqv z (.str r.nm)) = some i := by
      rw [List.findIdx?_eq_some_iff_getElem]
      refine ⟨by rw [List.length_map, List.length_map]; exact hl, ?_, fun j hj => ?_⟩
      · rw [List.getElem_map, List.getElem_map, eqv_str]
        have := (List.getElem?_eq_some_iff.mp hi).2
        rw [this]
        exact decide_eq_true rfl
      · rw [List.getElem_map, List.getElem_map, eqv_str]
        intro z
        have z := of_decide_eq_true z
        have hj2 : cs[j]? = some cs[j] := List.getElem?_eq_getElem (by omega)
        have := at_uniq (coins_nodup h) hj2 hi z
        omega
    rw [this]
    rfl
  generalize (cs.map (·.nm)).map PyData.str = ns at c gi
  simp [m__law_at, mLook, runFn, startE, keepO, keepA, sRet, sRetN, sRetA, sRetNone, sSeq, sIf, sNx, sDrop, sSet, sTg, tN, canSet, sSetN, Md.bind, Md.ret, Md.opt, mVar, mC, mT, m2, m1, mIf, mAndV, mOrV, mNotV, mAndT, mOrT, mNotT, mChain, mCons, mNil, mCall, mCallN, mImm, mOwn, mTup, mLst, mLstN, mItems, mFrz, rs, im, rss, ims, ownD, argOf, argsOf, slotOf, isSlot, cellsBack, backA, mCallA, List.filterMap_cons, List.filterMap_nil, List.findIdx?_cons, List.findIdx?_nil, c, gi]
/-! changes -/
/-- a change of a kind that is there, into another: the place, how many -/
structure Chg (cs : List Rw) (c : Nat × Int) (r : Rw) (a : Nat) : Prop where
  at_ : cs[c.1]? = some r
  up : r.up ≠ ""
  above : ∃ r2, cs[a]? = some r2 ∧ r2.nm = r.up
  ne : a ≠ c.1
theorem chg_of {cs : List Rw} (h : Coins cs) {c : Nat × Int} {r : Rw} (hr : cs[c.1]? = some r) (hu : r.up ≠ "") : ∃ a, Chg cs c r a := by
  obtain ⟨a, r2, ha, e, ne⟩ := coins_up h (List.mem_of_getElem? hr) hu
  refine ⟨a, hr, hu, ⟨r2, ha, e⟩, fun z => ?_⟩
  subst z
  rw [hr] at ha
  have : r = r2 := Option.some.inj ha
  exact ne (by rw [this])
def gp (p : List Int) (i : Nat) : Int := p.getD i 0
def stepP (m : Int) (i a : Nat) (p : List Int) (t : Int) : List Int := (p.set i (gp p i - m * t)).set a (gp (p.set i (gp p i - m * t)) a + t)
def posB (p : List Int) : Bool := p.all fun x => decide (0 ≤ x)
def chgP (m : Int) (i a : Nat) (p : List Int) (t : Int) : Option (List Int) := if posB (stepP m i a p t) = true then some (stepP m i a p t) else none
def oD : Option (List Int) → D
  | none => .none
  | some p => psD p
theorem minL_pos : ∀ {p : List Int} {x : Int}, minL p = some x → (0 ≤ x ↔ posB p = true) := by
  have fold : ∀ (r : List Int) (x : Int), (0 ≤ r.foldl min x ↔ (0 ≤ x ∧ posB r = true)) := fun r => by
    induction r with
    | nil => intro x; simp [posB]
    | cons y r ih =>
      intro x
      rw [List.foldl_cons, ih]
      have : posB (y :: r) = (decide (0 ≤ y) && posB r) := rfl
      rw [this, Bool.and_eq_true, decide_eq_true_eq]
      constructor
      · rintro ⟨h1, h2⟩; exact ⟨by omega, by omega, h2⟩
      · rintro ⟨h1, h2, h3⟩; exact ⟨by omega, h3⟩
  intro p x h
  cases p with
  | nil => cases h
  | cons y r =>
    have h : r.foldl min y = x := Option.some.inj h
    have : posB (y :: r) = (decide (0 ≤ y) && posB r) := rfl
    rw [← h, fold, this, Bool.and_eq_true, decide_eq_true_eq]
theorem cMul_ok {i j : Int} (h1 : i.natAbs < 2 ^ 200) (h2 : j.natAbs < 2 ^ 200) : cMul i j = true := by
  have : (2 : Nat) ^ 200 ≤ 2 ^ 400000 := Nat.pow_le_pow_right (by decide) (by decide)
  exact cMul_small (Nat.lt_of_lt_of_le h1 this) (Nat.lt_of_lt_of_le h2 this)
theorem getO_at {es : List D} {i : Nat} {d : D} (h : es[i]? = some d) : getO (.lst es) (.int (i : Nat)) = some d := atI_at h
theorem putO_at {es : List D} {i : Nat} (d : D) (h : i < es.length) : putO (.lst es) (.int (i : Nat)) d = some (.lst (es.set i d)) := by
  show (ixN es.length ((i : Nat) : Int)).map (fun j => Own.lst (es.set j d)) = _
  rw [show ixN es.length ((i : Nat) : Int) = some i from ?_]
  · rfl
  · unfold ixN
    simp [h]
theorem ints_get {p : List Int} {i : Nat} (h : i < p.length) : (p.map PyData.int)[i]? = some (.int (gp p i)) := by
  unfold gp
  rw [List.getElem?_map, List.getElem?_eq_getElem h, List.getD_eq_getElem?_getD, List.getElem?_eq_getElem h]
  rfl
theorem ints_set (p : List Int) (i : Nat) (x : Int) : (p.map PyData.int).set i (.int x) = (p.set i x).map .int := List.map_set.symm
theorem stepP_len (m : Int) (i a : Nat) (p : List Int) (t : Int) : (stepP m i a p t).length = p.length := by
  unfold stepP
  rw [List.length_set, List.length_set]
theorem e_lchanged {cs : List Rw} (h : Coins cs) {p : List Int} (hl : p.length = cs.length) {i : Nat} {t : Int} {r : Rw} {a : Nat} (hc : Chg cs (i, t) r a) (ht : t.natAbs < 2 ^ 200) :
    m__law_changed [.imm (csD cs), .imm (psD p), .imm (.str r.nm), .imm (.int t)] = .ok (.imm (oD (chgP r.mn i a p t))) [none, none, none, none, none, none, none, none] := by
  obtain ⟨r2, ha, hr2⟩ := hc.above
  have hi : cs[i]? = some r := hc.at_
  have hm : r ∈ cs := List.mem_of_getElem? hi
  have e1 := e_at h hi
  have e2 := e_at h ha
  rw [hr2] at e2
  have x1 := ix_cs hi
  have hil : i < p.length := by rw [hl]; exact (List.getElem?_eq_some_iff.mp hi).1
  have hal : a < p.length := by rw [hl]; exact (List.getElem?_eq_some_iff.mp ha).1
  have mm := coins_mn h hm
  have cm : gMul (.int r.mn) (.int t) = some (.int (r.mn * t)) := gMul_int (cMul_ok (by omega) ht)
  have g1 : atI (p.map PyData.int) (i : Nat) = some (.int (gp p i)) := atI_at (ints_get hil)
  have p1 : putO (.lst (p.map .int)) (.int (i : Nat)) (.int (gp p i - r.mn * t)) = some (.lst ((p.set i (gp p i - r.mn * t)).map .int)) := by
    rw [putO_at _ (by rw [List.length_map]; exact hil), ints_set]
  generalize hq : p.set i (gp p i - r.mn * t) = q at p1
  have hql : q.length = p.length := by rw [← hq, List.length_set]
  have g2 : atI (q.map PyData.int) (a : Nat) = some (.int (gp q a)) := atI_at (ints_get (by omega))
  have p2 : putO (.lst (q.map .int)) (.int (a : Nat)) (.int (gp q a + t)) = some (.lst ((q.set a (gp q a + t)).map .int)) := by
    rw [putO_at _ (by rw [List.length_map]; omega), ints_set]
  have hstep : q.set a (gp q a + t) = stepP r.mn i a p t := by rw [← hq]; rfl
  rw [hstep] at p2
  have hsl := stepP_len r.mn i a p t
  have mn : ∃ x, minL (stepP r.mn i a p t) = some x := by
    cases e : stepP r.mn i a p t with
    | nil => rw [e] at hsl; have : 0 = p.length := hsl; omega
    | cons y ys => exact ⟨_, rfl⟩
  obtain ⟨x, hx⟩ := mn
  have px := minL_pos hx
  have gm : gMin [.list ((stepP r.mn i a p t).map .int)] = some (.int x) := by
    simp [gMin, intsD_map, hx]
  have key : (if (0 : Int) ≤ x then psD (stepP r.mn i a p t) else .none) = oD (chgP r.mn i a p t) := by
    unfold chgP
    by_cases q0 : 0 ≤ x
    · rw [if_pos q0, if_pos (px.mp q0)]; rfl
    · rw [if_neg q0, if_neg (fun z => q0 (px.mpr z))]; rfl
  rw [← key]
  generalize hS : stepP r.mn i a p t = S at *
  refine run_rt (.imm (if (0 : Int) ≤ x then psD S else .none)) [some (.imm (csD cs)), some (.imm (psD p)), some (.imm (.str r.nm)), some (.imm (.int t)), some (.imm (.int (i : Nat))), some (.imm (.int r.mn)), some (.imm (.int (a : Nat))), some (.own false (.lst (S.map .int)))] ?_ ?_
  · refine seq_nx [some (.imm (csD cs)), some (.imm (psD p)), some (.imm (.str r.nm)), some (.imm (.int t)), some (.imm (.int (i : Nat))), none, none, none] (by simp [runFn, startE, keepO, keepA, sRet, sRetN, sRetA, sRetNone, sSeq, sIf, sNx, sDrop, sSet, sTg, tN, canSet, sSetN, Md.bind, Md.ret, Md.opt, mVar, mC, mT, m2, m1, mIf, mAndV, mOrV, mNotV, mAndT, mOrT, mNotT, mChain, mCons, mNil, mCall, mCallN, mImm, mOwn, mTup, mLst, mLstN, mItems, mFrz, rs, im, rss, ims, ownD, argOf, argsOf, slotOf, isSlot, cellsBack, backA, mCallA, List.filterMap_cons, List.filterMap_nil, List.findIdx?_cons, List.findIdx?_nil, e1]) ?_
    refine seq_nx [some (.imm (csD cs)), some (.imm (psD p)), some (.imm (.str r.nm)), some (.imm (.int t)), some (.imm (.int (i : Nat))), some (.imm (.int r.mn)), some (.imm (.int (a : Nat))), none] (by simp [sPar, runFn, startE, keepO, keepA, sRet, sRetN, sRetA, sRetNone, sSeq, sIf, sNx, sDrop, sSet, sTg, tN, canSet, sSetN, Md.bind, Md.ret, Md.opt, mVar, mC, mT, m2, m1, mIf, mAndV, mOrV, mNotV, mAndT, mOrT, mNotT, mChain, mCons, mNil, mCall, mCallN, mImm, mOwn, mTup, mLst, mLstN, mItems, mFrz, rs, im, rss, ims, ownD, argOf, argsOf, slotOf, isSlot, cellsBack, backA, mCallA, List.filterMap_cons, List.filterMap_nil, List.findIdx?_cons, List.findIdx?_nil, x1, ix_rw1, ix_rw2, e2]) ?_
    refine seq_nx [some (.imm (csD cs)), some (.imm (psD p)), some (.imm (.str r.nm)), some (.imm (.int t)), some (.imm (.int (i : Nat))), some (.imm (.int r.mn)), some (.imm (.int (a : Nat))), some (.own false (.lst (p.map .int)))] (by simp [runFn, startE, keepO, keepA, sRet, sRetN, sRetA, sRetNone, sSeq, sIf, sNx, sDrop, sSet, sTg, tN, canSet, sSetN, Md.bind, Md.ret, Md.opt, mVar, mC, mT, m2, m1, mIf, mAndV, mOrV, mNotV, mAndT, mOrT, mNotT, mChain, mCons, mNil, mCall, mCallN, mImm, mOwn, mTup, mLst, mLstN, mItems, mFrz, rs, im, rss, ims, ownD, argOf, argsOf, slotOf, isSlot, cellsBack, backA, mCallA, List.filterMap_cons, List.filterMap_nil, List.findIdx?_cons, List.findIdx?_nil, gList, psD]) ?_
    refine seq_nx [some (.imm (csD cs)), some (.imm (psD p)), some (.imm (.str r.nm)), some (.imm (.int t)), some (.imm (.int (i : Nat))), some (.imm (.int r.mn)), some (.imm (.int (a : Nat))), some (.own false (.lst (q.map .int)))] ?_ ?_
    · simp [sPut, runFn, startE, keepO, keepA, sRet, sRetN, sRetA, sRetNone, sSeq, sIf, sNx, sDrop, sSet, sTg, tN, canSet, sSetN, Md.bind, Md.ret, Md.opt, mVar, mC, mT, m2, m1, mIf, mAndV, mOrV, mNotV, mAndT, mOrT, mNotT, mChain, mCons, mNil, mCall, mCallN, mImm, mOwn, mTup, mLst, mLstN, mItems, mFrz, rs, im, rss, ims, ownD, argOf, argsOf, slotOf, isSlot, cellsBack, backA, mCallA, List.filterMap_cons, List.filterMap_nil, List.findIdx?_cons, List.findIdx?_nil, gIx_lst, g1, gSub_int, cm, p1]
    refine seq_nx [some (.imm (csD cs)), some (.imm (psD p)), some (.imm (.str r.nm)), some (.imm (.int t)), some (.imm (.int (i : Nat))), some (.imm (.int r.mn)), some (.imm (.int (a : Nat))), some (.own false (.lst (S.map .int)))] ?_ ?_
    · simp [sPut, runFn, startE, keepO, keepA, sRet, sRetN, sRetA, sRetNone, sSeq, sIf, sNx, sDrop, sSet, sTg, tN, canSet, sSetN, Md.bind, Md.ret, Md.opt, mVar, mC, mT, m2, m1, mIf, mAndV, mOrV, mNotV, mAndT, mOrT, mNotT, mChain, mCons, mNil, mCall, mCallN, mImm, mOwn, mTup, mLst, mLstN, mItems, mFrz, rs, im, rss, ims, ownD, argOf, argsOf, slotOf, isSlot, cellsBack, backA, mCallA, List.filterMap_cons, List.filterMap_nil, List.findIdx?_cons, List.findIdx?_nil, gIx_lst, g2, gAdd_int, p2]
    by_cases q0 : 0 ≤ x
    · simp [runFn, startE, keepO, keepA, sRet, sRetN, sRetA, sRetNone, sSeq, sIf, sNx, sDrop, sSet, sTg, tN, canSet, sSetN, Md.bind, Md.ret, Md.opt, mVar, mC, mT, m2, m1, mIf, mAndV, mOrV, mNotV, mAndT, mOrT, mNotT, mChain, mCons, mNil, mCall, mCallN, mImm, mOwn, mTup, mLst, mLstN, mItems, mFrz, rs, im, rss, ims, ownD, argOf, argsOf, slotOf, isSlot, cellsBack, backA, mCallA, List.filterMap_cons, List.filterMap_nil, List.findIdx?_cons, List.findIdx?_nil, gm, gGe_int, q0, gTuple, psD]
    · simp [runFn, startE, keepO, keepA, sRet, sRetN, sRetA, sRetNone, sSeq, sIf, sNx, sDrop, sSet, sTg, tN, canSet, sSetN, Md.bind, Md.ret, Md.opt, mVar, mC, mT, m2, m1, mIf, mAndV, mOrV, mNotV, mAndT, mOrT, mNotT, mChain, mCons, mNil, mCall, mCallN, mImm, mOwn, mTup, mLst, mLstN, mItems, mFrz, rs, im, rss, ims, ownD, argOf, argsOf, slotOf, isSlot, cellsBack, backA, mCallA, List.filterMap_cons, List.filterMap_nil, List.findIdx?_cons, List.findIdx?_nil, gm, gGe_int, q0]
  · simp [keepO, keepA]
end DV

set_option Elab.async false
set_option linter.all false
set_option maxRecDepth 100000
set_option maxHeartbeats 4000000
set_option autoImplicit false
/-! MxH: changes, the program's side. -/
namespace DV
open PySem L2
theorem place_loop {a0 : Option A} {s : Str} (hs : PyData.strOk s = true) : ∀ (cs : List Rw) (k i : Nat) (r : Rw) (x y : Option D), (∀ q ∈ cs, PyData.strOk q.nm = true) → cs[i]? = some r → r.nm = s → (∀ j q, j < i → cs[j]? = some q → q.nm ≠ s) →
    forL (tTupT 2 (tsCons (tN 2) (tsCons (tN 3) tsNil))) b_place_of_1 (enumD k (cs.map rwD)) [a0, some (.imm (.str s)), x.map .imm, y.map .imm] =
      .ok (.rt (.imm (.int ((k + i : Nat) : Int)))) [a0, some (.imm (.str s)), some (.imm (.int ((k + i : Nat) : Int))), some (.imm (rwD r))]
  | [], k, i, r, x, y, _, h, _, _ => by simp at h
  | q :: cs, k, i, r, x, y, ht, h, hr, hj => by
    have t1 : tTupT 2 (tsCons (tN 2) (tsCons (tN 3) tsNil)) (.tuple [.int (k : Nat), rwD q]) [a0, some (.imm (.str s)), x.map .imm, y.map .imm] = some [a0, some (.imm (.str s)), some (.imm (.int (k : Nat))), some (.imm (rwD q))] := by
      cases x <;> cases y <;> simp [tTupT, tsCons, tsNil, tN, canSet]
    have ge : gEq (.str q.nm) (.str s) = some (.bool (decide (q.nm = s))) := gEq_str (ht q (.head _)) hs
    cases i with
    | zero =>
      have e : q = r := Option.some.inj h
      subst e
      rw [decide_eq_true hr] at ge
      have bd : b_place_of_1 [a0, some (.imm (.str s)), some (.imm (.int (k : Nat))), some (.imm (rwD q))] = .ok (.rt (.imm (.int (k : Nat)))) [a0, some (.imm (.str s)), some (.imm (.int (k : Nat))), some (.imm (rwD q))] := by
        simp [b_place_of_1, runFn, startE, keepO, keepA, sRet, sRetN, sRetA, sRetNone, sSeq, sIf, sNx, sDrop, sSet, sTg, tN, canSet, sSetN, Md.bind, Md.ret, Md.opt, mVar, mC, mT, m2, m1, mIf, mAndV, mOrV, mNotV, mAndT, mOrT, mNotT, mChain, mCons, mNil, mCall, mCallN, mImm, mOwn, mTup, mLst, mLstN, mItems, mFrz, rs, im, rss, ims, ownD, argOf, argsOf, slotOf, isSlot, cellsBack, backA, mCallA, List.filterMap_cons, List.filterMap_nil, List.findIdx?_cons, List.findIdx?_nil, ix_rw0, ge]
      show forL _ _ (PyData.tuple [.int (k : Nat), rwD q] :: enumD (k + 1) (cs.map rwD)) _ = _
      simp only [forL, t1, bd]
      rfl
    | succ i =>
      have ne := hj 0 q (Nat.succ_pos _) rfl
      rw [decide_eq_false ne] at ge
      have bd : b_place_of_1 [a0, some (.imm (.str s)), some (.imm (.int (k : Nat))), some (.imm (rwD q))] = .ok .nx [a0, some (.imm (.str s)), some (.imm (.int (k : Nat))), some (.imm (rwD q))] := by
        simp [b_place_of_1, runFn, startE, keepO, keepA, sRet, sRetN, sRetA, sRetNone, sSeq, sIf, sNx, sDrop, sSet, sTg, tN, canSet, sSetN, Md.bind, Md.ret, Md.opt, mVar, mC, mT, m2, m1, mIf, mAndV, mOrV, mNotV, mAndT, mOrT, mNotT, mChain, mCons, mNil, mCall, mCallN, mImm, mOwn, mTup, mLst, mLstN, mItems, mFrz, rs, im, rss, ims, ownD, argOf, argsOf, slotOf, isSlot, cellsBack, backA, mCallA, List.filterMap_cons, List.filterMap_nil, List.findIdx?_cons, List.findIdx?_nil, ix_rw0, ge]
      have ih := place_loop (a0 := a0) hs cs (k + 1) i r (some (.int (k : Nat))) (some (rwD q)) (fun z m => ht z (.tail _ m)) h hr fun j z hlt e => hj (j + 1) z (Nat.succ_lt_succ hlt) e
      rw [show k + 1 + i = k + (i + 1) by omega] at ih
      show forL _ _ (PyData.tuple [.int (k : Nat), rwD q] :: enumD (k + 1) (cs.map rwD)) _ = _
      simp only [forL, t1, bd]
      exact ih
theorem e_place {cs : List Rw} (h : Coins cs) {i : Nat} {r : Rw} (hi : cs[i]? = some r) : m_place_of [.imm (csD cs), .imm (.str r.nm)] = .ok (.imm (.int (i : Nat))) [none, none, none, none] := by
  have l := place_loop (a0 := some (.imm (csD cs))) (coins_texts h (List.mem_of_getElem? hi)).1 cs 0 i r none none (fun q m => (coins_texts h m).1) hi rfl (fun j q hlt e z => by
    have := at_uniq (coins_nodup h) e hi z
    omega)
  rw [Nat.zero_add] at l
  refine run_rt (.imm (.int (i : Nat))) _ (sSeq_rt ((sFor_eq (ds := enumD 0 (cs.map rwD)) ?_).trans l)) ?_
  · simp [mEnum, runFn, startE, keepO, keepA, sRet, sRetN, sRetA, sRetNone, sSeq, sIf, sNx, sDrop, sSet, sTg, tN, canSet, sSetN, Md.bind, Md.ret, Md.opt, mVar, mC, mT, m2, m1, mIf, mAndV, mOrV, mNotV, mAndT, mOrT, mNotT, mChain, mCons, mNil, mCall, mCallN, mImm, mOwn, mTup, mLst, mLstN, mItems, mFrz, rs, im, rss, ims, ownD, argOf, argsOf, slotOf, isSlot, cellsBack, backA, mCallA, List.filterMap_cons, List.filterMap_nil, List.findIdx?_cons, List.findIdx?_nil, csD, items]
  · simp [keepO, keepA]
theorem posB_iff {p : List Int} : posB p = true ↔ ∀ x ∈ p, 0 ≤ x := by
  unfold posB
  rw [List.all_eq_true]
  exact ⟨fun h x m => of_decide_eq_true (h x m), fun h x m => decide_eq_true (h x m)⟩
theorem gp_mem {p : List Int} {i : Nat} (h : i < p.length) : gp p i ∈ p := by
  unfold gp
  rw [List.getD_eq_getElem?_getD, List.getElem?_eq_getElem h]
  exact List.getElem_mem h
theorem gp_set_same {p : List Int} {i : Nat} {x : Int} (h : i < p.length) : gp (p.set i x) i = x := by
  unfold gp
  rw [List.getD_eq_getElem?_getD, List.getElem?_set_self h]
  rfl
theorem gp_set_ne {p : List Int} {i j : Nat} {x : Int} (h : i ≠ j) : gp (p.set i x) j = gp p j := by
  unfold gp
  rw [List.getD_eq_getElem?_getD, List.getElem?_set_ne h, List.getD_eq_getElem?_getD]
theorem pos_step {m : Int} {i a : Nat} {p : List Int} {t : Int} (hp : ∀ x ∈ p, 0 ≤ x) (hi : i < p.length) (ha : a < p.length) (ne : a ≠ i) :
    posB (stepP m i a p t) = (decide (0 ≤ gp (stepP m i a p t) i) && decide (0 ≤ gp (stepP m i a p t) a)) := by
  have hl := stepP_len m i a p t
  by_cases q : 0 ≤ gp (stepP m i a p t) i ∧ 0 ≤ gp (stepP m i a p t) a
  · rw [decide_eq_true q.1, decide_eq_true q.2]
    refine posB_iff.mpr fun x mx => ?_
    obtain ⟨j, hj⟩ := List.mem_iff_getElem?.mp mx
    have hjl := (List.getElem?_eq_some_iff.mp hj).1
    have gx : gp (stepP m i a p t) j = x := by
      unfold gp
      rw [List.getD_eq_getElem?_getD, hj]
      rfl
    by_cases h1 : j = i
    · subst h1; rw [← gx]; exact q.1
    · by_cases h2 : j = a
      · subst h2; rw [← gx]; exact q.2
      · have : gp (stepP m i a p t) j = gp p j := by
          unfold stepP
          rw [gp_set_ne (fun e => h2 e.symm), gp_set_ne (fun e => h1 e.symm)]
        rw [← gx, this]
        exact hp _ (gp_mem (by omega))
  · have nb : posB (stepP m i a p t) = false := by
      cases e : posB (stepP m i a p t) with
      | false => rfl
      | true =>
        have := posB_iff.mp e
        exact absurd ⟨this _ (gp_mem (by omega)), this _ (gp_mem (by omega))⟩ q
    rw [nb]
    by_cases h1 : 0 ≤ gp (stepP m i a p t) i
    · have h2 : ¬ 0 ≤ gp (stepP m i a p t) a := fun z => q ⟨h1, z⟩
      rw [decide_eq_false h2, Bool.and_false]
    · rw [decide_eq_false h1, Bool.false_and]
def chD (cs : List Rw) (c : Nat × Int) : D := match cs[c.1]? with
  | some r => .tuple [.str r.nm, .int c.2]
  | none => .none
theorem chD_at {cs : List Rw} {i : Nat} {t : Int} {r : Rw} (h : cs[i]? = some r) : chD cs (i, t) = .tuple [.str r.nm, .int t] := by
  unfold chD
  rw [h]
/-- changed(..): what stands first in its answer -/
theorem e_changed {cs : List Rw} (h : Coins cs) {p : List Int} (hl : p.length = cs.length) (hp : ∀ x ∈ p, 0 ≤ x) {i : Nat} {t : Int} {r : Rw} {a : Nat} (hc : Chg cs (i, t) r a) (ht : t.natAbs < 2 ^ 200) :
    ∃ y : D, m_changed [.imm (csD cs), .imm (psD p), .imm (.tuple [.str r.nm, .int t])] = .ok (.imm (.tuple [oD (chgP r.mn i a p t), y])) [none, none, none, none, none, none, none, none] := by
  obtain ⟨r2, ha, hr2⟩ := hc.above
  have hi : cs[i]? = some r := hc.at_
  have ne : a ≠ i := hc.ne
  have hm : r ∈ cs := List.mem_of_getElem? hi
  have e1 := e_place h hi
  have e2 := e_place h ha
  rw [hr2] at e2
  have x1 := ix_cs hi
  have x2 := ix_cs ha
  have hil : i < p.length := by rw [hl]; exact (List.getElem?_eq_some_iff.mp hi).1
  have hal : a < p.length := by rw [hl]; exact (List.getElem?_eq_some_iff.mp ha).1
  have mm := coins_mn h hm
  have cm : gMul (.int r.mn) (.int t) = some (.int (r.mn * t)) := gMul_int (cMul_ok (by omega) ht)
  have g1 : getO (.lst (p.map PyData.int)) (.int (i : Nat)) = some (.int (gp p i)) := getO_at (ints_get hil)
  have p1 : putO (.lst (p.map .int)) (.int (i : Nat)) (.int (gp p i - r.mn * t)) = some (.lst ((p.set i (gp p i - r.mn * t)).map .int)) := by
    rw [putO_at _ (by rw [List.length_map]; exact hil), ints_set]
  generalize hq : p.set i (gp p i - r.mn * t) = q at p1
  have hql : q.length = p.length := by rw [← hq, List.length_set]
  have g2 : getO (.lst (q.map PyData.int)) (.int (a : Nat)) = some (.int (gp q a)) := getO_at (ints_get (by omega))
  have p2 : putO (.lst (q.map .int)) (.int (a : Nat)) (.int (gp q a + t)) = some (.lst ((q.set a (gp q a + t)).map .int)) := by
    rw [putO_at _ (by rw [List.length_map]; omega), ints_set]
  have hstep : q.set a (gp q a + t) = stepP r.mn i a p t := by rw [← hq]; rfl
  rw [hstep] at p2
  have hsl := stepP_len r.mn i a p t
  have ps := pos_step (m := r.mn) (t := t) hp hil hal ne
  unfold chgP
  rw [ps]
  generalize hS : stepP r.mn i a p t = S at *
  have s1 : atI (S.map PyData.int) (i : Nat) = some (.int (gp S i)) := atI_at (ints_get (by omega))
  have s2 : atI (S.map PyData.int) (a : Nat) = some (.int (gp S a)) := atI_at (ints_get (by omega))
  have c0 : gIx (.tuple [.str r.nm, .int t]) (.int 0) = some (.str r.nm) := rfl
  have c1 : gIx (.tuple [.str r.nm, .int t]) (.int 1) = some (.int t) := rfl
  generalize hC : PyData.tuple [.str r.nm, .int t] = C at c0 c1
  -- the state ahead of the loop
  have pre : ∀ {f : Md Fw} {res : Rs Fw}, f [some (.imm (csD cs)), some (.imm (psD p)), some (.imm C), some (.imm (.int (i : Nat))), some (.imm (.int r.mn)), some (.imm (.int (a : Nat))), some (.own false (.lst (S.map .int))), none] = res →
      (sSeq (sSet 3 (mImm (mCallA 2 m_place_of (mCons (mVar 0) (mCons (m2 gIx (mVar 2) (mC (.int 0))) mNil)))))
      (sSeq (sPar 4 5 (mCons (m2 gIx (m2 gIx (mVar 0) (mVar 3)) (mC (.int 1))) (mCons (mImm (mCallA 2 m_place_of (mCons (mVar 0) (mCons (m2 gIx (m2 gIx (mVar 0) (mVar 3)) (mC (.int 2))) mNil)))) mNil)))
      (sSeq (sSetN 6 (mCallN gList (mCons (mVar 1) mNil)))
      (sSeq (sAug 6 DV.gSub (mVar 3) (m2 gMul (mVar 4) (m2 gIx (mVar 2) (mC (.int 1)))))
      (sSeq (sAug 6 gAddI (mVar 5) (m2 gIx (mVar 2) (mC (.int 1)))) f))))) [some (.imm (csD cs)), some (.imm (psD p)), some (.imm C), none, none, none, none, none] = res := fun {f res} hf => by
    refine seq_nx [some (.imm (csD cs)), some (.imm (psD p)), some (.imm C), some (.imm (.int (i : Nat))), none, none, none, none] (by simp [runFn, startE, keepO, keepA, sRet, sRetN, sRetA, sRetNone, sSeq, sIf, sNx, sDrop, sSet, sTg, tN, canSet, sSetN, Md.bind, Md.ret, Md.opt, mVar, mC, mT, m2, m1, mIf, mAndV, mOrV, mNotV, mAndT, mOrT, mNotT, mChain, mCons, mNil, mCall, mCallN, mImm, mOwn, mTup, mLst, mLstN, mItems, mFrz, rs, im, rss, ims, ownD, argOf, argsOf, slotOf, isSlot, cellsBack, backA, mCallA, List.filterMap_cons, List.filterMap_nil, List.findIdx?_cons, List.findIdx?_nil, e1, c0]) ?_
    refine seq_nx [some (.imm (csD cs)), some (.imm (psD p)), some (.imm C), some (.imm (.int (i : Nat))), some (.imm (.int r.mn)), some (.imm (.int (a : Nat))), none, none] (by simp [sPar, runFn, startE, keepO, keepA, sRet, sRetN, sRetA, sRetNone, sSeq, sIf, sNx, sDrop, sSet, sTg, tN, canSet, sSetN, Md.bind, Md.ret, Md.opt, mVar, mC, mT, m2, m1, mIf, mAndV, mOrV, mNotV, mAndT, mOrT, mNotT, mChain, mCons, mNil, mCall, mCallN, mImm, mOwn, mTup, mLst, mLstN, mItems, mFrz, rs, im, rss, ims, ownD, argOf, argsOf, slotOf, isSlot, cellsBack, backA, mCallA, List.filterMap_cons, List.filterMap_nil, List.findIdx?_cons, List.findIdx?_nil, x1, ix_rw1, ix_rw2, e2]) ?_
    refine seq_nx [some (.imm (csD cs)), some (.imm (psD p)), some (.imm C), some (.imm (.int (i : Nat))), some (.imm (.int r.mn)), some (.imm (.int (a : Nat))), some (.own false (.lst (p.map .int))), none] (by simp [runFn, startE, keepO, keepA, sRet, sRetN, sRetA, sRetNone, sSeq, sIf, sNx, sDrop, sSet, sTg, tN, canSet, sSetN, Md.bind, Md.ret, Md.opt, mVar, mC, mT, m2, m1, mIf, mAndV, mOrV, mNotV, mAndT, mOrT, mNotT, mChain, mCons, mNil, mCall, mCallN, mImm, mOwn, mTup, mLst, mLstN, mItems, mFrz, rs, im, rss, ims, ownD, argOf, argsOf, slotOf, isSlot, cellsBack, backA, mCallA, List.filterMap_cons, List.filterMap_nil, List.findIdx?_cons, List.findIdx?_nil, gList, psD]) ?_
    refine seq_nx [some (.imm (csD cs)), some (.imm (psD p)), some (.imm C), some (.imm (.int (i : Nat))), some (.imm (.int r.mn)), some (.imm (.int (a : Nat))), some (.own false (.lst (q.map .int))), none] ?_ ?_
    · simp [sAug, runFn, startE, keepO, keepA, sRet, sRetN, sRetA, sRetNone, sSeq, sIf, sNx, sDrop, sSet, sTg, tN, canSet, sSetN, Md.bind, Md.ret, Md.opt, mVar, mC, mT, m2, m1, mIf, mAndV, mOrV, mNotV, mAndT, mOrT, mNotT, mChain, mCons, mNil, mCall, mCallN, mImm, mOwn, mTup, mLst, mLstN, mItems, mFrz, rs, im, rss, ims, ownD, argOf, argsOf, slotOf, isSlot, cellsBack, backA, mCallA, List.filterMap_cons, List.filterMap_nil, List.findIdx?_cons, List.findIdx?_nil, g1, gSub_int, c1, cm, p1]
    refine seq_nx [some (.imm (csD cs)), some (.imm (psD p)), some (.imm C), some (.imm (.int (i : Nat))), some (.imm (.int r.mn)), some (.imm (.int (a : Nat))), some (.own false (.lst (S.map .int))), none] ?_ hf
    · simp [sAug, runFn, startE, keepO, keepA, sRet, sRetN, sRetA, sRetNone, sSeq, sIf, sNx, sDrop, sSet, sTg, tN, canSet, sSetN, Md.bind, Md.ret, Md.opt, mVar, mC, mT, m2, m1, mIf, mAndV, mOrV, mNotV, mAndT, mOrT, mNotT, mChain, mCons, mNil, mCall, mCallN, mImm, mOwn, mTup, mLst, mLstN, mItems, mFrz, rs, im, rss, ims, ownD, argOf, argsOf, slotOf, isSlot, cellsBack, backA, mCallA, List.filterMap_cons, List.filterMap_nil, List.findIdx?_cons, List.findIdx?_nil, g2, gAddI_int, c1, p2]
  have lp : ∀ res, forL (tN 7) b_changed_1 [.int (i : Nat), .int (a : Nat)] [some (.imm (csD cs)), some (.imm (psD p)), some (.imm C), some (.imm (.int (i : Nat))), some (.imm (.int r.mn)), some (.imm (.int (a : Nat))), some (.own false (.lst (S.map .int))), none] = res →
      l_changed_1 [some (.imm (csD cs)), some (.imm (psD p)), some (.imm C), some (.imm (.int (i : Nat))), some (.imm (.int r.mn)), some (.imm (.int (a : Nat))), some (.own false (.lst (S.map .int))), none] = res := fun res e => by
    refine (sFor_eq (ds := [.int (i : Nat), .int (a : Nat)]) (ρ1 := [some (.imm (csD cs)), some (.imm (psD p)), some (.imm C), some (.imm (.int (i : Nat))), some (.imm (.int r.mn)), some (.imm (.int (a : Nat))), some (.own false (.lst (S.map .int))), none]) ?_).trans e
    simp [mSeq, runFn, startE, keepO, keepA, sRet, sRetN, sRetA, sRetNone, sSeq, sIf, sNx, sDrop, sSet, sTg, tN, canSet, sSetN, Md.bind, Md.ret, Md.opt, mVar, mC, mT, m2, m1, mIf, mAndV, mOrV, mNotV, mAndT, mOrT, mNotT, mChain, mCons, mNil, mCall, mCallN, mImm, mOwn, mTup, mLst, mLstN, mItems, mFrz, rs, im, rss, ims, ownD, argOf, argsOf, slotOf, isSlot, cellsBack, backA, mCallA, List.filterMap_cons, List.filterMap_nil, List.findIdx?_cons, List.findIdx?_nil, lim, items]
  have t7 : ∀ (v : D) (w : Option D), tN 7 v [some (.imm (csD cs)), some (.imm (psD p)), some (.imm C), some (.imm (.int (i : Nat))), some (.imm (.int r.mn)), some (.imm (.int (a : Nat))), some (.own false (.lst (S.map .int))), w.map .imm] =
      some [some (.imm (csD cs)), some (.imm (psD p)), some (.imm C), some (.imm (.int (i : Nat))), some (.imm (.int r.mn)), some (.imm (.int (a : Nat))), some (.own false (.lst (S.map .int))), some (.imm v)] := fun v w => by
    cases w <;> simp [tN, canSet]
  by_cases q1 : 0 ≤ gp S i
  case neg =>
    refine ⟨.str r.nm, ?_⟩
    rw [decide_eq_false q1, Bool.false_and, if_neg Bool.false_ne_true]
    have q1' : gp S i < 0 := by omega
    have bd : b_changed_1 [some (.imm (csD cs)), some (.imm (psD p)), some (.imm C), some (.imm (.int (i : Nat))), some (.imm (.int r.mn)), some (.imm (.int (a : Nat))), some (.own false (.lst (S.map .int))), some (.imm (.int (i : Nat)))] =
        .ok (.rt (.imm (.tuple [.none, .str r.nm]))) [some (.imm (csD cs)), some (.imm (psD p)), some (.imm C), some (.imm (.int (i : Nat))), some (.imm (.int r.mn)), some (.imm (.int (a : Nat))), some (.own false (.lst (S.map .int))), some (.imm (.int (i : Nat)))] := by
      simp [b_changed_1, runFn, startE, keepO, keepA, sRet, sRetN, sRetA, sRetNone, sSeq, sIf, sNx, sDrop, sSet, sTg, tN, canSet, sSetN, Md.bind, Md.ret, Md.opt, mVar, mC, mT, m2, m1, mIf, mAndV, mOrV, mNotV, mAndT, mOrT, mNotT, mChain, mCons, mNil, mCall, mCallN, mImm, mOwn, mTup, mLst, mLstN, mItems, mFrz, rs, im, rss, ims, ownD, argOf, argsOf, slotOf, isSlot, cellsBack, backA, mCallA, List.filterMap_cons, List.filterMap_nil, List.findIdx?_cons, List.findIdx?_nil, gIx_lst, s1, gLt_int, q1', x1, ix_rw0, lim]
    refine run_rt (.imm (.tuple [.none, .str r.nm])) [some (.imm (csD cs)), some (.imm (psD p)), some (.imm C), some (.imm (.int (i : Nat))), some (.imm (.int r.mn)), some (.imm (.int (a : Nat))), some (.own false (.lst (S.map .int))), some (.imm (.int (i : Nat)))] (pre (sSeq_rt (lp _ ?_))) ?_
    · have t := t7 (.int (i : Nat)) none
      simp only [forL, Option.map_none] at t ⊢
      simp only [t, bd]
    · simp [keepO, keepA, oD]
  have q1' : ¬ gp S i < 0 := by omega
  have bd1 : b_changed_1 [some (.imm (csD cs)), some (.imm (psD p)), some (.imm C), some (.imm (.int (i : Nat))), some (.imm (.int r.mn)), some (.imm (.int (a : Nat))), some (.own false (.lst (S.map .int))), some (.imm (.int (i : Nat)))] =
        .ok .nx [some (.imm (csD cs)), some (.imm (psD p)), some (.imm C), some (.imm (.int (i : Nat))), some (.imm (.int r.mn)), some (.imm (.int (a : Nat))), some (.own false (.lst (S.map .int))), some (.imm (.int (i : Nat)))] := by
      simp [b_changed_1, runFn, startE, keepO, keepA, sRet, sRetN, sRetA, sRetNone, sSeq, sIf, sNx, sDrop, sSet, sTg, tN, canSet, sSetN, Md.bind, Md.ret, Md.opt, mVar, mC, mT, m2, m1, mIf, mAndV, mOrV, mNotV, mAndT, mOrT, mNotT, mChain, mCons, mNil, mCall, mCallN, mImm, mOwn, mTup, mLst, mLstN, mItems, mFrz, rs, im, rss, ims, ownD, argOf, argsOf, slotOf, isSlot, cellsBack, backA, mCallA, List.filterMap_cons, List.filterMap_nil, List.findIdx?_cons, List.findIdx?_nil, gIx_lst, s1, gLt_int, q1']
  by_cases q2 : 0 ≤ gp S a
  case neg =>
    refine ⟨.str r2.nm, ?_⟩
    rw [decide_eq_false q2, Bool.and_false, if_neg Bool.false_ne_true]
    have q2' : gp S a < 0 := by omega
    have bd : b_changed_1 [some (.imm (csD cs)), some (.imm (psD p)), some (.imm C), some (.imm (.int (i : Nat))), some (.imm (.int r.mn)), some (.imm (.int (a : Nat))), some (.own false (.lst (S.map .int))), some (.imm (.int (a : Nat)))] =
        .ok (.rt (.imm (.tuple [.none, .str r2.nm]))) [some (.imm (csD cs)), some (.imm (psD p)), some (.imm C), some (.imm (.int (i : Nat))), some (.imm (.int r.mn)), some (.imm (.int (a : Nat))), some (.own false (.lst (S.map .int))), some (.imm (.int (a : Nat)))] := by
      simp [b_changed_1, runFn, startE, keepO, keepA, sRet, sRetN, sRetA, sRetNone, sSeq, sIf, sNx, sDrop, sSet, sTg, tN, canSet, sSetN, Md.bind, Md.ret, Md.opt, mVar, mC, mT, m2, m1, mIf, mAndV, mOrV, mNotV, mAndT, mOrT, mNotT, mChain, mCons, mNil, mCall, mCallN, mImm, mOwn, mTup, mLst, mLstN, mItems, mFrz, rs, im, rss, ims, ownD, argOf, argsOf, slotOf, isSlot, cellsBack, backA, mCallA, List.filterMap_cons, List.filterMap_nil, List.findIdx?_cons, List.findIdx?_nil, gIx_lst, s2, gLt_int, q2', x2, ix_rw0, lim]
    refine run_rt (.imm (.tuple [.none, .str r2.nm])) [some (.imm (csD cs)), some (.imm (psD p)), some (.imm C), some (.imm (.int (i : Nat))), some (.imm (.int r.mn)), some (.imm (.int (a : Nat))), some (.own false (.lst (S.map .int))), some (.imm (.int (a : Nat)))] (pre (sSeq_rt (lp _ ?_))) ?_
    · have t := t7 (.int (i : Nat)) none
      have t2 := t7 (.int (a : Nat)) (some (.int (i : Nat)))
      simp only [forL, Option.map_none, Option.map_some] at t t2 ⊢
      simp only [t, bd1, t2, bd]
    · simp [keepO, keepA, oD]
  have q2' : ¬ gp S a < 0 := by omega
  have bd2 : b_changed_1 [some (.imm (csD cs)), some (.imm (psD p)), some (.imm C), some (.imm (.int (i : Nat))), some (.imm (.int r.mn)), some (.imm (.int (a : Nat))), some (.own false (.lst (S.map .int))), some (.imm (.int (a : Nat)))] =
        .ok .nx [some (.imm (csD cs)), some (.imm (psD p)), some (.imm C), some (.imm (.int (i : Nat))), some (.imm (.int r.mn)), some (.imm (.int (a : Nat))), some (.own false (.lst (S.map .int))), some (.imm (.int (a : Nat)))] := by
      simp [b_changed_1, runFn, startE, keepO, keepA, sRet, sRetN, sRetA, sRetNone, sSeq, sIf, sNx, sDrop, sSet, sTg, tN, canSet, sSetN, Md.bind, Md.ret, Md.opt, mVar, mC, mT, m2, m1, mIf, mAndV, mOrV, mNotV, mAndT, mOrT, mNotT, mChain, mCons, mNil, mCall, mCallN, mImm, mOwn, mTup, mLst, mLstN, mItems, mFrz, rs, im, rss, ims, ownD, argOf, argsOf, slotOf, isSlot, cellsBack, backA, mCallA, List.filterMap_cons, List.filterMap_nil, List.findIdx?_cons, List.findIdx?_nil, gIx_lst, s2, gLt_int, q2']
  refine ⟨.none, ?_⟩
  rw [decide_eq_true q1, decide_eq_true q2, Bool.and_self, if_pos rfl]
  refine run_rt (.imm (.tuple [psD S, .none])) [some (.imm (csD cs)), some (.imm (psD p)), some (.imm C), some (.imm (.int (i : Nat))), some (.imm (.int r.mn)), some (.imm (.int (a : Nat))), some (.own false (.lst (S.map .int))), some (.imm (.int (a : Nat)))] (pre (seq_nx [some (.imm (csD cs)), some (.imm (psD p)), some (.imm C), some (.imm (.int (i : Nat))), some (.imm (.int r.mn)), some (.imm (.int (a : Nat))), some (.own false (.lst (S.map .int))), some (.imm (.int (a : Nat)))] (lp _ ?_) ?_)) ?_
  · have t := t7 (.int (i : Nat)) none
    have t2 := t7 (.int (a : Nat)) (some (.int (i : Nat)))
    simp only [forL, Option.map_none, Option.map_some] at t t2 ⊢
    simp only [t, bd1, t2, bd2]
  · simp [runFn, startE, keepO, keepA, sRet, sRetN, sRetA, sRetNone, sSeq, sIf, sNx, sDrop, sSet, sTg, tN, canSet, sSetN, Md.bind, Md.ret, Md.opt, mVar, mC, mT, m2, m1, mIf, mAndV, mOrV, mNotV, mAndT, mOrT, mNotT, mChain, mCons, mNil, mCall, mCallN, mImm, mOwn, mTup, mLst, mLstN, mItems, mFrz, rs, im, rss, ims, ownD, argOf, argsOf, slotOf, isSlot, cellsBack, backA, mCallA, List.filterMap_cons, List.filterMap_nil, List.findIdx?_cons, List.findIdx?_nil, gTuple, lim, psD]
  · simp [keepO, keepA, oD]
end DV

set_option Elab.async false
set_option linter.all false
set_option maxRecDepth 100000
set_option maxHeartbeats 4000000
set_option autoImplicit false
/-! MxI: rows of changes, done one by one. -/
namespace DV
open PySem L2
def chgO (cs : List Rw) (p : List Int) (c : Nat × Int) : Option (List Int) := match cs[c.1]? with
  | some r => match cs.findIdx? fun q => decide (q.nm = r.up) with
    | some a => chgP r.mn c.1 a p c.2
    | none => none
  | none => none
theorem chgO_eq {cs : List Rw} (h : Coins cs) {p : List Int} {c : Nat × Int} {r : Rw} {a : Nat} (hc : Chg cs c r a) : chgO cs p c = chgP r.mn c.1 a p c.2 := by
  obtain ⟨r2, ha, e⟩ := hc.above
  have f : (cs.findIdx? fun q => decide (q.nm = r.up)) = some a := by
    rw [List.findIdx?_eq_some_iff_getElem]
    obtain ⟨hl, he⟩ := List.getElem?_eq_some_iff.mp ha
    refine ⟨hl, by rw [he]; exact decide_eq_true e, fun j hj z => ?_⟩
    have z := of_decide_eq_true z
    have hj2 : cs[j]? = some cs[j] := List.getElem?_eq_getElem (by omega)
    have := at_uniq (coins_nodup h) hj2 ha (z.trans e.symm)
    omega
  unfold chgO
  rw [hc.at_]
  simp only [f]
/-- a row of changes that can be asked for -/
def OkRow (cs : List Rw) (L : List (Nat × Int)) : Prop := ∀ c ∈ L, (∃ r a, Chg cs c r a) ∧ c.2.natAbs < 2 ^ 200
theorem OkRow.tail {cs : List Rw} {c : Nat × Int} {L : List (Nat × Int)} (h : OkRow cs (c :: L)) : OkRow cs L := fun x m => h x (.tail _ m)
def rowsD (cs : List Rw) (L : List (Nat × Int)) : D := .list (L.map (chD cs))
def doneO (cs : List Rw) (o : Option (List Int)) (L : List (Nat × Int)) : Option (List Int) := L.foldl (fun o c => o.bind fun p => chgO cs p c) o
/-- a purse that may be none -/
def OkP (cs : List Rw) (o : Option (List Int)) : Prop := ∀ p, o = some p → p.length = cs.length ∧ ∀ x ∈ p, 0 ≤ x
theorem chgP_ok {cs : List Rw} {m : Int} {i a : Nat} {p : List Int} {t : Int} (hl : p.length = cs.length) : OkP cs (chgP m i a p t) := fun q e => by
  unfold chgP at e
  split at e
  · rename_i z
    cases e
    exact ⟨by rw [stepP_len]; exact hl, posB_iff.mp z⟩
  · cases e
theorem chgO_ok {cs : List Rw} {p : List Int} {c : Nat × Int} (hl : p.length = cs.length) : OkP cs (chgO cs p c) := fun q e => by
  unfold chgO at e
  split at e
  · split at e
    · exact chgP_ok hl q e
    · cases e
  · cases e
theorem OkP.step {cs : List Rw} {o : Option (List Int)} (h : OkP cs o) (c : Nat × Int) : OkP cs (o.bind fun p => chgO cs p c) := fun q e => by
  cases o with
  | none => cases e
  | some p => exact chgO_ok (h p rfl).1 q e
theorem doneO_ok {cs : List Rw} : ∀ (L : List (Nat × Int)) (o : Option (List Int)), OkP cs o → OkP cs (doneO cs o L)
  | [], _, h => h
  | c :: L, o, h => doneO_ok L _ (h.step c)
theorem isNone_oD (o : Option (List Int)) : isNone (oD o) = o.isNone := by cases o <;> rfl
theorem doneO_none (cs : List Rw) : ∀ L : List (Nat × Int), doneO cs none L = none
  | [] => rfl
  | _ :: L => doneO_none cs L
theorem done_loop {cs : List Rw} (h : Coins cs) {a2 : Option A} : ∀ (L : List (Nat × Int)) (o : Option (List Int)) (x : Option D), OkRow cs L → OkP cs o →
    ∃ y : Option D, forL (tN 3) b_done_1 (L.map (chD cs)) [some (.imm (csD cs)), some (.imm (oD o)), a2, x.map .imm] = .ok .nx [some (.imm (csD cs)), some (.imm (oD (doneO cs o L))), a2, y.map .imm]
  | [], o, x, _, _ => ⟨x, rfl⟩
  | (i, t) :: L, o, x, hr, hp => by
    obtain ⟨⟨r, a, hc⟩, ht⟩ := hr (i, t) (.head _)
    have hi : cs[i]? = some r := hc.at_
    have t1 : tN 3 (chD cs (i, t)) [some (.imm (csD cs)), some (.imm (oD o)), a2, x.map .imm] = some [some (.imm (csD cs)), some (.imm (oD o)), a2, some (.imm (chD cs (i, t)))] := by
      cases x <;> simp [tN, canSet]
    have bd : b_done_1 [some (.imm (csD cs)), some (.imm (oD o)), a2, some (.imm (chD cs (i, t)))] = .ok .nx [some (.imm (csD cs)), some (.imm (oD (o.bind fun p => chgO cs p (i, t)))), a2, some (.imm (chD cs (i, t)))] := by
      rw [chD_at hi]
      cases o with
      | none => simp [b_done_1, runFn, startE, keepO, keepA, sRet, sRetN, sRetA, sRetNone, sSeq, sIf, sNx, sDrop, sSet, sTg, tN, canSet, sSetN, Md.bind, Md.ret, Md.opt, mVar, mC, mT, m2, m1, mIf, mAndV, mOrV, mNotV, mAndT, mOrT, mNotT, mChain, mCons, mNil, mCall, mCallN, mImm, mOwn, mTup, mLst, mLstN, mItems, mFrz, rs, im, rss, ims, ownD, argOf, argsOf, slotOf, isSlot, cellsBack, backA, mCallA, List.filterMap_cons, List.filterMap_nil, List.findIdx?_cons, List.findIdx?_nil, gNotN_eq, oD, isNone]
      | some p =>
        obtain ⟨y, e⟩ := e_changed h (hp p rfl).1 (hp p rfl).2 hc ht
        have eo : (some p).bind (fun p => chgO cs p (i, t)) = chgP r.mn i a p t := chgO_eq h hc
        rw [eo]
        generalize chgP r.mn i a p t = w at e
        have e2 : m_changed [.imm (csD cs), .imm (oD (some p)), .imm (.tuple [.str r.nm, .int t])] = .ok (.imm (.tuple [oD w, y])) [none, none, none, none, none, none, none, none] := e
        have g0 : gIx (.tuple [oD w, y]) (.int 0) = some (oD w) := rfl
        have n0 : isNone (oD (some p)) = false := rfl
        generalize oD (some p) = P at e2 n0
        simp [b_done_1, runFn, startE, keepO, keepA, sRet, sRetN, sRetA, sRetNone, sSeq, sIf, sNx, sDrop, sSet, sTg, tN, canSet, sSetN, Md.bind, Md.ret, Md.opt, mVar, mC, mT, m2, m1, mIf, mAndV, mOrV, mNotV, mAndT, mOrT, mNotT, mChain, mCons, mNil, mCall, mCallN, mImm, mOwn, mTup, mLst, mLstN, mItems, mFrz, rs, im, rss, ims, ownD, argOf, argsOf, slotOf, isSlot, cellsBack, backA, mCallA, List.filterMap_cons, List.filterMap_nil, List.findIdx?_cons, List.findIdx?_nil, gNotN_eq, n0, e2, g0]
    obtain ⟨y, ih⟩ := done_loop h (a2 := a2) L (o.bind fun p => chgO cs p (i, t)) (some (chD cs (i, t))) hr.tail (hp.step _)
    refine ⟨y, ?_⟩
    rw [List.map_cons]
    simp only [forL, t1, bd]
    exact ih
theorem e_done {cs : List Rw} (h : Coins cs) {L : List (Nat × Int)} {o : Option (List Int)} (hr : OkRow cs L) (hp : OkP cs o) :
    m_done [.imm (csD cs), .imm (oD o), .imm (rowsD cs L)] = .ok (.imm (oD (doneO cs o L))) [none, none, none, none] := by
  obtain ⟨y, e⟩ := done_loop h (a2 := some (.imm (rowsD cs L))) L o none hr hp
  refine run_rt (.imm (oD (doneO cs o L))) [some (.imm (csD cs)), some (.imm (oD (doneO cs o L))), some (.imm (rowsD cs L)), y.map .imm] (seq_nx [some (.imm (csD cs)), some (.imm (oD (doneO cs o L))), some (.imm (rowsD cs L)), y.map .imm] ((sFor_eq (ds := L.map (chD cs)) (ρ1 := [some (.imm (csD cs)), some (.imm (oD o)), some (.imm (rowsD cs L)), none]) ?_).trans e) ?_) ?_
  · simp [mSeq, runFn, startE, keepO, keepA, sRet, sRetN, sRetA, sRetNone, sSeq, sIf, sNx, sDrop, sSet, sTg, tN, canSet, sSetN, Md.bind, Md.ret, Md.opt, mVar, mC, mT, m2, m1, mIf, mAndV, mOrV, mNotV, mAndT, mOrT, mNotT, mChain, mCons, mNil, mCall, mCallN, mImm, mOwn, mTup, mLst, mLstN, mItems, mFrz, rs, im, rss, ims, ownD, argOf, argsOf, slotOf, isSlot, cellsBack, backA, mCallA, List.filterMap_cons, List.filterMap_nil, List.findIdx?_cons, List.findIdx?_nil, rowsD, items]
  · simp [runFn, startE, keepO, keepA, sRet, sRetN, sRetA, sRetNone, sSeq, sIf, sNx, sDrop, sSet, sTg, tN, canSet, sSetN, Md.bind, Md.ret, Md.opt, mVar, mC, mT, m2, m1, mIf, mAndV, mOrV, mNotV, mAndT, mOrT, mNotT, mChain, mCons, mNil, mCall, mCallN, mImm, mOwn, mTup, mLst, mLstN, mItems, mFrz, rs, im, rss, ims, ownD, argOf, argsOf, slotOf, isSlot, cellsBack, backA, mCallA, List.filterMap_cons, List.filterMap_nil, List.findIdx?_cons, List.findIdx?_nil]
  · cases y <;> simp [keepO, keepA]
theorem ldone_loop {cs : List Rw} (h : Coins cs) {a2 : Option A} : ∀ (L : List (Nat × Int)) (o : Option (List Int)) (x y : Option D), OkRow cs L → OkP cs o →
    ∃ x' y' : Option D, forL (tTupT 2 (tsCons (tN 3) (tsCons (tN 4) tsNil))) b__law_done_1 (L.map (chD cs)) [some (.imm (csD cs)), some (.imm (oD o)), a2, x.map .imm, y.map .imm] = .ok .nx [some (.imm (csD cs)), some (.imm (oD (doneO cs o L))), a2, x'.map .imm, y'.map .imm]
  | [], o, x, y, _, _ => ⟨x, y, rfl⟩
  | (i, t) :: L, o, x, y, hr, hp => by
    obtain ⟨⟨r, a, hc⟩, ht⟩ := hr (i, t) (.head _)
    have hi : cs[i]? = some r := hc.at_
    have t1 : tTupT 2 (tsCons (tN 3) (tsCons (tN 4) tsNil)) (chD cs (i, t)) [some (.imm (csD cs)), some (.imm (oD o)), a2, x.map .imm, y.map .imm] = some [some (.imm (csD cs)), some (.imm (oD o)), a2, some (.imm (.str r.nm)), some (.imm (.int t))] := by
      rw [chD_at hi]
      cases x <;> cases y <;> simp [tTupT, tsCons, tsNil, tN, canSet]
    have bd : b__law_done_1 [some (.imm (csD cs)), some (.imm (oD o)), a2, some (.imm (.str r.nm)), some (.imm (.int t))] = .ok .nx [some (.imm (csD cs)), some (.imm (oD (o.bind fun p => chgO cs p (i, t)))), a2, some (.imm (.str r.nm)), some (.imm (.int t))] := by
      cases o with
      | none => simp [b__law_done_1, runFn, startE, keepO, keepA, sRet, sRetN, sRetA, sRetNone, sSeq, sIf, sNx, sDrop, sSet, sTg, tN, canSet, sSetN, Md.bind, Md.ret, Md.opt, mVar, mC, mT, m2, m1, mIf, mAndV, mOrV, mNotV, mAndT, mOrT, mNotT, mChain, mCons, mNil, mCall, mCallN, mImm, mOwn, mTup, mLst, mLstN, mItems, mFrz, rs, im, rss, ims, ownD, argOf, argsOf, slotOf, isSlot, cellsBack, backA, mCallA, List.filterMap_cons, List.filterMap_nil, List.findIdx?_cons, List.findIdx?_nil, gNotN_eq, oD, isNone]
      | some p =>
        have e := e_lchanged h (hp p rfl).1 hc ht
        have eo : (some p).bind (fun p => chgO cs p (i, t)) = chgP r.mn i a p t := chgO_eq h hc
        rw [eo]
        generalize chgP r.mn i a p t = w at e
        have e2 : m__law_changed [.imm (csD cs), .imm (oD (some p)), .imm (.str r.nm), .imm (.int t)] = .ok (.imm (oD w)) [none, none, none, none, none, none, none, none] := e
        have n0 : isNone (oD (some p)) = false := rfl
        generalize oD (some p) = P at e2 n0
        simp [b__law_done_1, runFn, startE, keepO, keepA, sRet, sRetN, sRetA, sRetNone, sSeq, sIf, sNx, sDrop, sSet, sTg, tN, canSet, sSetN, Md.bind, Md.ret, Md.opt, mVar, mC, mT, m2, m1, mIf, mAndV, mOrV, mNotV, mAndT, mOrT, mNotT, mChain, mCons, mNil, mCall, mCallN, mImm, mOwn, mTup, mLst, mLstN, mItems, mFrz, rs, im, rss, ims, ownD, argOf, argsOf, slotOf, isSlot, cellsBack, backA, mCallA, List.filterMap_cons, List.filterMap_nil, List.findIdx?_cons, List.findIdx?_nil, gNotN_eq, n0, e2]
    obtain ⟨x', y', ih⟩ := ldone_loop h (a2 := a2) L (o.bind fun p => chgO cs p (i, t)) (some (.str r.nm)) (some (.int t)) hr.tail (hp.step _)
    refine ⟨x', y', ?_⟩
    rw [List.map_cons]
    simp only [forL, t1, bd]
    exact ih
theorem e_ldone {cs : List Rw} (h : Coins cs) {L : List (Nat × Int)} {o : Option (List Int)} (hr : OkRow cs L) (hp : OkP cs o) :
    m__law_done [.imm (csD cs), .imm (oD o), .imm (rowsD cs L)] = .ok (.imm (oD (doneO cs o L))) [none, none, none, none, none] := by
  obtain ⟨x, y, e⟩ := ldone_loop h (a2 := some (.imm (rowsD cs L))) L o none none hr hp
  refine run_rt (.imm (oD (doneO cs o L))) [some (.imm (csD cs)), some (.imm (oD (doneO cs o L))), some (.imm (rowsD cs L)), x.map .imm, y.map .imm] (seq_nx [some (.imm (csD cs)), some (.imm (oD (doneO cs o L))), some (.imm (rowsD cs L)), x.map .imm, y.map .imm] ((sFor_eq (ds := L.map (chD cs)) (ρ1 := [some (.imm (csD cs)), some (.imm (oD o)), some (.imm (rowsD cs L)), none, none]) ?_).trans e) ?_) ?_
  · simp [mSeq, runFn, startE, keepO, keepA, sRet, sRetN, sRetA, sRetNone, sSeq, sIf, sNx, sDrop, sSet, sTg, tN, canSet, sSetN, Md.bind, Md.ret, Md.opt, mVar, mC, mT, m2, m1, mIf, mAndV, mOrV, mNotV, mAndT, mOrT, mNotT, mChain, mCons, mNil, mCall, mCallN, mImm, mOwn, mTup, mLst, mLstN, mItems, mFrz, rs, im, rss, ims, ownD, argOf, argsOf, slotOf, isSlot, cellsBack, backA, mCallA, List.filterMap_cons, List.filterMap_nil, List.findIdx?_cons, List.findIdx?_nil, rowsD, items]
  · simp [runFn, startE, keepO, keepA, sRet, sRetN, sRetA, sRetNone, sSeq, sIf, sNx, sDrop, sSet, sTg, tN, canSet, sSetN, Md.bind, Md.ret, Md.opt, mVar, mC, mT, m2, m1, mIf, mAndV, mOrV, mNotV, mAndT, mOrT, mNotT, mChain, mCons, mNil, mCall, mCallN, mImm, mOwn, mTup, mLst, mLstN, mItems, mFrz, rs, im, rss, ims, ownD, argOf, argsOf, slotOf, isSlot, cellsBack, backA, mCallA, List.filterMap_cons, List.filterMap_nil, List.findIdx?_cons, List.findIdx?_nil]
  · cases x <;> cases y <;> simp [keepO, keepA]
/-! what the program asks of a row -/
def fitT (t : Int) : Prop := -(10 ^ 31) ≤ t ∧ t ≤ 10 ^ 31 ∧ t ≠ 0
theorem e_is_change {cs : List Rw} (h : Coins cs) {i : Nat} {t : Int} {r : Rw} {a : Nat} (hc : Chg cs (i, t) r a) (ht : fitT t) : m_is_change [.imm (csD cs), .imm (chD cs (i, t))] = .ok (.imm (.bool true)) [none, none, none] := by
  have hi : cs[i]? = some r := hc.at_
  rw [chD_at hi]
  have hm := List.mem_of_getElem? hi
  have e1 := e_place h hi
  have x1 := ix_cs hi
  have c0 : gIx (.tuple [.str r.nm, .int t]) (.int 0) = some (.str r.nm) := rfl
  have c1 : gIx (.tuple [.str r.nm, .int t]) (.int 1) = some (.int t) := rfl
  have cl : gLen [.tuple [.str r.nm, .int t]] = some (.int 2) := rfl
  have ci : isA "tuple" (.tuple [.str r.nm, .int t]) = true := rfl
  have n1 : gEq (.str r.up) (.str "") = some (.bool (decide (r.up = ""))) := gEq_str (coins_texts h hm).2 strOk_nil
  rw [decide_eq_false hc.up] at n1
  have n2 : gNe (.int t) (.int 0) = some (.bool true) := by rw [gNe_int, decide_eq_false ht.2.2]; rfl
  have fr := e_is_from (.int t) (-(10 ^ 31)) (10 ^ 31)
  have fv : isFrom (.int t) (-(10 ^ 31)) (10 ^ 31) = true := by
    show (decide (-(10 ^ 31) ≤ t) && decide (t ≤ 10 ^ 31)) = true
    rw [decide_eq_true ht.1, decide_eq_true ht.2.1]
    rfl
  rw [fv] at fr
  have ng : gNeg (.int (10 ^ 31)) = some (.int (-(10 ^ 31))) := rfl
  have is1 : isA "str" (.str r.nm) = true := rfl
  have nn : gIsN (.int (i : Nat)) .none = some (.bool false) := rfl
  generalize hT : (10 ^ 31 : Int) = T at *
  generalize hC : PyData.tuple [.str r.nm, .int t] = C at *
  unfold m_is_change
  rw [hT]
  refine run_rt (.imm (.bool true)) [some (.imm (csD cs)), some (.imm C), some (.imm (.int (i : Nat)))] ?_ (by simp [keepO, keepA])
  refine seq_nx [some (.imm (csD cs)), some (.imm C), none] (by simp [runFn, startE, keepO, keepA, sRet, sRetN, sRetA, sRetNone, sSeq, sIf, sNx, sDrop, sSet, sTg, tN, canSet, sSetN, Md.bind, Md.ret, Md.opt, mVar, mC, mT, m2, m1, mIf, mAndV, mOrV, mNotV, mAndT, mOrT, mNotT, mChain, mCons, mNil, mCall, mCallN, mImm, mOwn, mTup, mLst, mLstN, mItems, mFrz, rs, im, rss, ims, ownD, argOf, argsOf, slotOf, isSlot, cellsBack, backA, mCallA, List.filterMap_cons, List.filterMap_nil, List.findIdx?_cons, List.findIdx?_nil, mIsi, ci, cl, c0, is1, gNe_int]) ?_
  refine seq_nx [some (.imm (csD cs)), some (.imm C), some (.imm (.int (i : Nat)))] (by simp [runFn, startE, keepO, keepA, sRet, sRetN, sRetA, sRetNone, sSeq, sIf, sNx, sDrop, sSet, sTg, tN, canSet, sSetN, Md.bind, Md.ret, Md.opt, mVar, mC, mT, m2, m1, mIf, mAndV, mOrV, mNotV, mAndT, mOrT, mNotT, mChain, mCons, mNil, mCall, mCallN, mImm, mOwn, mTup, mLst, mLstN, mItems, mFrz, rs, im, rss, ims, ownD, argOf, argsOf, slotOf, isSlot, cellsBack, backA, mCallA, List.filterMap_cons, List.filterMap_nil, List.findIdx?_cons, List.findIdx?_nil, c0, e1]) ?_
  refine seq_nx [some (.imm (csD cs)), some (.imm C), some (.imm (.int (i : Nat)))] (by simp [runFn, startE, keepO, keepA, sRet, sRetN, sRetA, sRetNone, sSeq, sIf, sNx, sDrop, sSet, sTg, tN, canSet, sSetN, Md.bind, Md.ret, Md.opt, mVar, mC, mT, m2, m1, mIf, mAndV, mOrV, mNotV, mAndT, mOrT, mNotT, mChain, mCons, mNil, mCall, mCallN, mImm, mOwn, mTup, mLst, mLstN, mItems, mFrz, rs, im, rss, ims, ownD, argOf, argsOf, slotOf, isSlot, cellsBack, backA, mCallA, List.filterMap_cons, List.filterMap_nil, List.findIdx?_cons, List.findIdx?_nil, nn, x1, ix_rw2, n1]) ?_
  simp [runFn, startE, keepO, keepA, sRet, sRetN, sRetA, sRetNone, sSeq, sIf, sNx, sDrop, sSet, sTg, tN, canSet, sSetN, Md.bind, Md.ret, Md.opt, mVar, mC, mT, m2, m1, mIf, mAndV, mOrV, mNotV, mAndT, mOrT, mNotT, mChain, mCons, mNil, mCall, mCallN, mImm, mOwn, mTup, mLst, mLstN, mItems, mFrz, rs, im, rss, ims, ownD, argOf, argsOf, slotOf, isSlot, cellsBack, backA, mCallA, List.filterMap_cons, List.filterMap_nil, List.findIdx?_cons, List.findIdx?_nil, c1, ng, fr, n2]
def FitRow (cs : List Rw) (L : List (Nat × Int)) : Prop := L.length ≤ 60 ∧ ∀ c ∈ L, (∃ r a, Chg cs c r a) ∧ fitT c.2
theorem FitRow.ok {cs : List Rw} {L : List (Nat × Int)} (h : FitRow cs L) : OkRow cs L := fun c m => by
  obtain ⟨a, b, d, _⟩ := h.2 c m
  exact ⟨a, by omega⟩
theorem e_are_changes {cs : List Rw} (h : Coins cs) {L : List (Nat × Int)} (hf : FitRow cs L) : m_are_changes [.imm (csD cs), .imm (rowsD cs L)] = .ok (.imm (.bool true)) [none, none, none] := by
  have e := lcL_map (vs := [2]) (tg := tN 2) (elt := x_are_changes_1) (fun _ => .bool true) [some (.imm (csD cs)), some (.imm (rowsD cs L)), none] (L.map (chD cs)) (by rw [List.length_map]; exact Nat.le_trans hf.1 (by decide)) (fun d m => by
    obtain ⟨⟨i, t⟩, mc, rfl⟩ := List.mem_map.mp m
    obtain ⟨⟨r, a, hc⟩, ht⟩ := hf.2 _ mc
    have ec := e_is_change h hc ht
    refine ⟨[some (.imm (csD cs)), some (.imm (rowsD cs L)), some (.imm (chD cs (i, t)))], by simp [tN, canSet], .dat (.bool true), [some (.imm (csD cs)), some (.imm (rowsD cs L)), some (.imm (chD cs (i, t)))], ?_, rfl, rfl, rfl⟩
    simp [x_are_changes_1, runFn, startE, keepO, keepA, sRet, sRetN, sRetA, sRetNone, sSeq, sIf, sNx, sDrop, sSet, sTg, tN, canSet, sSetN, Md.bind, Md.ret, Md.opt, mVar, mC, mT, m2, m1, mIf, mAndV, mOrV, mNotV, mAndT, mOrT, mNotT, mChain, mCons, mNil, mCall, mCallN, mImm, mOwn, mTup, mLst, mLstN, mItems, mFrz, rs, im, rss, ims, ownD, argOf, argsOf, slotOf, isSlot, cellsBack, backA, mCallA, List.filterMap_cons, List.filterMap_nil, List.findIdx?_cons, List.findIdx?_nil, ec])
  have c : c_are_changes_1 [some (.imm (csD cs)), some (.imm (rowsD cs L)), none] = .ok (.lst ((L.map (chD cs)).map fun _ => .bool true)) [some (.imm (csD cs)), some (.imm (rowsD cs L)), none] :=
    (mLc_eq (ds := L.map (chD cs)) (ρ1 := [some (.imm (csD cs)), some (.imm (rowsD cs L)), none]) (by simp [mSeq, runFn, startE, keepO, keepA, sRet, sRetN, sRetA, sRetNone, sSeq, sIf, sNx, sDrop, sSet, sTg, tN, canSet, sSetN, Md.bind, Md.ret, Md.opt, mVar, mC, mT, m2, m1, mIf, mAndV, mOrV, mNotV, mAndT, mOrT, mNotT, mChain, mCons, mNil, mCall, mCallN, mImm, mOwn, mTup, mLst, mLstN, mItems, mFrz, rs, im, rss, ims, ownD, argOf, argsOf, slotOf, isSlot, cellsBack, backA, mCallA, List.filterMap_cons, List.filterMap_nil, List.findIdx?_cons, List.findIdx?_nil, rowsD, items]) rfl e).trans rfl
  have ga := gAll_map (fun _ : D => true) (L.map (chD cs))
  rw [List.all_eq_true.mpr fun _ _ => rfl] at ga
  have gl : gLen [rowsD cs L] = some (.int (L.length : Nat)) := by unfold rowsD; rw [gLen_lst, List.length_map]
  have ia : isA "list" (rowsD cs L) = true := rfl
  have l60 : ((L.length : Nat) : Int) ≤ 60 := by have := hf.1; omega
  generalize (L.map (chD cs)).map (fun _ => PyData.bool true) = bs at c ga
  simp [m_are_changes, runFn, startE, keepO, keepA, sRet, sRetN, sRetA, sRetNone, sSeq, sIf, sNx, sDrop, sSet, sTg, tN, canSet, sSetN, Md.bind, Md.ret, Md.opt, mVar, mC, mT, m2, m1, mIf, mAndV, mOrV, mNotV, mAndT, mOrT, mNotT, mChain, mCons, mNil, mCall, mCallN, mImm, mOwn, mTup, mLst, mLstN, mItems, mFrz, rs, im, rss, ims, ownD, argOf, argsOf, slotOf, isSlot, cellsBack, backA, mCallA, List.filterMap_cons, List.filterMap_nil, List.findIdx?_cons, List.findIdx?_nil, mIsi, ia, gl, gLe_int, l60, hf.1, c, ga]
theorem e_need_row {cs : List Rw} (h : Coins cs) {L : List (Nat × Int)} (hf : FitRow cs L) : m_need_row [.imm (csD cs), .imm (rowsD cs L)] = .ok (.imm .none) [none, none] := by
  have e := e_are_changes h hf
  simp [m_need_row, runFn, startE, keepO, keepA, sRet, sRetN, sRetA, sRetNone, sSeq, sIf, sNx, sDrop, sSet, sTg, tN, canSet, sSetN, Md.bind, Md.ret, Md.opt, mVar, mC, mT, m2, m1, mIf, mAndV, mOrV, mNotV, mAndT, mOrT, mNotT, mChain, mCons, mNil, mCall, mCallN, mImm, mOwn, mTup, mLst, mLstN, mItems, mFrz, rs, im, rss, ims, ownD, argOf, argsOf, slotOf, isSlot, cellsBack, backA, mCallA, List.filterMap_cons, List.filterMap_nil, List.findIdx?_cons, List.findIdx?_nil, e]
theorem e_behind {cs : List Rw} (h : Coins cs) {p : List Int} (hp : Purse cs (10 ^ 30) p) {L : List (Nat × Int)} (hf : FitRow cs L) : m_behind [.imm (csD cs), .imm (psD p), .imm (rowsD cs L)] = .ok (.imm (oD (doneO cs (some p) L))) [none, none, none] := by
  have e1 := e_need_purse h hp
  have e2 := e_need_row h hf
  have e3 := e_done h hf.ok (o := some p) (fun q z => by cases z; exact ⟨hp.len, hp.low⟩)
  have e3 : m_done [.imm (csD cs), .imm (psD p), .imm (rowsD cs L)] = .ok (.imm (oD (doneO cs (some p) L))) [none, none, none, none] := e3
  simp [m_behind, runFn, startE, keepO, keepA, sRet, sRetN, sRetA, sRetNone, sSeq, sIf, sNx, sDrop, sSet, sTg, tN, canSet, sSetN, Md.bind, Md.ret, Md.opt, mVar, mC, mT, m2, m1, mIf, mAndV, mOrV, mNotV, mAndT, mOrT, mNotT, mChain, mCons, mNil, mCall, mCallN, mImm, mOwn, mTup, mLst, mLstN, mItems, mFrz, rs, im, rss, ims, ownD, argOf, argsOf, slotOf, isSlot, cellsBack, backA, mCallA, List.filterMap_cons, List.filterMap_nil, List.findIdx?_cons, List.findIdx?_nil, e1, e2, e3]
end DV

set_option Elab.async false
set_option linter.all false
set_option maxRecDepth 100000
set_option maxHeartbeats 4000000
set_option autoImplicit false
/-! MxJ: drawn rows of changes; what they cost. -/
namespace DV
open PySem L2
/-- a comprehension over what is made of a list -/
theorem lcL_of {α : Type} {vs : List Nat} {tg : D → Env → Option Env} {elt : Md Opd} (g f : α → D) (ρ : Env) (L : List α) (hl : L.length ≤ lim)
    (h : ∀ c ∈ L, ∃ ρ1, tg (g c) ρ = some ρ1 ∧ ∃ o ρ3, elt ρ1 = .ok o ρ3 ∧ im ρ3 o = some (f c) ∧ vs.all (noOwn ρ3) = true ∧ wipeE ρ3 vs = ρ) :
    lcL vs tg (Md.ret true) elt (L.map g) [] ρ = .ok (L.map f) ρ := by
  obtain ⟨acc', ρ', e, h1, h2⟩ := lcL_run (vs := vs) (tg := tg) (test := Md.ret true) (elt := elt) (fun i acc ρ' => ρ' = ρ ∧ acc = (L.take i).map f) (L.map g) 0 [] ρ ⟨rfl, by simp⟩ (fun i d acc ρ' hd ⟨hi, ha⟩ => by
    subst hi
    rw [Nat.zero_add] at ha ⊢
    rw [List.getElem?_map] at hd
    cases e : L[i]? with
    | none => rw [e] at hd; cases hd
    | some c =>
      rw [e] at hd
      have hd : g c = d := Option.some.inj hd
      subst hd
      have hm := List.mem_of_getElem? e
      have hlt := (List.getElem?_eq_some_iff.mp e).1
      obtain ⟨ρ1, a, o, ρ3, x, y, z, w⟩ := h c hm
      refine ⟨ρ1, ρ1, a, .inr ⟨rfl, o, ρ3, f c, x, y, ?_, z, w, ?_⟩⟩
      · rw [ha, List.length_map, List.length_take]
        omega
      · obtain ⟨hl2, e2⟩ := List.getElem?_eq_some_iff.mp e
        rw [List.take_succ_eq_append_getElem hl2, e2, List.map_append, ha]
        rfl)
  rw [e, h1, h2, Nat.zero_add, List.length_map, List.take_length]
def ab (t : Int) : Int := if t < 0 then -t else t
def costL (f : List Int) (L : List (Nat × Int)) : Int := (L.map fun c => gp f c.1 * ab c.2).sum
theorem gAbs_int (t : Int) : gAbs [.int t] = some (.int (ab t)) := rfl
theorem gSum_ints (xs : List Int) : gSum [.list (xs.map .int)] = some (.int xs.sum) := by
  show (intsD (xs.map .int)).map (fun ns => PyData.int ns.sum) = _
  rw [intsD_map]
  rfl
theorem gMul_small {x y : Int} (hx : x.natAbs < 2 ^ 200) (hy : y.natAbs < 2 ^ 200) : gMul (.int x) (.int y) = some (.int (x * y)) := gMul_int (cMul_ok hx hy)
theorem ab_small {t : Int} (h : t.natAbs < 2 ^ 200) : (ab t).natAbs < 2 ^ 200 := by
  unfold ab
  split
  · rw [Int.natAbs_neg]; exact h
  · exact h
theorem fees_gp {cs : List Rw} {f : List Int} (hf : Purse cs 99 f) {i : Nat} (h : i < cs.length) : (gp f i).natAbs < 2 ^ 200 := by
  have m := gp_mem (p := f) (i := i) (by rw [hf.len]; exact h)
  have h1 := hf.low _ m
  have h2 := hf.high _ m
  omega
theorem ix_ps {p : List Int} {i : Nat} (h : i < p.length) : gIx (psD p) (.int (i : Nat)) = some (.int (gp p i)) := atI_at (ints_get h)
theorem e_cost {cs : List Rw} (h : Coins cs) {f : List Int} (hf : Purse cs 99 f) {L : List (Nat × Int)} (hr : FitRow cs L) : m_cost [.imm (csD cs), .imm (psD f), .imm (rowsD cs L)] = .ok (.imm (.int (costL f L))) [none, none, none, none, none] := by
  have e1 := e_need_fees h hf
  have e2 := e_need_row h hr
  have e := lcL_of (vs := [3, 4]) (tg := tTupT 2 (tsCons (tN 3) (tsCons (tN 4) tsNil))) (elt := x_cost_1) (chD cs) (fun c => .int (gp f c.1 * ab c.2)) [some (.imm (csD cs)), some (.imm (psD f)), some (.imm (rowsD cs L)), none, none] L (Nat.le_trans hr.1 (by decide)) (fun c m => by
    obtain ⟨i, t⟩ := c
    obtain ⟨⟨r, a, hc⟩, ht⟩ := hr.2 _ m
    have hi : cs[i]? = some r := hc.at_
    have hil := (List.getElem?_eq_some_iff.mp hi).1
    have ep := e_place h hi
    have xf := ix_ps (p := f) (i := i) (by rw [hf.len]; exact hil)
    have gm := gMul_small (fees_gp hf hil) (ab_small (t := t) (hr.ok _ m).2)
    rw [chD_at hi]
    refine ⟨[some (.imm (csD cs)), some (.imm (psD f)), some (.imm (rowsD cs L)), some (.imm (.str r.nm)), some (.imm (.int t))], by simp [tTupT, tsCons, tsNil, tN, canSet], .dat (.int (gp f i * ab t)), [some (.imm (csD cs)), some (.imm (psD f)), some (.imm (rowsD cs L)), some (.imm (.str r.nm)), some (.imm (.int t))], ?_, rfl, rfl, rfl⟩
    simp [x_cost_1, runFn, startE, keepO, keepA, sRet, sRetN, sRetA, sRetNone, sSeq, sIf, sNx, sDrop, sSet, sTg, tN, canSet, sSetN, Md.bind, Md.ret, Md.opt, mVar, mC, mT, m2, m1, mIf, mAndV, mOrV, mNotV, mAndT, mOrT, mNotT, mChain, mCons, mNil, mCall, mCallN, mImm, mOwn, mTup, mLst, mLstN, mItems, mFrz, rs, im, rss, ims, ownD, argOf, argsOf, slotOf, isSlot, cellsBack, backA, mCallA, List.filterMap_cons, List.filterMap_nil, List.findIdx?_cons, List.findIdx?_nil, ep, xf, gAbs_int, gm])
  have c : c_cost_1 [some (.imm (csD cs)), some (.imm (psD f)), some (.imm (rowsD cs L)), none, none] = .ok (.lst (L.map fun c => .int (gp f c.1 * ab c.2))) [some (.imm (csD cs)), some (.imm (psD f)), some (.imm (rowsD cs L)), none, none] :=
    (mLc_eq (ds := L.map (chD cs)) (ρ1 := [some (.imm (csD cs)), some (.imm (psD f)), some (.imm (rowsD cs L)), none, none]) (by simp [mSeq, runFn, startE, keepO, keepA, sRet, sRetN, sRetA, sRetNone, sSeq, sIf, sNx, sDrop, sSet, sTg, tN, canSet, sSetN, Md.bind, Md.ret, Md.opt, mVar, mC, mT, m2, m1, mIf, mAndV, mOrV, mNotV, mAndT, mOrT, mNotT, mChain, mCons, mNil, mCall, mCallN, mImm, mOwn, mTup, mLst, mLstN, mItems, mFrz, rs, im, rss, ims, ownD, argOf, argsOf, slotOf, isSlot, cellsBack, backA, mCallA, List.filterMap_cons, List.filterMap_nil, List.findIdx?_cons, List.findIdx?_nil, rowsD, items]) rfl e).trans rfl
  have gs := gSum_ints (L.map fun c => gp f c.1 * ab c.2)
  rw [List.map_map] at gs
  have gs : gSum [.list (L.map fun c => PyData.int (gp f c.1 * ab c.2))] = some (.int (costL f L)) := gs
  generalize (L.map fun c => PyData.int (gp f c.1 * ab c.2)) = bs at c gs
  simp [m_cost, runFn, startE, keepO, keepA, sRet, sRetN, sRetA, sRetNone, sSeq, sIf, sNx, sDrop, sSet, sTg, tN, canSet, sSetN, Md.bind, Md.ret, Md.opt, mVar, mC, mT, m2, m1, mIf, mAndV, mOrV, mNotV, mAndT, mOrT, mNotT, mChain, mCons, mNil, mCall, mCallN, mImm, mOwn, mTup, mLst, mLstN, mItems, mFrz, rs, im, rss, ims, ownD, argOf, argsOf, slotOf, isSlot, cellsBack, backA, mCallA, List.filterMap_cons, List.filterMap_nil, List.findIdx?_cons, List.findIdx?_nil, e1, e2, c, gs]
/-! single changes that can be done -/
def Single (cs : List Rw) (p : List Int) (c : Nat × Int) : Prop := (∃ r a, Chg cs c r a) ∧ (c.2 = 1 ∨ c.2 = -1) ∧ (chgO cs p c).isSome = true
theorem singles_in {cs : List Rw} (h : Coins cs) {p : List Int} (hl : p.length = cs.length) {i : Nat} {r : Rw} (hi : cs[i]? = some r) {w : Int} (hw : w = 1 ∨ w = -1) {L : List (Nat × Int)} (hL : L.length ≤ 1000) (hs : ∀ c ∈ L, Single cs p c) :
    ∃ L', (L' = L ∨ L' = L ++ [(i, w)]) ∧ (∀ c ∈ L', Single cs p c) ∧
      b__law_singles_1 [some (.imm (csD cs)), some (.imm (psD p)), some (.own false (.lst (L.map (chD cs)))), some (.imm (rwD r)), some (.imm (.int w))] = .ok .nx [some (.imm (csD cs)), some (.imm (psD p)), some (.own false (.lst (L'.map (chD cs)))), some (.imm (rwD r)), some (.imm (.int w))] := by
  have hm := List.mem_of_getElem? hi
  have n1 : gNe (.str r.up) (.str "") = some (.bool (!decide (r.up = ""))) := gNe_str (coins_texts h hm).2 strOk_nil
  by_cases hu : r.up = ""
  · refine ⟨L, .inl rfl, hs, ?_⟩
    rw [decide_eq_true hu] at n1
    simp [b__law_singles_1, runFn, startE, keepO, keepA, sRet, sRetN, sRetA, sRetNone, sSeq, sIf, sNx, sDrop, sSet, sTg, tN, canSet, sSetN, Md.bind, Md.ret, Md.opt, mVar, mC, mT, m2, m1, mIf, mAndV, mOrV, mNotV, mAndT, mOrT, mNotT, mChain, mCons, mNil, mCall, mCallN, mImm, mOwn, mTup, mLst, mLstN, mItems, mFrz, rs, im, rss, ims, ownD, argOf, argsOf, slotOf, isSlot, cellsBack, backA, mCallA, List.filterMap_cons, List.filterMap_nil, List.findIdx?_cons, List.findIdx?_nil, ix_rw2, n1]
  · rw [decide_eq_false hu] at n1
    obtain ⟨a, hc⟩ := chg_of h (c := (i, w)) hi hu
    have e := e_lchanged h hl hc (by rcases hw with rfl | rfl <;> decide)
    have eo := chgO_eq h (p := p) hc
    have eo : chgO cs p (i, w) = chgP r.mn i a p w := eo
    rw [← eo] at e
    cases q : chgO cs p (i, w) with
    | none =>
      refine ⟨L, .inl rfl, hs, ?_⟩
      rw [q] at e
      have e : m__law_changed [.imm (csD cs), .imm (psD p), .imm (.str r.nm), .imm (.int w)] = .ok (.imm .none) [none, none, none, none, none, none, none, none] := e
      simp [b__law_singles_1, runFn, startE, keepO, keepA, sRet, sRetN, sRetA, sRetNone, sSeq, sIf, sNx, sDrop, sSet, sTg, tN, canSet, sSetN, Md.bind, Md.ret, Md.opt, mVar, mC, mT, m2, m1, mIf, mAndV, mOrV, mNotV, mAndT, mOrT, mNotT, mChain, mCons, mNil, mCall, mCallN, mImm, mOwn, mTup, mLst, mLstN, mItems, mFrz, rs, im, rss, ims, ownD, argOf, argsOf, slotOf, isSlot, cellsBack, backA, mCallA, List.filterMap_cons, List.filterMap_nil, List.findIdx?_cons, List.findIdx?_nil, ix_rw2, ix_rw0, n1, e, gNotN_eq, isNone]
    | some z =>
      rw [q] at e
      refine ⟨L ++ [(i, w)], .inr rfl, fun c m => ?_, ?_⟩
      · rcases List.mem_append.mp m with m | m
        · exact hs c m
        · rw [List.mem_singleton.mp m]
          exact ⟨⟨r, a, hc⟩, hw, by rw [q]; rfl⟩
      · have e : m__law_changed [.imm (csD cs), .imm (psD p), .imm (.str r.nm), .imm (.int w)] = .ok (.imm (psD z)) [none, none, none, none, none, none, none, none] := e
        have nz : isNone (psD z) = false := rfl
        have ga := gAppend_of (es := L.map (chD cs)) (d := .tuple [.str r.nm, .int w]) (by rw [List.length_map]; omega)
        generalize psD z = Z at e nz
        refine (sIf_t (ρ1 := [some (.imm (csD cs)), some (.imm (psD p)), some (.own false (.lst (L.map (chD cs)))), some (.imm (rwD r)), some (.imm (.int w))]) ?_).trans ?_
        · simp [runFn, startE, keepO, keepA, sRet, sRetN, sRetA, sRetNone, sSeq, sIf, sNx, sDrop, sSet, sTg, tN, canSet, sSetN, Md.bind, Md.ret, Md.opt, mVar, mC, mT, m2, m1, mIf, mAndV, mOrV, mNotV, mAndT, mOrT, mNotT, mChain, mCons, mNil, mCall, mCallN, mImm, mOwn, mTup, mLst, mLstN, mItems, mFrz, rs, im, rss, ims, ownD, argOf, argsOf, slotOf, isSlot, cellsBack, backA, mCallA, List.filterMap_cons, List.filterMap_nil, List.findIdx?_cons, List.findIdx?_nil, ix_rw2, ix_rw0, n1, e, gNotN_eq, nz]
        · refine (drop_eq (meth_eq (ρ' := [some (.imm (csD cs)), some (.imm (psD p)), some (.own false (.lst (L.map (chD cs)))), some (.imm (rwD r)), some (.imm (.int w))]) (os := [.dat (.tuple [.str r.nm, .int w])]) rfl (cons_eq (ρ1 := [some (.imm (csD cs)), some (.imm (psD p)), some (.own false (.lst (L.map (chD cs)))), some (.imm (rwD r)), some (.imm (.int w))]) ?_ nil_eq) rfl rfl ga)).trans ?_
          · simp [runFn, startE, keepO, keepA, sRet, sRetN, sRetA, sRetNone, sSeq, sIf, sNx, sDrop, sSet, sTg, tN, canSet, sSetN, Md.bind, Md.ret, Md.opt, mVar, mC, mT, m2, m1, mIf, mAndV, mOrV, mNotV, mAndT, mOrT, mNotT, mChain, mCons, mNil, mCall, mCallN, mImm, mOwn, mTup, mLst, mLstN, mItems, mFrz, rs, im, rss, ims, ownD, argOf, argsOf, slotOf, isSlot, cellsBack, backA, mCallA, List.filterMap_cons, List.filterMap_nil, List.findIdx?_cons, List.findIdx?_nil, lim, ix_rw0]
          · rw [List.map_append, List.map_singleton, chD_at hi]
            rfl
theorem e_singles {cs : List Rw} (h : Coins cs) {p : List Int} (hl : p.length = cs.length) : ∃ L : List (Nat × Int), L.length ≤ 16 ∧ (∀ c ∈ L, Single cs p c) ∧ m__law_singles [.imm (csD cs), .imm (psD p)] = .ok (.own false (.lst (L.map (chD cs)))) [none, none, none, none, none] := by
  have h8 := (coins_len h).2
  obtain ⟨ρ', e, L, x, y, q1, q2, q3⟩ := forL_run (tg := tN 3) (body := b__law_singles_2) (fun i ρ => ∃ (L : List (Nat × Int)) (x y : Option D), L.length ≤ 2 * i ∧ (∀ c ∈ L, Single cs p c) ∧ ρ = [some (.imm (csD cs)), some (.imm (psD p)), some (.own false (.lst (L.map (chD cs)))), x.map .imm, y.map .imm])
    (cs.map rwD) [some (.imm (csD cs)), some (.imm (psD p)), some (.own false (.lst [])), none, none] ⟨[], none, none, Nat.le_refl _, fun c m => absurd m List.not_mem_nil, rfl⟩
    (fun i d ρ hd ⟨L, x, y, hL, hs, e⟩ => by
      subst e
      rw [List.getElem?_map] at hd
      cases hi : cs[i]? with
      | none => rw [hi] at hd; cases hd
      | some r =>
        rw [hi] at hd
        have hd : rwD r = d := Option.some.inj hd
        subst hd
        have hil := (List.getElem?_eq_some_iff.mp hi).1
        obtain ⟨L1, l1, s1, b1⟩ := singles_in h hl hi (w := -1) (.inr rfl) (L := L) (by omega) hs
        have hL1 : L1.length ≤ L.length + 1 := by rcases l1 with rfl | rfl <;> simp
        obtain ⟨L2, l2, s2, b2⟩ := singles_in h hl hi (w := 1) (.inl rfl) (L := L1) (by omega) s1
        have hL2 : L2.length ≤ L1.length + 1 := by rcases l2 with rfl | rfl <;> simp
        refine ⟨[some (.imm (csD cs)), some (.imm (psD p)), some (.own false (.lst (L.map (chD cs)))), some (.imm (rwD r)), y.map .imm], [some (.imm (csD cs)), some (.imm (psD p)), some (.own false (.lst (L2.map (chD cs)))), some (.imm (rwD r)), some (.imm (.int 1))], by cases x <;> simp [tN, canSet], .inl ?_, L2, some (rwD r), some (.int 1), by omega, s2, rfl⟩
        unfold b__law_singles_2 l__law_singles_1
        refine (sFor_eq (ds := [.int (-1), .int 1]) (ρ1 := [some (.imm (csD cs)), some (.imm (psD p)), some (.own false (.lst (L.map (chD cs)))), some (.imm (rwD r)), y.map .imm]) ?_).trans ?_
        · simp [mSeq, runFn, startE, keepO, keepA, sRet, sRetN, sRetA, sRetNone, sSeq, sIf, sNx, sDrop, sSet, sTg, tN, canSet, sSetN, Md.bind, Md.ret, Md.opt, mVar, mC, mT, m2, m1, mIf, mAndV, mOrV, mNotV, mAndT, mOrT, mNotT, mChain, mCons, mNil, mCall, mCallN, mImm, mOwn, mTup, mLst, mLstN, mItems, mFrz, rs, im, rss, ims, ownD, argOf, argsOf, slotOf, isSlot, cellsBack, backA, mCallA, List.filterMap_cons, List.filterMap_nil, List.findIdx?_cons, List.findIdx?_nil, gNeg_int, lim, items]
        · have t1 : tN 4 (.int (-1)) [some (.imm (csD cs)), some (.imm (psD p)), some (.own false (.lst (L.map (chD cs)))), some (.imm (rwD r)), y.map .imm] = some [some (.imm (csD cs)), some (.imm (psD p)), some (.own false (.lst (L.map (chD cs)))), some (.imm (rwD r)), some (.imm (.int (-1)))] := by
            cases y <;> simp [tN, canSet]
          have t2 : tN 4 (.int 1) [some (.imm (csD cs)), some (.imm (psD p)), some (.own false (.lst (L1.map (chD cs)))), some (.imm (rwD r)), some (.imm (.int (-1)))] = some [some (.imm (csD cs)), some (.imm (psD p)), some (.own false (.lst (L1.map (chD cs)))), some (.imm (rwD r)), some (.imm (.int 1))] := by
            simp [tN, canSet]
          simp only [forL, t1, b1, t2, b2])
  rw [List.length_map] at q1
  refine ⟨L, by omega, q2, ?_⟩
  refine run_rt (.own false (.lst (L.map (chD cs)))) ρ' ?_ ?_
  · refine seq_nx [some (.imm (csD cs)), some (.imm (psD p)), some (.own false (.lst [])), none, none] (by simp [runFn, startE, keepO, keepA, sRet, sRetN, sRetA, sRetNone, sSeq, sIf, sNx, sDrop, sSet, sTg, tN, canSet, sSetN, Md.bind, Md.ret, Md.opt, mVar, mC, mT, m2, m1, mIf, mAndV, mOrV, mNotV, mAndT, mOrT, mNotT, mChain, mCons, mNil, mCall, mCallN, mImm, mOwn, mTup, mLst, mLstN, mItems, mFrz, rs, im, rss, ims, ownD, argOf, argsOf, slotOf, isSlot, cellsBack, backA, mCallA, List.filterMap_cons, List.filterMap_nil, List.findIdx?_cons, List.findIdx?_nil, lim]) ?_
    refine seq_nx ρ' ((sFor_eq (ds := cs.map rwD) (ρ1 := [some (.imm (csD cs)), some (.imm (psD p)), some (.own false (.lst [])), none, none]) ?_).trans e) ?_
    · simp [mSeq, runFn, startE, keepO, keepA, sRet, sRetN, sRetA, sRetNone, sSeq, sIf, sNx, sDrop, sSet, sTg, tN, canSet, sSetN, Md.bind, Md.ret, Md.opt, mVar, mC, mT, m2, m1, mIf, mAndV, mOrV, mNotV, mAndT, mOrT, mNotT, mChain, mCons, mNil, mCall, mCallN, mImm, mOwn, mTup, mLst, mLstN, mItems, mFrz, rs, im, rss, ims, ownD, argOf, argsOf, slotOf, isSlot, cellsBack, backA, mCallA, List.filterMap_cons, List.filterMap_nil, List.findIdx?_cons, List.findIdx?_nil, csD, items]
    · rw [q3]
      simp [runFn, startE, keepO, keepA, sRet, sRetN, sRetA, sRetNone, sSeq, sIf, sNx, sDrop, sSet, sTg, tN, canSet, sSetN, Md.bind, Md.ret, Md.opt, mVar, mC, mT, m2, m1, mIf, mAndV, mOrV, mNotV, mAndT, mOrT, mNotT, mChain, mCons, mNil, mCall, mCallN, mImm, mOwn, mTup, mLst, mLstN, mItems, mFrz, rs, im, rss, ims, ownD, argOf, argsOf, slotOf, isSlot, cellsBack, backA, mCallA, List.filterMap_cons, List.filterMap_nil, List.findIdx?_cons, List.findIdx?_nil]
  · rw [q3]
    cases x <;> cases y <;> simp [keepO, keepA]
theorem good_rowsD {cs : List Rw} (h : Coins cs) {L : List (Nat × Int)} (hl : L.length ≤ 1000) (hr : ∀ c ∈ L, ∃ r a, Chg cs c r a) : goodD (rowsD cs L) = true ∧ (rowsD cs L).depth ≤ 2 := by
  have el : ∀ c ∈ L, ∃ r t, chD cs c = .tuple [.str r, .int t] ∧ goodD (.tuple [.str r, .int t]) = true := fun c m => by
    obtain ⟨i, t⟩ := c
    obtain ⟨r, a, hc⟩ := hr _ m
    have hi : cs[i]? = some r := hc.at_
    have hm := List.mem_of_getElem? hi
    have g := (good_tup ((good_rows h.good).2 r hm)).1 (.str r.nm) (by simp)
    refine ⟨r.nm, t, chD_at hi, ?_⟩
    simp [goodD, goodDs] at g ⊢
    exact g
  constructor
  · unfold rowsD goodD
    rw [Bool.and_eq_true, goodDs_iff, decide_eq_true_eq, List.length_map]
    refine ⟨fun d m => ?_, hl⟩
    obtain ⟨c, mc, rfl⟩ := List.mem_map.mp m
    obtain ⟨r, t, e, g⟩ := el c mc
    rw [e]
    exact g
  · have : ∀ M : List (Nat × Int), (∀ c ∈ M, ∃ r t, chD cs c = .tuple [.str r, .int t]) → PyData.depthAll (M.map (chD cs)) ≤ 1 := fun M => by
      induction M with
      | nil => intro _; exact Nat.zero_le _
      | cons c M ih =>
        intro q
        obtain ⟨r, t, e⟩ := q c (.head _)
        show max (chD cs c).depth (PyData.depthAll (M.map (chD cs))) ≤ 1
        rw [e]
        exact Nat.max_le.mpr ⟨Nat.le_refl _, ih fun x m => q x (.tail _ m)⟩
    show PyData.depthAll (L.map (chD cs)) + 1 ≤ 2
    have := this L fun c m => by
      obtain ⟨r, t, e, _⟩ := el c m
      exact ⟨r, t, e⟩
    omega
theorem rows_nil {cs : List Rw} (h : Coins cs) {L : List (Nat × Int)} (hl : L.length ≤ 1000) (hr : ∀ c ∈ L, ∃ r a, Chg cs c r a) : gEq (rowsD cs L) (.list []) = some (.bool (decide (L = []))) := by
  obtain ⟨g, d⟩ := good_rowsD h hl hr
  have := gEq_nil (x := L.map (chD cs)) (good_shaped g (by have d2 : (PyData.list (L.map (chD cs))).depth ≤ 2 := d; omega))
  unfold rowsD
  rw [this]
  congr 2
  cases L <;> simp
end DV

set_option Elab.async false
set_option linter.all false
set_option maxRecDepth 100000
set_option maxHeartbeats 4000000
set_option autoImplicit false
/-! MxK: drawn rows. -/
namespace DV
open PySem L2
/-- changes of at most `far` each -/
def FarRow (cs : List Rw) (far : Int) (L : List (Nat × Int)) : Prop := ∀ c ∈ L, (∃ r a, Chg cs c r a) ∧ c.2 ≠ 0 ∧ -far ≤ c.2 ∧ c.2 ≤ far
theorem doneO_snoc (cs : List Rw) (o : Option (List Int)) (L : List (Nat × Int)) (c : Nat × Int) : doneO cs o (L ++ [c]) = (doneO cs o L).bind fun p => chgO cs p c := by
  unfold doneO
  rw [List.foldl_append]
  rfl
theorem row_turn {cs : List Rw} (h : Coins cs) {n : Int} {o : Own} (hd : Dk n o) (hn : n ≤ 10000000000) {p : List Int} (hp : p.length = cs.length) {far : Int} (h1 : 1 ≤ far) (h2 : far < 2 ^ 150) {L : List (Nat × Int)} (hL : L.length ≤ 1000) {a3 a6 a7 a8 a9 a10 a11 : Option D} :
    (∃ ρ' o', Dk n o' ∧ b__law_row_1 [some (.own true o), some (.imm (csD cs)), some (.imm (psD p)), a3.map .imm, some (.imm (.int far)), some (.own false (.lst (L.map (chD cs)))), a6.map .imm, a7.map .imm, a8.map .imm, a9.map .imm, a10.map .imm, a11.map .imm] =
        .ok (.rt (.own false (.lst (L.map (chD cs))))) ρ' ∧ keepO 5 ρ' = [some (.own true o'), none, none, none, none, none, none, none, none, none, none, none]) ∨
    ∃ (c : Nat × Int) (q : List Int) (o' : Own) (b7 b8 b9 b10 b11 : D), (∃ r a, Chg cs c r a) ∧ c.2 ≠ 0 ∧ -far ≤ c.2 ∧ c.2 ≤ far ∧ chgO cs p c = some q ∧ Dk (n + 2) o' ∧
      b__law_row_1 [some (.own true o), some (.imm (csD cs)), some (.imm (psD p)), a3.map .imm, some (.imm (.int far)), some (.own false (.lst (L.map (chD cs)))), a6.map .imm, a7.map .imm, a8.map .imm, a9.map .imm, a10.map .imm, a11.map .imm] =
        .ok .nx [some (.own true o'), some (.imm (csD cs)), some (.imm (psD q)), a3.map .imm, some (.imm (.int far)), some (.own false (.lst ((L ++ [c]).map (chD cs)))), a6.map .imm, some (.imm b7), some (.imm b8), some (.imm b9), some (.imm b10), some (.imm b11)] := by
  obtain ⟨S, hS, sS, eS⟩ := e_singles h hp
  have gn := rows_nil h (L := S) (by omega) (fun c m => (sS c m).1)
  have st1 : sSet 7 (mImm (mCallA 2 m__law_singles (mCons (mVar 1) (mCons (mVar 2) mNil)))) [some (.own true o), some (.imm (csD cs)), some (.imm (psD p)), a3.map .imm, some (.imm (.int far)), some (.own false (.lst (L.map (chD cs)))), a6.map .imm, a7.map .imm, a8.map .imm, a9.map .imm, a10.map .imm, a11.map .imm] =
      .ok .nx [some (.own true o), some (.imm (csD cs)), some (.imm (psD p)), a3.map .imm, some (.imm (.int far)), some (.own false (.lst (L.map (chD cs)))), a6.map .imm, some (.imm (rowsD cs S)), a8.map .imm, a9.map .imm, a10.map .imm, a11.map .imm] := by
    have eS : m__law_singles [.imm (csD cs), .imm (psD p)] = .ok (.own false (.lst (S.map (chD cs)))) [none, none, none, none, none] := eS
    unfold rowsD
    cases a7 <;> simp [runFn, startE, keepO, keepA, sRet, sRetN, sRetA, sRetNone, sSeq, sIf, sNx, sDrop, sSet, sTg, tN, canSet, sSetN, Md.bind, Md.ret, Md.opt, mVar, mC, mT, m2, m1, mIf, mAndV, mOrV, mNotV, mAndT, mOrT, mNotT, mChain, mCons, mNil, mCall, mCallN, mImm, mOwn, mTup, mLst, mLstN, mItems, mFrz, rs, im, rss, ims, ownD, argOf, argsOf, slotOf, isSlot, cellsBack, backA, mCallA, List.filterMap_cons, List.filterMap_nil, List.findIdx?_cons, List.findIdx?_nil, eS]
  by_cases hS0 : S = []
  · refine .inl ⟨[some (.own true o), some (.imm (csD cs)), some (.imm (psD p)), a3.map .imm, some (.imm (.int far)), some (.own false (.lst (L.map (chD cs)))), a6.map .imm, some (.imm (rowsD cs S)), a8.map .imm, a9.map .imm, a10.map .imm, a11.map .imm], o, hd, ?_, ?_⟩
    · rw [decide_eq_true hS0] at gn
      unfold b__law_row_1
      refine (sSeq_nx st1).trans (sSeq_rt ?_)
      generalize rowsD cs S = R at gn ⊢
      simp [runFn, startE, keepO, keepA, sRet, sRetN, sRetA, sRetNone, sSeq, sIf, sNx, sDrop, sSet, sTg, tN, canSet, sSetN, Md.bind, Md.ret, Md.opt, mVar, mC, mT, m2, m1, mIf, mAndV, mOrV, mNotV, mAndT, mOrT, mNotT, mChain, mCons, mNil, mCall, mCallN, mImm, mOwn, mTup, mLst, mLstN, mItems, mFrz, rs, im, rss, ims, ownD, argOf, argsOf, slotOf, isSlot, cellsBack, backA, mCallA, List.filterMap_cons, List.filterMap_nil, List.findIdx?_cons, List.findIdx?_nil, gn]
    · cases a3 <;> simp [keepO, keepA]
  · right
    rw [decide_eq_false hS0] at gn
    have ne : S.map (chD cs) ≠ [] := fun e => hS0 (List.map_eq_nil_iff.mp e)
    obtain ⟨k, d, o1, hk, d1, e1⟩ := e_one (ds := S.map (chD cs)) hd (by omega) ne (by rw [List.length_map]; omega)
    rw [List.getElem?_map] at hk
    cases es : S[k]? with
    | none => rw [es] at hk; cases hk
    | some c0 =>
      rw [es] at hk
      have hk : chD cs c0 = d := Option.some.inj hk
      obtain ⟨i, w⟩ := c0
      obtain ⟨⟨r, a, hc⟩, hw, hq⟩ := sS _ (List.mem_of_getElem? es)
      have hi : cs[i]? = some r := hc.at_
      rw [chD_at hi] at hk
      subst hk
      have e1 : m__law_one [.own true o, .imm (rowsD cs S)] = .ok (.imm (.tuple [.str r.nm, .int w])) [some (.own true o1), none] := e1
      obtain ⟨x, o2, x0, x1, d2, e2⟩ := e_pick d1 (by omega) (s := far) (by omega) (by omega)
      have gm : gMul (.int w) (.int (1 + x)) = some (.int (w * (1 + x))) := gMul_small (by rcases hw with h | h <;> (have h : w = _ := h; rw [h]; decide)) (by omega)
      have hw' : w = 1 ∨ w = -1 := hw
      have tb : -far ≤ w * (1 + x) ∧ w * (1 + x) ≤ far ∧ w * (1 + x) ≠ 0 := by rcases hw' with rfl | rfl <;> omega
      have hc2 : Chg cs (i, w * (1 + x)) r a := ⟨hc.at_, hc.up, hc.above, hc.ne⟩
      have e3 := e_lchanged h hp hc2 (by omega)
      have q3 : chgO cs p (i, w * (1 + x)) = chgP r.mn i a p (w * (1 + x)) := chgO_eq h hc2
      rw [← q3] at e3
      have e4 := e_lchanged h hp hc (by rcases hw' with rfl | rfl <;> decide)
      have q4 : chgO cs p (i, w) = chgP r.mn i a p w := chgO_eq h hc
      rw [← q4] at e4
      have st2 : ∀ f, sIf (mT (m2 gEq (mVar 7) (mLst mNil))) f sNx [some (.own true o), some (.imm (csD cs)), some (.imm (psD p)), a3.map .imm, some (.imm (.int far)), some (.own false (.lst (L.map (chD cs)))), a6.map .imm, some (.imm (rowsD cs S)), a8.map .imm, a9.map .imm, a10.map .imm, a11.map .imm] =
          .ok .nx [some (.own true o), some (.imm (csD cs)), some (.imm (psD p)), a3.map .imm, some (.imm (.int far)), some (.own false (.lst (L.map (chD cs)))), a6.map .imm, some (.imm (rowsD cs S)), a8.map .imm, a9.map .imm, a10.map .imm, a11.map .imm] := fun f => by
        generalize rowsD cs S = R at gn ⊢
        simp [runFn, startE, keepO, keepA, sRet, sRetN, sRetA, sRetNone, sSeq, sIf, sNx, sDrop, sSet, sTg, tN, canSet, sSetN, Md.bind, Md.ret, Md.opt, mVar, mC, mT, m2, m1, mIf, mAndV, mOrV, mNotV, mAndT, mOrT, mNotT, mChain, mCons, mNil, mCall, mCallN, mImm, mOwn, mTup, mLst, mLstN, mItems, mFrz, rs, im, rss, ims, ownD, argOf, argsOf, slotOf, isSlot, cellsBack, backA, mCallA, List.filterMap_cons, List.filterMap_nil, List.findIdx?_cons, List.findIdx?_nil, gn]
      have st3 : sTg (tTupT 2 (tsCons (tN 8) (tsCons (tN 9) tsNil))) (mImm (mCallA 2 m__law_one (mCons (mVar 0) (mCons (mVar 7) mNil)))) [some (.own true o), some (.imm (csD cs)), some (.imm (psD p)), a3.map .imm, some (.imm (.int far)), some (.own false (.lst (L.map (chD cs)))), a6.map .imm, some (.imm (rowsD cs S)), a8.map .imm, a9.map .imm, a10.map .imm, a11.map .imm] =
          .ok .nx [some (.own true o1), some (.imm (csD cs)), some (.imm (psD p)), a3.map .imm, some (.imm (.int far)), some (.own false (.lst (L.map (chD cs)))), a6.map .imm, some (.imm (rowsD cs S)), some (.imm (.str r.nm)), some (.imm (.int w)), a10.map .imm, a11.map .imm] := by
        generalize rowsD cs S = R at e1 ⊢
        cases a8 <;> cases a9 <;> simp [runFn, startE, keepO, keepA, sRet, sRetN, sRetA, sRetNone, sSeq, sIf, sNx, sDrop, sSet, sTg, tN, canSet, sSetN, Md.bind, Md.ret, Md.opt, mVar, mC, mT, m2, m1, mIf, mAndV, mOrV, mNotV, mAndT, mOrT, mNotT, mChain, mCons, mNil, mCall, mCallN, mImm, mOwn, mTup, mLst, mLstN, mItems, mFrz, rs, im, rss, ims, ownD, argOf, argsOf, slotOf, isSlot, cellsBack, backA, mCallA, List.filterMap_cons, List.filterMap_nil, List.findIdx?_cons, List.findIdx?_nil, e1, tTupT, tsCons, tsNil]
      have st4 : sSet 10 (m2 gMul (mVar 9) (m2 gAdd (mC (.int 1)) (mImm (mCallA 2 m__law_pick (mCons (mVar 0) (mCons (mVar 4) mNil)))))) [some (.own true o1), some (.imm (csD cs)), some (.imm (psD p)), a3.map .imm, some (.imm (.int far)), some (.own false (.lst (L.map (chD cs)))), a6.map .imm, some (.imm (rowsD cs S)), some (.imm (.str r.nm)), some (.imm (.int w)), a10.map .imm, a11.map .imm] =
          .ok .nx [some (.own true o2), some (.imm (csD cs)), some (.imm (psD p)), a3.map .imm, some (.imm (.int far)), some (.own false (.lst (L.map (chD cs)))), a6.map .imm, some (.imm (rowsD cs S)), some (.imm (.str r.nm)), some (.imm (.int w)), some (.imm (.int (w * (1 + x)))), a11.map .imm] := by
        cases a10 <;> simp [runFn, startE, keepO, keepA, sRet, sRetN, sRetA, sRetNone, sSeq, sIf, sNx, sDrop, sSet, sTg, tN, canSet, sSetN, Md.bind, Md.ret, Md.opt, mVar, mC, mT, m2, m1, mIf, mAndV, mOrV, mNotV, mAndT, mOrT, mNotT, mChain, mCons, mNil, mCall, mCallN, mImm, mOwn, mTup, mLst, mLstN, mItems, mFrz, rs, im, rss, ims, ownD, argOf, argsOf, slotOf, isSlot, cellsBack, backA, mCallA, List.filterMap_cons, List.filterMap_nil, List.findIdx?_cons, List.findIdx?_nil, e2, gAdd_int, gm]
      have st5 : sSet 11 (mImm (mCallA 4 m__law_changed (mCons (mVar 1) (mCons (mVar 2) (mCons (mVar 8) (mCons (mVar 10) mNil)))))) [some (.own true o2), some (.imm (csD cs)), some (.imm (psD p)), a3.map .imm, some (.imm (.int far)), some (.own false (.lst (L.map (chD cs)))), a6.map .imm, some (.imm (rowsD cs S)), some (.imm (.str r.nm)), some (.imm (.int w)), some (.imm (.int (w * (1 + x)))), a11.map .imm] =
          .ok .nx [some (.own true o2), some (.imm (csD cs)), some (.imm (psD p)), a3.map .imm, some (.imm (.int far)), some (.own false (.lst (L.map (chD cs)))), a6.map .imm, some (.imm (rowsD cs S)), some (.imm (.str r.nm)), some (.imm (.int w)), some (.imm (.int (w * (1 + x)))), some (.imm (oD (chgO cs p (i, w * (1 + x)))))] := by
        generalize chgO cs p (i, w * (1 + x)) = z at e3 ⊢
        cases a11 <;> simp [runFn, startE, keepO, keepA, sRet, sRetN, sRetA, sRetNone, sSeq, sIf, sNx, sDrop, sSet, sTg, tN, canSet, sSetN, Md.bind, Md.ret, Md.opt, mVar, mC, mT, m2, m1, mIf, mAndV, mOrV, mNotV, mAndT, mOrT, mNotT, mChain, mCons, mNil, mCall, mCallN, mImm, mOwn, mTup, mLst, mLstN, mItems, mFrz, rs, im, rss, ims, ownD, argOf, argsOf, slotOf, isSlot, cellsBack, backA, mCallA, List.filterMap_cons, List.filterMap_nil, List.findIdx?_cons, List.findIdx?_nil, e3]
      have fin : ∀ (t : Int) (q : List Int), (sSeq (sDrop (mMeth 5 gAppend (mCons (mTup (mCons (mVar 8) (mCons (mVar 10) mNil))) mNil))) (sSet 2 (mVar 11)))
          [some (.own true o2), some (.imm (csD cs)), some (.imm (psD p)), a3.map .imm, some (.imm (.int far)), some (.own false (.lst (L.map (chD cs)))), a6.map .imm, some (.imm (rowsD cs S)), some (.imm (.str r.nm)), some (.imm (.int w)), some (.imm (.int t)), some (.imm (psD q))] =
          .ok .nx [some (.own true o2), some (.imm (csD cs)), some (.imm (psD q)), a3.map .imm, some (.imm (.int far)), some (.own false (.lst ((L ++ [(i, t)]).map (chD cs)))), a6.map .imm, some (.imm (rowsD cs S)), some (.imm (.str r.nm)), some (.imm (.int w)), some (.imm (.int t)), some (.imm (psD q))] := fun t q => by
        have ga := gAppend_of (es := L.map (chD cs)) (d := .tuple [.str r.nm, .int t]) (by rw [List.length_map]; omega)
        refine seq_nx [some (.own true o2), some (.imm (csD cs)), some (.imm (psD p)), a3.map .imm, some (.imm (.int far)), some (.own false (.lst ((L ++ [(i, t)]).map (chD cs)))), a6.map .imm, some (.imm (rowsD cs S)), some (.imm (.str r.nm)), some (.imm (.int w)), some (.imm (.int t)), some (.imm (psD q))] ?_ ?_
        · refine (drop_eq (meth_eq (ρ' := [some (.own true o2), some (.imm (csD cs)), some (.imm (psD p)), a3.map .imm, some (.imm (.int far)), some (.own false (.lst (L.map (chD cs)))), a6.map .imm, some (.imm (rowsD cs S)), some (.imm (.str r.nm)), some (.imm (.int w)), some (.imm (.int t)), some (.imm (psD q))]) (os := [.dat (.tuple [.str r.nm, .int t])]) rfl (cons_eq (ρ1 := [some (.own true o2), some (.imm (csD cs)), some (.imm (psD p)), a3.map .imm, some (.imm (.int far)), some (.own false (.lst (L.map (chD cs)))), a6.map .imm, some (.imm (rowsD cs S)), some (.imm (.str r.nm)), some (.imm (.int w)), some (.imm (.int t)), some (.imm (psD q))]) ?_ nil_eq) rfl rfl ga)).trans ?_
          · simp [runFn, startE, keepO, keepA, sRet, sRetN, sRetA, sRetNone, sSeq, sIf, sNx, sDrop, sSet, sTg, tN, canSet, sSetN, Md.bind, Md.ret, Md.opt, mVar, mC, mT, m2, m1, mIf, mAndV, mOrV, mNotV, mAndT, mOrT, mNotT, mChain, mCons, mNil, mCall, mCallN, mImm, mOwn, mTup, mLst, mLstN, mItems, mFrz, rs, im, rss, ims, ownD, argOf, argsOf, slotOf, isSlot, cellsBack, backA, mCallA, List.filterMap_cons, List.filterMap_nil, List.findIdx?_cons, List.findIdx?_nil, lim]
          · rw [List.map_append, List.map_singleton, chD_at hi]
            rfl
        · simp [runFn, startE, keepO, keepA, sRet, sRetN, sRetA, sRetNone, sSeq, sIf, sNx, sDrop, sSet, sTg, tN, canSet, sSetN, Md.bind, Md.ret, Md.opt, mVar, mC, mT, m2, m1, mIf, mAndV, mOrV, mNotV, mAndT, mOrT, mNotT, mChain, mCons, mNil, mCall, mCallN, mImm, mOwn, mTup, mLst, mLstN, mItems, mFrz, rs, im, rss, ims, ownD, argOf, argsOf, slotOf, isSlot, cellsBack, backA, mCallA, List.filterMap_cons, List.filterMap_nil, List.findIdx?_cons, List.findIdx?_nil]
      cases z : chgO cs p (i, w * (1 + x)) with
      | some q =>
        refine ⟨(i, w * (1 + x)), q, o2, rowsD cs S, .str r.nm, .int w, .int (w * (1 + x)), psD q, ⟨r, a, hc2⟩, tb.2.2, tb.1, tb.2.1, z, d2.mono (by omega), ?_⟩
        unfold b__law_row_1
        refine (sSeq_nx st1).trans ((sSeq_nx (st2 _)).trans ((sSeq_nx st3).trans ((sSeq_nx st4).trans ((sSeq_nx st5).trans ((sSeq_nx ?_).trans (fin _ q))))))
        rw [z]
        have nq : isNone (psD q) = false := rfl
        show sIf _ _ _ [some (.own true o2), some (.imm (csD cs)), some (.imm (psD p)), a3.map .imm, some (.imm (.int far)), some (.own false (.lst (L.map (chD cs)))), a6.map .imm, some (.imm (rowsD cs S)), some (.imm (.str r.nm)), some (.imm (.int w)), some (.imm (.int (w * (1 + x)))), some (.imm (psD q))] = .ok .nx [some (.own true o2), some (.imm (csD cs)), some (.imm (psD p)), a3.map .imm, some (.imm (.int far)), some (.own false (.lst (L.map (chD cs)))), a6.map .imm, some (.imm (rowsD cs S)), some (.imm (.str r.nm)), some (.imm (.int w)), some (.imm (.int (w * (1 + x)))), some (.imm (psD q))]
        generalize psD q = Q at nq ⊢
        simp [runFn, startE, keepO, keepA, sRet, sRetN, sRetA, sRetNone, sSeq, sIf, sNx, sDrop, sSet, sTg, tN, canSet, sSetN, Md.bind, Md.ret, Md.opt, mVar, mC, mT, m2, m1, mIf, mAndV, mOrV, mNotV, mAndT, mOrT, mNotT, mChain, mCons, mNil, mCall, mCallN, mImm, mOwn, mTup, mLst, mLstN, mItems, mFrz, rs, im, rss, ims, ownD, argOf, argsOf, slotOf, isSlot, cellsBack, backA, mCallA, List.filterMap_cons, List.filterMap_nil, List.findIdx?_cons, List.findIdx?_nil, gIsN_eq, nq]
      | none =>
        cases z2 : chgO cs p (i, w) with
        | none => rw [z2] at hq; cases hq
        | some q =>
          refine ⟨(i, w), q, o2, rowsD cs S, .str r.nm, .int w, .int w, psD q, ⟨r, a, hc⟩, by rcases hw' with rfl | rfl <;> (show ¬ _ = _; omega), by rcases hw' with rfl | rfl <;> (show _ ≤ _; omega), by rcases hw' with rfl | rfl <;> (show _ ≤ _; omega), z2, d2.mono (by omega), ?_⟩
          unfold b__law_row_1
          refine (sSeq_nx st1).trans ((sSeq_nx (st2 _)).trans ((sSeq_nx st3).trans ((sSeq_nx st4).trans ((sSeq_nx st5).trans ((sSeq_nx ?_).trans (fin _ q))))))
          rw [z]
          rw [z2] at e4
          have e4 : m__law_changed [.imm (csD cs), .imm (psD p), .imm (.str r.nm), .imm (.int w)] = .ok (.imm (psD q)) [none, none, none, none, none, none, none, none] := e4
          have nq : isNone (oD none) = true := rfl
          generalize oD none = N at nq ⊢
          simp [runFn, startE, keepO, keepA, sRet, sRetN, sRetA, sRetNone, sSeq, sIf, sNx, sDrop, sSet, sTg, tN, canSet, sSetN, Md.bind, Md.ret, Md.opt, mVar, mC, mT, m2, m1, mIf, mAndV, mOrV, mNotV, mAndT, mOrT, mNotT, mChain, mCons, mNil, mCall, mCallN, mImm, mOwn, mTup, mLst, mLstN, mItems, mFrz, rs, im, rss, ims, ownD, argOf, argsOf, slotOf, isSlot, cellsBack, backA, mCallA, List.filterMap_cons, List.filterMap_nil, List.findIdx?_cons, List.findIdx?_nil, gIsN_eq, nq, e4]
theorem e_row {cs : List Rw} (h : Coins cs) {n : Int} {o : Own} (hd : Dk n o) (hn : n ≤ 1000000000) {p : List Int} (hp : p.length = cs.length) (hp0 : ∀ x ∈ p, 0 ≤ x) {am far : Int} (m0 : 0 ≤ am) (m1 : am ≤ 60) (h1 : 1 ≤ far) (h2 : far < 2 ^ 150) :
    ∃ (L : List (Nat × Int)) (q : List Int) (o' : Own), FarRow cs far L ∧ (L.length : Int) ≤ am ∧ doneO cs (some p) L = some q ∧ Dk (n + 122) o' ∧
      m__law_row [.own true o, .imm (csD cs), .imm (psD p), .imm (.int am), .imm (.int far)] = .ok (.own false (.lst (L.map (chD cs)))) [some (.own true o'), none, none, none, none, none, none, none, none, none, none, none] := by
  obtain ⟨k, o1, k0, k1, d1, e1⟩ := e_pick hd (by omega) (s := am + 1) (by omega) (by omega)
  obtain ⟨K, hK⟩ : ∃ K : Nat, k = (K : Int) := ⟨k.toNat, by omega⟩
  subst hK
  have st0 : sSetN 5 (mLstN mNil) [some (.own true o), some (.imm (csD cs)), some (.imm (psD p)), some (.imm (.int am)), some (.imm (.int far)), none, none, none, none, none, none, none] =
      .ok .nx [some (.own true o), some (.imm (csD cs)), some (.imm (psD p)), some (.imm (.int am)), some (.imm (.int far)), some (.own false (.lst [])), none, none, none, none, none, none] := by simp [runFn, startE, keepO, keepA, sRet, sRetN, sRetA, sRetNone, sSeq, sIf, sNx, sDrop, sSet, sTg, tN, canSet, sSetN, Md.bind, Md.ret, Md.opt, mVar, mC, mT, m2, m1, mIf, mAndV, mOrV, mNotV, mAndT, mOrT, mNotT, mChain, mCons, mNil, mCall, mCallN, mImm, mOwn, mTup, mLst, mLstN, mItems, mFrz, rs, im, rss, ims, ownD, argOf, argsOf, slotOf, isSlot, cellsBack, backA, mCallA, List.filterMap_cons, List.filterMap_nil, List.findIdx?_cons, List.findIdx?_nil, lim]
  have lf : l__law_row_1 [some (.own true o), some (.imm (csD cs)), some (.imm (psD p)), some (.imm (.int am)), some (.imm (.int far)), some (.own false (.lst [])), none, none, none, none, none, none] =
      forL (tN 6) b__law_row_1 (rangeD 0 K) [some (.own true o1), some (.imm (csD cs)), some (.imm (psD p)), some (.imm (.int am)), some (.imm (.int far)), some (.own false (.lst [])), none, none, none, none, none, none] := by
    refine sFor_eq (range1_eq (os := [.dat (.int (K : Nat))]) ?_ rfl (small62_int (by omega) (by omega)))
    simp [runFn, startE, keepO, keepA, sRet, sRetN, sRetA, sRetNone, sSeq, sIf, sNx, sDrop, sSet, sTg, tN, canSet, sSetN, Md.bind, Md.ret, Md.opt, mVar, mC, mT, m2, m1, mIf, mAndV, mOrV, mNotV, mAndT, mOrT, mNotT, mChain, mCons, mNil, mCall, mCallN, mImm, mOwn, mTup, mLst, mLstN, mItems, mFrz, rs, im, rss, ims, ownD, argOf, argsOf, slotOf, isSlot, cellsBack, backA, mCallA, List.filterMap_cons, List.filterMap_nil, List.findIdx?_cons, List.findIdx?_nil, gAdd_int, e1]
  rcases forL_ret (tg := tN 6) (body := b__law_row_1) (fun i ρ => ∃ (L : List (Nat × Int)) (q : List Int) (o' : Own) (x6 x7 x8 x9 x10 x11 : Option D), L.length = i ∧ FarRow cs far L ∧ doneO cs (some p) L = some q ∧ Dk (n + 1 + 2 * i) o' ∧
      ρ = [some (.own true o'), some (.imm (csD cs)), some (.imm (psD q)), some (.imm (.int am)), some (.imm (.int far)), some (.own false (.lst (L.map (chD cs)))), x6.map .imm, x7.map .imm, x8.map .imm, x9.map .imm, x10.map .imm, x11.map .imm])
    (fun a ρ => ∃ (L : List (Nat × Int)) (q : List Int) (o' : Own), L.length ≤ K ∧ FarRow cs far L ∧ doneO cs (some p) L = some q ∧ Dk (n + 122) o' ∧ a = .own false (.lst (L.map (chD cs))) ∧ keepO 5 ρ = [some (.own true o'), none, none, none, none, none, none, none, none, none, none, none])
    (rangeD 0 K) 0 [some (.own true o1), some (.imm (csD cs)), some (.imm (psD p)), some (.imm (.int am)), some (.imm (.int far)), some (.own false (.lst [])), none, none, none, none, none, none]
    ⟨[], p, o1, none, none, none, none, none, none, rfl, fun c m => absurd m List.not_mem_nil, rfl, by simpa using d1, rfl⟩
    (fun i d ρ hdr ⟨L, q, o', x6, x7, x8, x9, x10, x11, hl, hf, hq, dk, e⟩ => by
      subst e
      rw [range0] at hdr
      obtain ⟨hi, rfl⟩ := range_get hdr
      have hql : q.length = cs.length := (doneO_ok L (some p) (fun z e => by
        cases e
        exact ⟨hp, hp0⟩) q hq).1
      rcases row_turn h dk (by omega) hql h1 h2 (L := L) (by omega) (a3 := some (.int am)) (a6 := some (.int (0 + (i : Nat)))) (a7 := x7) (a8 := x8) (a9 := x9) (a10 := x10) (a11 := x11) with ⟨ρ2, o2, dk2, eb, ek⟩ | ⟨c, q2, o2, b7, b8, b9, b10, b11, hc, c0, c1, c2, hq2, dk2, eb⟩
      · refine ⟨_, ρ2, ?_, .inr ⟨_, eb, L, q, o2, by omega, hf, hq, dk2.mono (by omega), rfl, ek⟩⟩
        cases x6 <;> simp [tN, canSet]
      · refine ⟨_, _, ?_, .inl ⟨.inl eb, L ++ [c], q2, o2, some (.int (0 + (i : Nat))), some b7, some b8, some b9, some b10, some b11, by rw [List.length_append, List.length_singleton]; omega, fun z m => ?_, by rw [doneO_snoc, hq]; exact hq2, dk2.mono (by push_cast; omega), rfl⟩⟩
        · cases x6 <;> simp [tN, canSet]
        · rcases List.mem_append.mp m with m | m
          · exact hf z m
          · rw [List.mem_singleton.mp m]; exact ⟨hc, c0, c1, c2⟩)
    with ⟨ρ', e, L, q, o', x6, x7, x8, x9, x10, x11, hl, hf, hq, dk, er⟩ | ⟨a, ρ', e, L, q, o', hl, hf, hq, dk, ea, ek⟩
  · rw [range0, range_len] at hl dk
    refine ⟨L, q, o', hf, by omega, hq, dk.mono (by omega), ?_⟩
    refine run_rt (.own false (.lst (L.map (chD cs)))) ρ' (seq_nx _ st0 (seq_nx _ (lf.trans e) ?_)) ?_
    · rw [er]
      simp [runFn, startE, keepO, keepA, sRet, sRetN, sRetA, sRetNone, sSeq, sIf, sNx, sDrop, sSet, sTg, tN, canSet, sSetN, Md.bind, Md.ret, Md.opt, mVar, mC, mT, m2, m1, mIf, mAndV, mOrV, mNotV, mAndT, mOrT, mNotT, mChain, mCons, mNil, mCall, mCallN, mImm, mOwn, mTup, mLst, mLstN, mItems, mFrz, rs, im, rss, ims, ownD, argOf, argsOf, slotOf, isSlot, cellsBack, backA, mCallA, List.filterMap_cons, List.filterMap_nil, List.findIdx?_cons, List.findIdx?_nil]
    · rw [er]
      simp [keepO, keepA]
  · refine ⟨L, q, o', hf, by omega, hq, dk, ?_⟩
    refine run_rt (.own false (.lst (L.map (chD cs)))) ρ' (seq_nx _ st0 (sSeq_rt ?_)) ?_
    · rw [lf, e, ea]
    · show Rs.ok _ (keepO 5 ρ') = _
      rw [ek]
end DV

set_option Elab.async false
set_option linter.all false
set_option maxRecDepth 100000
set_option maxHeartbeats 4000000
set_option autoImplicit false
/-! MxL02: the law of rows. -/
namespace DV
open PySem L2
/-! back again -/
theorem undo_step {m : Int} {i a : Nat} {p : List Int} {t : Int} (hi : i < p.length) (ha : a < p.length) (ne : a ≠ i) : stepP m i a (stepP m i a p t) (-t) = p := by
  have ga : gp (p.set i (gp p i - m * t)) a = gp p a := gp_set_ne fun e => ne e.symm
  have e1 : stepP m i a p t = (p.set i (gp p i - m * t)).set a (gp p a + t) := by
    unfold stepP
    rw [ga]
  rw [e1]
  generalize hq : (p.set i (gp p i - m * t)).set a (gp p a + t) = q
  have qi : gp q i = gp p i - m * t := by
    rw [← hq, gp_set_ne ne, gp_set_same hi]
  have qa : gp q a = gp p a + t := by
    rw [← hq, gp_set_same (by rw [List.length_set]; exact ha)]
  unfold stepP
  have x1 : gp q i - m * -t = gp p i := by
    rw [qi, Int.mul_neg]
    omega
  rw [x1, gp_set_ne (fun e => ne e.symm), qa, show gp p a + t + -t = gp p a by omega, ← hq]
  refine List.ext_getElem? fun j => ?_
  have gj : ∀ k, k < p.length → p[k]? = some (gp p k) := fun k hk => by
    unfold gp
    rw [List.getD_eq_getElem?_getD, List.getElem?_eq_getElem hk]
    rfl
  by_cases h2 : j = a
  · subst h2
    rw [List.getElem?_set_self (by simpa using ha), gj _ ha]
  · rw [List.getElem?_set_ne fun e => h2 e.symm]
    by_cases h1 : j = i
    · subst h1
      rw [List.getElem?_set_self (by simpa using hi), gj _ hi]
    · rw [List.getElem?_set_ne fun e => h1 e.symm, List.getElem?_set_ne fun e => h2 e.symm, List.getElem?_set_ne fun e => h1 e.symm]
def negC (c : Nat × Int) : Nat × Int := (c.1, -c.2)
theorem chg_neg {cs : List Rw} {c : Nat × Int} {r : Rw} {a : Nat} (h : Chg cs c r a) : Chg cs (negC c) r a := ⟨h.at_, h.up, h.above, h.ne⟩
theorem undo_chg {cs : List Rw} (h : Coins cs) {p q : List Int} (hp : p.length = cs.length) (hp0 : ∀ x ∈ p, 0 ≤ x) {c : Nat × Int} {r : Rw} {a : Nat} (hc : Chg cs c r a) (e : chgO cs p c = some q) : chgO cs q (negC c) = some p := by
  rw [chgO_eq h hc] at e
  rw [chgO_eq h (chg_neg hc)]
  obtain ⟨r2, ha, _⟩ := hc.above
  have hil : c.1 < p.length := by rw [hp]; exact (List.getElem?_eq_some_iff.mp hc.at_).1
  have hal : a < p.length := by rw [hp]; exact (List.getElem?_eq_some_iff.mp ha).1
  have u := undo_step (m := r.mn) (t := c.2) hil hal hc.ne
  unfold chgP at e
  split at e
  · cases e
    show chgP r.mn c.1 a (stepP r.mn c.1 a p c.2) (-c.2) = some p
    unfold chgP
    rw [u, if_pos (posB_iff.mpr hp0)]
  · cases e
theorem undo_row {cs : List Rw} (h : Coins cs) : ∀ (L : List (Nat × Int)) (p q : List Int), p.length = cs.length → (∀ x ∈ p, 0 ≤ x) → (∀ c ∈ L, ∃ r a, Chg cs c r a) → doneO cs (some p) L = some q → doneO cs (some q) (L.reverse.map negC) = some p
  | [], p, q, _, _, _, e => by
    have : some p = some q := e
    cases this
    rfl
  | c :: L, p, q, hp, hp0, hc, e => by
    obtain ⟨r, a, hk⟩ := hc c (.head _)
    have e : doneO cs (chgO cs p c) L = some q := e
    cases z : chgO cs p c with
    | none => rw [z, doneO_none] at e; cases e
    | some p1 =>
      rw [z] at e
      obtain ⟨l1, n1⟩ := chgO_ok hp p1 z
      have ih := undo_row h L p1 q l1 n1 (fun x m => hc x (.tail _ m)) e
      rw [List.reverse_cons, List.map_append, List.map_singleton, doneO_snoc, ih]
      exact undo_chg h hp hp0 hk z
/-! the rows that are asked about -/
theorem FarRow.mono {cs : List Rw} {f g : Int} {L : List (Nat × Int)} (h : FarRow cs f L) (hl : f ≤ g) : FarRow cs g L := fun c m => by
  obtain ⟨a, b, d, e⟩ := h c m
  exact ⟨a, b, by omega, by omega⟩
theorem FarRow.fit {cs : List Rw} {L : List (Nat × Int)} (h : FarRow cs (10 ^ 30) L) (hl : L.length ≤ 60) : FitRow cs L := ⟨hl, fun c m => by
  obtain ⟨a, b, d, e⟩ := h c m
  exact ⟨a, by omega, by omega, b⟩⟩
theorem pow31 : gPow (.int 10) (.int 31) = some (.int (10 ^ 31)) := by
  show (if cPow 10 31 = true then some (PyData.int (10 ^ (31 : Int).toNat)) else none) = _
  rw [cPow_of (by decide) (by decide) (by decide) (by decide)]
  rfl
theorem pow30 : gPow (.int 10) (.int 30) = some (.int (10 ^ 30)) := by
  show (if cPow 10 30 = true then some (PyData.int (10 ^ (30 : Int).toNat)) else none) = _
  rw [cPow_of (by decide) (by decide) (by decide) (by decide)]
  rfl
theorem pow28 : gPow (.int 10) (.int 28) = some (.int (10 ^ 28)) := by
  show (if cPow 10 28 = true then some (PyData.int (10 ^ (28 : Int).toNat)) else none) = _
  rw [cPow_of (by decide) (by decide) (by decide) (by decide)]
  rfl
/-- one row asked about -/
theorem asked {cs : List Rw} (h : Coins cs) {p f : List Int} (hp : Purse cs (10 ^ 30) p) (hf : Purse cs 99 f) {R : List (Nat × Int)} (hR : FarRow cs (10 ^ 30) R) (hl : R.length ≤ 60) {a0 a1 a2 a5 a6 a7 a11 a14 a15 : Option A} {x8 x9 x13 : Option D} :
    ∃ y13 : D, b_law_2 [a0, a1, a2, some (.imm (csD cs)), some (.imm (psD p)), a5, a6, a7, x8.map .imm, x9.map .imm, some (.imm (psD f)), a11, some (.imm (rowsD cs R)), x13.map .imm, a14, a15] =
      .ok .nx [a0, a1, a2, some (.imm (csD cs)), some (.imm (psD p)), a5, a6, a7, x8.map .imm, x9.map .imm, some (.imm (psD f)), a11, some (.imm (rowsD cs R)), some (.imm y13), a14, a15] := by
  have fit := hR.fit hl
  have nb : ∀ x : Option D, noOwn [a0, a1, a2, some (.imm (csD cs)), some (.imm (psD p)), a5, a6, a7, x8.map .imm, x9.map .imm, some (.imm (psD f)), a11, some (.imm (rowsD cs R)), x13.map .imm, a14, a15] 8 = true := fun _ => by cases x8 <;> rfl
  have nc : noOwn [a0, a1, a2, some (.imm (csD cs)), some (.imm (psD p)), a5, a6, a7, x8.map .imm, x9.map .imm, some (.imm (psD f)), a11, some (.imm (rowsD cs R)), x13.map .imm, a14, a15] 9 = true := by cases x9 <;> rfl
  have it : mSeq (mVar 12) [a0, a1, a2, some (.imm (csD cs)), some (.imm (psD p)), a5, a6, a7, x8.map .imm, x9.map .imm, some (.imm (psD f)), a11, some (.imm (rowsD cs R)), x13.map .imm, a14, a15] = .ok (R.map (chD cs)) [a0, a1, a2, some (.imm (csD cs)), some (.imm (psD p)), a5, a6, a7, x8.map .imm, x9.map .imm, some (.imm (psD f)), a11, some (.imm (rowsD cs R)), x13.map .imm, a14, a15] := by
    simp [mSeq, runFn, startE, keepO, keepA, sRet, sRetN, sRetA, sRetNone, sSeq, sIf, sNx, sDrop, sSet, sTg, tN, canSet, sSetN, Md.bind, Md.ret, Md.opt, mVar, mC, mT, m2, m1, mIf, mAndV, mOrV, mNotV, mAndT, mOrT, mNotT, mChain, mCons, mNil, mCall, mCallN, mImm, mOwn, mTup, mLst, mLstN, mItems, mFrz, rs, im, rss, ims, ownD, argOf, argsOf, slotOf, isSlot, cellsBack, backA, mCallA, List.filterMap_cons, List.filterMap_nil, List.findIdx?_cons, List.findIdx?_nil, rowsD, items]
  have lR : R.length ≤ lim := Nat.le_trans hl (by decide)
  have va : ([8, 9] : List Nat).all (noOwn [a0, a1, a2, some (.imm (csD cs)), some (.imm (psD p)), a5, a6, a7, x8.map .imm, x9.map .imm, some (.imm (psD f)), a11, some (.imm (rowsD cs R)), x13.map .imm, a14, a15]) = true := by
    rw [List.all_cons, List.all_cons, nb none, nc]
    rfl
  -- none of them is too far
  have e2 := lcL_pure (vs := [8, 9]) (tg := tTupT 2 (tsCons (tN 8) (tsCons (tN 9) tsNil))) (test := t_law_1) (elt := x_law_2) (fun _ => false) id [a0, a1, a2, some (.imm (csD cs)), some (.imm (psD p)), a5, a6, a7, none, none, some (.imm (psD f)), a11, some (.imm (rowsD cs R)), x13.map .imm, a14, a15] (R.map (chD cs)) (by rw [List.length_map]; exact lR) (fun d m => by
    obtain ⟨⟨i, t⟩, mc, rfl⟩ := List.mem_map.mp m
    obtain ⟨⟨r, a, hc⟩, t0, t1, t2⟩ := hR _ mc
    have hi : cs[i]? = some r := hc.at_
    have t1 : -(10 ^ 30) ≤ t := t1
    have t2 : t ≤ 10 ^ 30 := t2
    have hab : ¬ (10 ^ 31 : Int) < ab t := by unfold ab; split <;> omega
    rw [chD_at hi]
    refine ⟨[a0, a1, a2, some (.imm (csD cs)), some (.imm (psD p)), a5, a6, a7, some (.imm (.str r.nm)), some (.imm (.int t)), some (.imm (psD f)), a11, some (.imm (rowsD cs R)), x13.map .imm, a14, a15], [a0, a1, a2, some (.imm (csD cs)), some (.imm (psD p)), a5, a6, a7, some (.imm (.str r.nm)), some (.imm (.int t)), some (.imm (psD f)), a11, some (.imm (rowsD cs R)), x13.map .imm, a14, a15], by simp [tTupT, tsCons, tsNil, tN, canSet], ?_, fun _ => ⟨rfl, rfl⟩, fun z => Bool.noConfusion z⟩
    have gg : gGt (.int (ab t)) (.int (10 ^ 31)) = some (.bool false) := by rw [gGt_int, decide_eq_false hab]
    have p31 := pow31
    generalize (10 ^ 31 : Int) = T at gg p31
    simp [t_law_1, runFn, startE, keepO, keepA, sRet, sRetN, sRetA, sRetNone, sSeq, sIf, sNx, sDrop, sSet, sTg, tN, canSet, sSetN, Md.bind, Md.ret, Md.opt, mVar, mC, mT, m2, m1, mIf, mAndV, mOrV, mNotV, mAndT, mOrT, mNotT, mChain, mCons, mNil, mCall, mCallN, mImm, mOwn, mTup, mLst, mLstN, mItems, mFrz, rs, im, rss, ims, ownD, argOf, argsOf, slotOf, isSlot, cellsBack, backA, mCallA, List.filterMap_cons, List.filterMap_nil, List.findIdx?_cons, List.findIdx?_nil, gAbs_int, p31, gg])
  have c2 : c_law_2 [a0, a1, a2, some (.imm (csD cs)), some (.imm (psD p)), a5, a6, a7, x8.map .imm, x9.map .imm, some (.imm (psD f)), a11, some (.imm (rowsD cs R)), x13.map .imm, a14, a15] = .ok (.lst []) [a0, a1, a2, some (.imm (csD cs)), some (.imm (psD p)), a5, a6, a7, x8.map .imm, x9.map .imm, some (.imm (psD f)), a11, some (.imm (rowsD cs R)), x13.map .imm, a14, a15] := by
    refine (mLc_eq it va e2).trans ?_
    have : (R.map (chD cs)).filter (fun _ => false) = [] := List.filter_eq_nil_iff.mpr fun _ _ => Bool.false_ne_true
    rw [this]
    rfl
  -- what is due
  have e3 := lcL_of (vs := [8, 9]) (tg := tTupT 2 (tsCons (tN 8) (tsCons (tN 9) tsNil))) (elt := x_law_3) (chD cs) (fun c => .int (gp f c.1 * ab c.2)) [a0, a1, a2, some (.imm (csD cs)), some (.imm (psD p)), a5, a6, a7, none, none, some (.imm (psD f)), a11, some (.imm (rowsD cs R)), x13.map .imm, a14, a15] R lR (fun c m => by
    obtain ⟨i, t⟩ := c
    obtain ⟨⟨r, a, hc⟩, ht⟩ := fit.2 _ m
    have hi : cs[i]? = some r := hc.at_
    have hil := (List.getElem?_eq_some_iff.mp hi).1
    have ep := e_at h hi
    have xf := ix_ps (p := f) (i := i) (by rw [hf.len]; exact hil)
    have gm := gMul_small (fees_gp hf hil) (ab_small (t := t) (fit.ok _ m).2)
    rw [chD_at hi]
    refine ⟨[a0, a1, a2, some (.imm (csD cs)), some (.imm (psD p)), a5, a6, a7, some (.imm (.str r.nm)), some (.imm (.int t)), some (.imm (psD f)), a11, some (.imm (rowsD cs R)), x13.map .imm, a14, a15], by simp [tTupT, tsCons, tsNil, tN, canSet], .dat (.int (gp f i * ab t)), [a0, a1, a2, some (.imm (csD cs)), some (.imm (psD p)), a5, a6, a7, some (.imm (.str r.nm)), some (.imm (.int t)), some (.imm (psD f)), a11, some (.imm (rowsD cs R)), x13.map .imm, a14, a15], ?_, rfl, rfl, rfl⟩
    simp [x_law_3, runFn, startE, keepO, keepA, sRet, sRetN, sRetA, sRetNone, sSeq, sIf, sNx, sDrop, sSet, sTg, tN, canSet, sSetN, Md.bind, Md.ret, Md.opt, mVar, mC, mT, m2, m1, mIf, mAndV, mOrV, mNotV, mAndT, mOrT, mNotT, mChain, mCons, mNil, mCall, mCallN, mImm, mOwn, mTup, mLst, mLstN, mItems, mFrz, rs, im, rss, ims, ownD, argOf, argsOf, slotOf, isSlot, cellsBack, backA, mCallA, List.filterMap_cons, List.filterMap_nil, List.findIdx?_cons, List.findIdx?_nil, ep, xf, gAbs_int, gm])
  have c3 : c_law_3 [a0, a1, a2, some (.imm (csD cs)), some (.imm (psD p)), a5, a6, a7, x8.map .imm, x9.map .imm, some (.imm (psD f)), a11, some (.imm (rowsD cs R)), x13.map .imm, a14, a15] = .ok (.lst (R.map fun c => .int (gp f c.1 * ab c.2))) [a0, a1, a2, some (.imm (csD cs)), some (.imm (psD p)), a5, a6, a7, x8.map .imm, x9.map .imm, some (.imm (psD f)), a11, some (.imm (rowsD cs R)), x13.map .imm, a14, a15] :=
    (mLc_eq it va e3).trans rfl
  have gs := gSum_ints (R.map fun c => gp f c.1 * ab c.2)
  rw [List.map_map] at gs
  have gs : gSum [.list (R.map fun c => PyData.int (gp f c.1 * ab c.2))] = some (.int (costL f R)) := gs
  generalize (R.map fun c => PyData.int (gp f c.1 * ab c.2)) = bs at c3 gs
  have eb := e_behind h hp fit
  have ed := e_ldone h fit.ok (o := some p) (fun q z => by cases z; exact ⟨hp.len, hp.low⟩)
  have ed : m__law_done [.imm (csD cs), .imm (psD p), .imm (rowsD cs R)] = .ok (.imm (oD (doneO cs (some p) R))) [none, none, none, none, none] := ed
  have ec := e_cost h hf fit
  have ok1 : goodD (oD (doneO cs (some p) R)) = true ∧ (oD (doneO cs (some p) R)).depth ≤ 1 := by
    cases z : doneO cs (some p) R with
    | none => exact ⟨rfl, by decide⟩
    | some q =>
      have := doneO_ok R (some p) (fun q z => by cases z; exact ⟨hp.len, hp.low⟩) q z
      refine ⟨good_ps (by rw [this.1]; have := (coins_len h).2; omega), ?_⟩
      show PyData.depthAll (q.map .int) + 1 ≤ 1
      rw [dep_ints]
      exact Nat.le_refl _
  have s1 := e_same 20 _ ok1.1 (by omega) (by omega)
  have s2 := e_same 20 (.int (costL f R)) rfl (by show 0 < 20; omega) (by show 0 ≤ 60; omega)
  have gn : gEq (.list []) (.list []) = some (.bool true) := rfl
  generalize oD (doneO cs (some p) R) = W at eb ed s1
  generalize costL f R = C at gs ec s2
  generalize rowsD cs R = RD at *
  generalize csD cs = CD at *
  generalize psD p = PD at *
  generalize psD f = FD at *
  refine ⟨.int C, ?_⟩
  unfold b_law_2
  refine (sIf_t (ρ1 := [a0, a1, a2, some (.imm CD), some (.imm PD), a5, a6, a7, x8.map .imm, x9.map .imm, some (.imm FD), a11, some (.imm RD), x13.map .imm, a14, a15]) (by simp [runFn, startE, keepO, keepA, sRet, sRetN, sRetA, sRetNone, sSeq, sIf, sNx, sDrop, sSet, sTg, tN, canSet, sSetN, Md.bind, Md.ret, Md.opt, mVar, mC, mT, m2, m1, mIf, mAndV, mOrV, mNotV, mAndT, mOrT, mNotT, mChain, mCons, mNil, mCall, mCallN, mImm, mOwn, mTup, mLst, mLstN, mItems, mFrz, rs, im, rss, ims, ownD, argOf, argsOf, slotOf, isSlot, cellsBack, backA, mCallA, List.filterMap_cons, List.filterMap_nil, List.findIdx?_cons, List.findIdx?_nil, c2, gn])).trans ?_
  refine seq_nx [a0, a1, a2, some (.imm CD), some (.imm PD), a5, a6, a7, x8.map .imm, x9.map .imm, some (.imm FD), a11, some (.imm RD), x13.map .imm, a14, a15] (by simp [runFn, startE, keepO, keepA, sRet, sRetN, sRetA, sRetNone, sSeq, sIf, sNx, sDrop, sSet, sTg, tN, canSet, sSetN, Md.bind, Md.ret, Md.opt, mVar, mC, mT, m2, m1, mIf, mAndV, mOrV, mNotV, mAndT, mOrT, mNotT, mChain, mCons, mNil, mCall, mCallN, mImm, mOwn, mTup, mLst, mLstN, mItems, mFrz, rs, im, rss, ims, ownD, argOf, argsOf, slotOf, isSlot, cellsBack, backA, mCallA, List.filterMap_cons, List.filterMap_nil, List.findIdx?_cons, List.findIdx?_nil, eb, ed, s1]) ?_
  refine seq_nx [a0, a1, a2, some (.imm CD), some (.imm PD), a5, a6, a7, x8.map .imm, x9.map .imm, some (.imm FD), a11, some (.imm RD), some (.imm (.int C)), a14, a15] ((set_eq (o := .dat (.int C)) (d := .int C) (ρ' := [a0, a1, a2, some (.imm CD), some (.imm PD), a5, a6, a7, x8.map .imm, x9.map .imm, some (.imm FD), a11, some (.imm RD), x13.map .imm, a14, a15]) (by simp [runFn, startE, keepO, keepA, sRet, sRetN, sRetA, sRetNone, sSeq, sIf, sNx, sDrop, sSet, sTg, tN, canSet, sSetN, Md.bind, Md.ret, Md.opt, mVar, mC, mT, m2, m1, mIf, mAndV, mOrV, mNotV, mAndT, mOrT, mNotT, mChain, mCons, mNil, mCall, mCallN, mImm, mOwn, mTup, mLst, mLstN, mItems, mFrz, rs, im, rss, ims, ownD, argOf, argsOf, slotOf, isSlot, cellsBack, backA, mCallA, List.filterMap_cons, List.filterMap_nil, List.findIdx?_cons, List.findIdx?_nil, c3, gs]) rfl (by cases x13 <;> rfl)).trans rfl) ?_
  simp [runFn, startE, keepO, keepA, sRet, sRetN, sRetA, sRetNone, sSeq, sIf, sNx, sDrop, sSet, sTg, tN, canSet, sSetN, Md.bind, Md.ret, Md.opt, mVar, mC, mT, m2, m1, mIf, mAndV, mOrV, mNotV, mAndT, mOrT, mNotT, mChain, mCons, mNil, mCall, mCallN, mImm, mOwn, mTup, mLst, mLstN, mItems, mFrz, rs, im, rss, ims, ownD, argOf, argsOf, slotOf, isSlot, cellsBack, backA, mCallA, List.filterMap_cons, List.filterMap_nil, List.findIdx?_cons, List.findIdx?_nil, ec, s2]
end DV

set_option Elab.async false
set_option linter.all false
set_option maxRecDepth 100000
set_option maxHeartbeats 4000000
set_option autoImplicit false
/-! MxM02: one cell of the law of rows. -/
namespace DV
open PySem L2
theorem gInsert_of {es : List D} {j : Nat} {d : D} (h : es.length ≤ 100000) (hj : j ≤ 1000) : gInsert es [.int (j : Nat), d] = some (.none, es.take j ++ [d] ++ es.drop j) := by
  show (if es.length < lim ∧ 0 ≤ ((j : Nat) : Int) ∧ ((j : Nat) : Int) < 2 ^ 62 then some (PyData.none, es.take ((j : Nat) : Int).toNat ++ [d] ++ es.drop ((j : Nat) : Int).toNat) else none) = _
  have h2 : ((j : Nat) : Int) < 2 ^ 62 := by
    have : (1001 : Int) < 2 ^ 62 := by decide
    omega
  rw [if_pos ⟨Nat.lt_of_le_of_lt h (by decide), Int.natCast_nonneg j, h2⟩]
  rfl

theorem bent_turn {S : D} {cell : Int} {cs : List Rw} (h : Coins cs) {p : List Int} {n : Int} {o : Own} (hd : Dk n o) (hn : n ≤ 10000000000) {L B : List (Nat × Int)} (hL : FarRow cs (10 ^ 28) L) (hl : L.length ≤ 60) (hne : L ≠ []) (hB : FarRow cs (10 ^ 30) B) (hb : B.length ≤ 1000) {x7 x8 x9 x10 x11 x12 x13 x14 x15 : Option D} :
    ∃ (B' : List (Nat × Int)) (o3 : Own) (y8 y9 : D), FarRow cs (10 ^ 30) B' ∧ B'.length = B.length + 1 ∧ Dk (n + 3) o3 ∧
      b_law_1 [some (.imm S), some (.imm (.int cell)), some (.own false o), some (.imm (csD cs)), some (.imm (psD p)), some (.imm (rowsD cs L)), some (.own false (.lst (B.map (chD cs)))), x7.map .imm, x8.map .imm, x9.map .imm, x10.map .imm, x11.map .imm, x12.map .imm, x13.map .imm, x14.map .imm, x15.map .imm] = .ok .nx [some (.imm S), some (.imm (.int cell)), some (.own false o3), some (.imm (csD cs)), some (.imm (psD p)), some (.imm (rowsD cs L)), some (.own false (.lst (B'.map (chD cs)))), x7.map .imm, some (.imm y8), some (.imm y9), x10.map .imm, x11.map .imm, x12.map .imm, x13.map .imm, x14.map .imm, x15.map .imm] := by
  have ne : L.map (chD cs) ≠ [] := fun e => hne (List.map_eq_nil_iff.mp e)
  obtain ⟨k, d, o1, hk, d1, e1⟩ := e_one (ds := L.map (chD cs)) hd (by omega) ne (by rw [List.length_map]; omega)
  rw [List.getElem?_map] at hk
  cases es : L[k]? with
  | none => rw [es] at hk; cases hk
  | some c0 =>
    rw [es] at hk
    have hk : chD cs c0 = d := Option.some.inj hk
    obtain ⟨i, t⟩ := c0
    obtain ⟨⟨r, a, hc⟩, t0, t1, t2⟩ := hL _ (List.mem_of_getElem? es)
    have hi : cs[i]? = some r := hc.at_
    have t0 : t ≠ 0 := t0
    have t1 : -(10 ^ 28) ≤ t := t1
    have t2 : t ≤ 10 ^ 28 := t2
    rw [chD_at hi] at hk
    subst hk
    have e1 : m__law_one [.own true o, .imm (rowsD cs L)] = .ok (.imm (.tuple [.str r.nm, .int t])) [some (.own true o1), none] := e1
    have hp : 0 < L.length := List.length_pos_iff.mpr hne
    obtain ⟨j, o2, j0, j1, d2, e2⟩ := e_pick d1 (by omega) (s := (L.length : Nat)) (by omega) (by omega)
    obtain ⟨J, rfl⟩ : ∃ J : Nat, j = (J : Int) := ⟨j.toNat, by omega⟩
    obtain ⟨k3, m, o3, hk3, d3, e3⟩ := e_one (ds := [.int 1, .int 2, .int 50]) d2 (by omega) (by simp) (by simp)
    have hm : ∃ v : Int, m = .int v ∧ 1 ≤ v ∧ v ≤ 50 := by
      match k3, hk3 with
      | 0, hk => cases hk; exact ⟨1, rfl, by omega, by omega⟩
      | 1, hk => cases hk; exact ⟨2, rfl, by omega, by omega⟩
      | 2, hk => cases hk; exact ⟨50, rfl, by omega, by omega⟩
      | k + 3, hk => simp at hk
    obtain ⟨v, rfl, v0, v1⟩ := hm
    have gm : gMul (.int t) (.int v) = some (.int (t * v)) := gMul_small (by omega) (by omega)
    have tv : -(10 ^ 30) ≤ t * v ∧ t * v ≤ 10 ^ 30 ∧ t * v ≠ 0 := by
      have hv : v = 1 ∨ v = 2 ∨ v = 50 ∨ True := .inr (.inr (.inr trivial))
      refine ⟨?_, ?_, fun z => ?_⟩
      · by_cases q : 0 ≤ t
        · have := Int.mul_nonneg q (show 0 ≤ v by omega); omega
        · have h1 : (-t) * v ≤ (-t) * 50 := Int.mul_le_mul_of_nonneg_left v1 (by omega)
          rw [Int.neg_mul] at h1
          omega
      · by_cases q : 0 ≤ t
        · have h1 : t * v ≤ t * 50 := Int.mul_le_mul_of_nonneg_left v1 q
          omega
        · have := Int.mul_nonneg (show 0 ≤ -t by omega) (show 0 ≤ v by omega)
          rw [Int.neg_mul] at this
          omega
      · rcases Int.mul_eq_zero.mp z with z | z <;> omega
    have gl : gLen [rowsD cs L] = some (.int (L.length : Nat)) := by unfold rowsD; rw [gLen_lst, List.length_map]
    have gi := gInsert_of (es := B.map (chD cs)) (j := J) (d := .tuple [.str r.nm, .int (t * v)]) (by rw [List.length_map]; omega) (by omega)
    have hc2 : Chg cs (i, t * v) r a := ⟨hc.at_, hc.up, hc.above, hc.ne⟩
    refine ⟨B.take J ++ [(i, t * v)] ++ B.drop J, o3, .str r.nm, .int t, fun z mz => ?_, ?_, d3.mono (by omega), ?_⟩
    · rcases List.mem_append.mp mz with mz | mz
      · rcases List.mem_append.mp mz with mz | mz
        · exact hB z (List.mem_of_mem_take mz)
        · rw [List.mem_singleton.mp mz]
          exact ⟨⟨r, a, hc2⟩, tv.2.2, tv.1, tv.2.1⟩
      · exact hB z (List.mem_of_mem_drop mz)
    · rw [List.length_append, List.length_append, List.length_singleton, List.length_take, List.length_drop]
      omega
    · have fin : (B.take J ++ [(i, t * v)] ++ B.drop J).map (chD cs) = (B.map (chD cs)).take J ++ [.tuple [.str r.nm, .int (t * v)]] ++ (B.map (chD cs)).drop J := by
        rw [List.map_append, List.map_append, List.map_singleton, chD_at hi, List.map_take, List.map_drop]
      rw [fin]
      generalize rowsD cs L = RL at e1 gl ⊢
      refine seq_nx [some (.imm S), some (.imm (.int cell)), some (.own false o1), some (.imm (csD cs)), some (.imm (psD p)), some (.imm RL), some (.own false (.lst (B.map (chD cs)))), x7.map .imm, some (.imm (.str r.nm)), some (.imm (.int t)), x10.map .imm, x11.map .imm, x12.map .imm, x13.map .imm, x14.map .imm, x15.map .imm] ?_ ?_
      · refine tg_eq (ρ' := [some (.imm S), some (.imm (.int cell)), some (.own false o1), some (.imm (csD cs)), some (.imm (psD p)), some (.imm RL), some (.own false (.lst (B.map (chD cs)))), x7.map .imm, x8.map .imm, x9.map .imm, x10.map .imm, x11.map .imm, x12.map .imm, x13.map .imm, x14.map .imm, x15.map .imm]) (o := .dat (.tuple [.str r.nm, .int t])) (d := .tuple [.str r.nm, .int t]) (by simp [runFn, startE, keepO, keepA, sRet, sRetN, sRetA, sRetNone, sSeq, sIf, sNx, sDrop, sSet, sTg, tN, canSet, sSetN, Md.bind, Md.ret, Md.opt, mVar, mC, mT, m2, m1, mIf, mAndV, mOrV, mNotV, mAndT, mOrT, mNotT, mChain, mCons, mNil, mCall, mCallN, mImm, mOwn, mTup, mLst, mLstN, mItems, mFrz, rs, im, rss, ims, ownD, argOf, argsOf, slotOf, isSlot, cellsBack, backA, mCallA, List.filterMap_cons, List.filterMap_nil, List.findIdx?_cons, List.findIdx?_nil, e1]) rfl ?_
        cases x8 <;> cases x9 <;> simp [tTupT, tsCons, tsNil, tN, canSet]
      · refine (drop_eq (meth_eq (ρ' := [some (.imm S), some (.imm (.int cell)), some (.own false o3), some (.imm (csD cs)), some (.imm (psD p)), some (.imm RL), some (.own false (.lst (B.map (chD cs)))), x7.map .imm, some (.imm (.str r.nm)), some (.imm (.int t)), x10.map .imm, x11.map .imm, x12.map .imm, x13.map .imm, x14.map .imm, x15.map .imm]) (os := [.dat (.int (J : Nat)), .dat (.tuple [.str r.nm, .int (t * v)])]) rfl ?_ rfl rfl gi)).trans rfl
        simp [runFn, startE, keepO, keepA, sRet, sRetN, sRetA, sRetNone, sSeq, sIf, sNx, sDrop, sSet, sTg, tN, canSet, sSetN, Md.bind, Md.ret, Md.opt, mVar, mC, mT, m2, m1, mIf, mAndV, mOrV, mNotV, mAndT, mOrT, mNotT, mChain, mCons, mNil, mCall, mCallN, mImm, mOwn, mTup, mLst, mLstN, mItems, mFrz, rs, im, rss, ims, ownD, argOf, argsOf, slotOf, isSlot, cellsBack, backA, mCallA, List.filterMap_cons, List.filterMap_nil, List.findIdx?_cons, List.findIdx?_nil, gl, e2, e3, gm, lim]

theorem bent_loop {S : D} {cell : Int} {cs : List Rw} (h : Coins cs) {p : List Int} {n : Int} {o : Own} (hd : Dk n o) (hn : n ≤ 1000000000) {L : List (Nat × Int)} (hL : FarRow cs (10 ^ 28) L) (hl : L.length ≤ 30) {x7 x8 x9 x10 x11 x12 x13 x14 x15 : Option D} :
    ∃ (B : List (Nat × Int)) (o' : Own) (y7 y8 y9 : Option D), FarRow cs (10 ^ 30) B ∧ B.length ≤ 60 ∧ Dk (n + 6) o' ∧
      l_law_1 [some (.imm S), some (.imm (.int cell)), some (.own false o), some (.imm (csD cs)), some (.imm (psD p)), some (.imm (rowsD cs L)), some (.own false (.lst (L.map (chD cs)))), x7.map .imm, x8.map .imm, x9.map .imm, x10.map .imm, x11.map .imm, x12.map .imm, x13.map .imm, x14.map .imm, x15.map .imm] = .ok .nx [some (.imm S), some (.imm (.int cell)), some (.own false o'), some (.imm (csD cs)), some (.imm (psD p)), some (.imm (rowsD cs L)), some (.own false (.lst (B.map (chD cs)))), y7.map .imm, y8.map .imm, y9.map .imm, x10.map .imm, x11.map .imm, x12.map .imm, x13.map .imm, x14.map .imm, x15.map .imm] := by
  have gl : gLen [rowsD cs L] = some (.int (L.length : Nat)) := by unfold rowsD; rw [gLen_lst, List.length_map]
  obtain ⟨K, hK, hK2⟩ : ∃ K : Nat, gMin2 [.int 2, .int (L.length : Nat)] = some (.int (K : Nat)) ∧ K ≤ 2 ∧ (L = [] → K = 0) := by
    by_cases q : ((L.length : Nat) : Int) < 2
    · refine ⟨L.length, ?_, by omega, fun e => by rw [e]; rfl⟩
      show some (PyData.int (if ((L.length : Nat) : Int) < 2 then (L.length : Nat) else 2)) = _
      rw [if_pos q]
    · refine ⟨2, ?_, by omega, fun e => by rw [e] at q; simp at q⟩
      show some (PyData.int (if ((L.length : Nat) : Int) < 2 then (L.length : Nat) else 2)) = _
      rw [if_neg q]
      rfl
  have lf : l_law_1 [some (.imm S), some (.imm (.int cell)), some (.own false o), some (.imm (csD cs)), some (.imm (psD p)), some (.imm (rowsD cs L)), some (.own false (.lst (L.map (chD cs)))), x7.map .imm, x8.map .imm, x9.map .imm, x10.map .imm, x11.map .imm, x12.map .imm, x13.map .imm, x14.map .imm, x15.map .imm] = forL (tN 7) b_law_1 (rangeD 0 (K : Nat)) [some (.imm S), some (.imm (.int cell)), some (.own false o), some (.imm (csD cs)), some (.imm (psD p)), some (.imm (rowsD cs L)), some (.own false (.lst (L.map (chD cs)))), x7.map .imm, x8.map .imm, x9.map .imm, x10.map .imm, x11.map .imm, x12.map .imm, x13.map .imm, x14.map .imm, x15.map .imm] := by
    refine sFor_eq (range1_eq (os := [.dat (.int (K : Nat))]) ?_ rfl (small62_int (by omega) (by omega)))
    generalize rowsD cs L = RL at gl ⊢
    simp [runFn, startE, keepO, keepA, sRet, sRetN, sRetA, sRetNone, sSeq, sIf, sNx, sDrop, sSet, sTg, tN, canSet, sSetN, Md.bind, Md.ret, Md.opt, mVar, mC, mT, m2, m1, mIf, mAndV, mOrV, mNotV, mAndT, mOrT, mNotT, mChain, mCons, mNil, mCall, mCallN, mImm, mOwn, mTup, mLst, mLstN, mItems, mFrz, rs, im, rss, ims, ownD, argOf, argsOf, slotOf, isSlot, cellsBack, backA, mCallA, List.filterMap_cons, List.filterMap_nil, List.findIdx?_cons, List.findIdx?_nil, gl, hK]
  obtain ⟨ρ', e, B, o', y7, y8, y9, q1, q2, q3, q4⟩ := forL_run (tg := tN 7) (body := b_law_1) (fun i ρ => ∃ (B : List (Nat × Int)) (o' : Own) (y7 y8 y9 : Option D), FarRow cs (10 ^ 30) B ∧ B.length = L.length + i ∧ Dk (n + 3 * i) o' ∧
      ρ = [some (.imm S), some (.imm (.int cell)), some (.own false o'), some (.imm (csD cs)), some (.imm (psD p)), some (.imm (rowsD cs L)), some (.own false (.lst (B.map (chD cs)))), y7.map .imm, y8.map .imm, y9.map .imm, x10.map .imm, x11.map .imm, x12.map .imm, x13.map .imm, x14.map .imm, x15.map .imm])
    (rangeD 0 (K : Nat)) [some (.imm S), some (.imm (.int cell)), some (.own false o), some (.imm (csD cs)), some (.imm (psD p)), some (.imm (rowsD cs L)), some (.own false (.lst (L.map (chD cs)))), x7.map .imm, x8.map .imm, x9.map .imm, x10.map .imm, x11.map .imm, x12.map .imm, x13.map .imm, x14.map .imm, x15.map .imm] ⟨L, o, x7, x8, x9, hL.mono (by omega), rfl, by simpa using hd, rfl⟩
    (fun i d ρ hdr ⟨B, o1, y7, y8, y9, hB, lB, dk, e⟩ => by
      subst e
      rw [range0] at hdr
      obtain ⟨hi, rfl⟩ := range_get hdr
      have hne : L ≠ [] := fun z => by have := hK2.2 z; omega
      obtain ⟨B', o3, z8, z9, hB', lB', dk', eb⟩ := bent_turn (S := S) (cell := cell) h (p := p) dk (by omega) hL (by omega) hne hB (by omega) (x7 := some (.int (0 + (i : Nat)))) (x8 := y8) (x9 := y9) (x10 := x10) (x11 := x11) (x12 := x12) (x13 := x13) (x14 := x14) (x15 := x15)
      refine ⟨_, _, ?_, .inl eb, B', o3, some (.int (0 + (i : Nat))), some z8, some z9, hB', by omega, dk'.mono (by push_cast; omega), rfl⟩
      cases y7 <;> simp [tN, canSet])
  rw [range0, range_len] at q2 q3
  exact ⟨B, o', y7, y8, y9, q1, by omega, q3.mono (by omega), by rw [lf, e, q4]⟩
theorem fees_loop {S : D} {cell : Int} {cs : List Rw} (h : Coins cs) {p : List Int} {n : Int} {o : Own} (hd : Dk n o) (hn : n ≤ 1000000000) {a5 a6 : Option A} {x7 x8 x9 x10 x11 x12 x13 x14 x15 : Option D} :
    ∃ (f : List Int) (o' : Own), Purse cs 99 f ∧ Dk (n + 8) o' ∧
      c_law_1 [some (.imm S), some (.imm (.int cell)), some (.own false o), some (.imm (csD cs)), some (.imm (psD p)), a5, a6, x7.map .imm, x8.map .imm, x9.map .imm, x10.map .imm, x11.map .imm, x12.map .imm, x13.map .imm, x14.map .imm, x15.map .imm] = .ok (.lst (f.map .int)) [some (.imm S), some (.imm (.int cell)), some (.own false o'), some (.imm (csD cs)), some (.imm (psD p)), a5, a6, x7.map .imm, x8.map .imm, x9.map .imm, x10.map .imm, x11.map .imm, x12.map .imm, x13.map .imm, x14.map .imm, x15.map .imm] := by
  have h8 := (coins_len h).2
  obtain ⟨acc, ρ', e, f, o', ea, q1, q2, q3, q4⟩ := lcL_run (vs := [11]) (tg := tN 11) (test := Md.ret true) (elt := x_law_1) (fun i acc ρ => ∃ (f : List Int) (o' : Own), acc = f.map .int ∧ f.length = i ∧ (∀ v ∈ f, 0 ≤ v ∧ v ≤ 99) ∧ Dk (n + i) o' ∧
      ρ = [some (.imm S), some (.imm (.int cell)), some (.own false o'), some (.imm (csD cs)), some (.imm (psD p)), a5, a6, x7.map .imm, x8.map .imm, x9.map .imm, x10.map .imm, none, x12.map .imm, x13.map .imm, x14.map .imm, x15.map .imm])
    (cs.map rwD) 0 [] [some (.imm S), some (.imm (.int cell)), some (.own false o), some (.imm (csD cs)), some (.imm (psD p)), a5, a6, x7.map .imm, x8.map .imm, x9.map .imm, x10.map .imm, none, x12.map .imm, x13.map .imm, x14.map .imm, x15.map .imm] ⟨[], o, rfl, rfl, fun v m => absurd m List.not_mem_nil, by simpa using hd, rfl⟩
    (fun i d acc ρ hdr ⟨f, o1, ea, lf, vf, dk, e⟩ => by
      subst e ea
      have hi := (List.getElem?_eq_some_iff.mp hdr).1
      rw [List.length_map] at hi
      obtain ⟨r, o2, r0, r1, d2, e2⟩ := e_pick dk (by omega) (s := 100) (by decide) (by decide)
      refine ⟨[some (.imm S), some (.imm (.int cell)), some (.own false o1), some (.imm (csD cs)), some (.imm (psD p)), a5, a6, x7.map .imm, x8.map .imm, x9.map .imm, x10.map .imm, some (.imm d), x12.map .imm, x13.map .imm, x14.map .imm, x15.map .imm], [some (.imm S), some (.imm (.int cell)), some (.own false o1), some (.imm (csD cs)), some (.imm (psD p)), a5, a6, x7.map .imm, x8.map .imm, x9.map .imm, x10.map .imm, some (.imm d), x12.map .imm, x13.map .imm, x14.map .imm, x15.map .imm], by simp [tN, canSet], .inr ⟨rfl, .dat (.int r), [some (.imm S), some (.imm (.int cell)), some (.own false o2), some (.imm (csD cs)), some (.imm (psD p)), a5, a6, x7.map .imm, x8.map .imm, x9.map .imm, x10.map .imm, some (.imm d), x12.map .imm, x13.map .imm, x14.map .imm, x15.map .imm], .int r, ?_, rfl, ?_, rfl, f ++ [r], o2, ?_, ?_, fun v m => ?_, d2.mono (by push_cast; omega), rfl⟩⟩
      · simp [x_law_1, runFn, startE, keepO, keepA, sRet, sRetN, sRetA, sRetNone, sSeq, sIf, sNx, sDrop, sSet, sTg, tN, canSet, sSetN, Md.bind, Md.ret, Md.opt, mVar, mC, mT, m2, m1, mIf, mAndV, mOrV, mNotV, mAndT, mOrT, mNotT, mChain, mCons, mNil, mCall, mCallN, mImm, mOwn, mTup, mLst, mLstN, mItems, mFrz, rs, im, rss, ims, ownD, argOf, argsOf, slotOf, isSlot, cellsBack, backA, mCallA, List.filterMap_cons, List.filterMap_nil, List.findIdx?_cons, List.findIdx?_nil, e2]
      · rw [List.length_map]
        have : (1000 : Nat) < lim := by decide
        omega
      · rw [List.map_append]
        rfl
      · rw [List.length_append, List.length_singleton]
        omega
      · rcases List.mem_append.mp m with m | m
        · exact vf v m
        · rw [List.mem_singleton.mp m]
          omega)
  rw [List.length_map] at q1 q3
  refine ⟨f, o', ⟨by omega, fun v m => (q2 v m).1, fun v m => (q2 v m).2⟩, q3.mono (by omega), ?_⟩
  refine (mLc_eq (ds := cs.map rwD) (ρ1 := [some (.imm S), some (.imm (.int cell)), some (.own false o), some (.imm (csD cs)), some (.imm (psD p)), a5, a6, x7.map .imm, x8.map .imm, x9.map .imm, x10.map .imm, x11.map .imm, x12.map .imm, x13.map .imm, x14.map .imm, x15.map .imm]) (ρ2 := ρ') (acc := acc) ?_ ?_ e).trans ?_
  · simp [mSeq, runFn, startE, keepO, keepA, sRet, sRetN, sRetA, sRetNone, sSeq, sIf, sNx, sDrop, sSet, sTg, tN, canSet, sSetN, Md.bind, Md.ret, Md.opt, mVar, mC, mT, m2, m1, mIf, mAndV, mOrV, mNotV, mAndT, mOrT, mNotT, mChain, mCons, mNil, mCall, mCallN, mImm, mOwn, mTup, mLst, mLstN, mItems, mFrz, rs, im, rss, ims, ownD, argOf, argsOf, slotOf, isSlot, cellsBack, backA, mCallA, List.filterMap_cons, List.filterMap_nil, List.findIdx?_cons, List.findIdx?_nil, csD, items]
  · cases x11 <;> rfl
  · rw [ea, q4]
    cases x11 <;> rfl
end DV

set_option Elab.async false
set_option linter.all false
set_option maxRecDepth 100000
set_option maxHeartbeats 4000000
set_option autoImplicit false
/-! MxN02: the law of rows, all of it. -/
namespace DV
open PySem L2
theorem FarRow.take {cs : List Rw} {f : Int} {L : List (Nat × Int)} (h : FarRow cs f L) (k : Nat) : FarRow cs f (L.take k) := fun c m => h c (List.mem_of_mem_take m)
theorem FarRow.rev {cs : List Rw} {f : Int} {L : List (Nat × Int)} (h : FarRow cs f L) : FarRow cs f (L.reverse.map negC) := fun c m => by
  obtain ⟨x, mx, rfl⟩ := List.mem_map.mp m
  obtain ⟨⟨r, a, hc⟩, t0, t1, t2⟩ := h x (List.mem_reverse.mp mx)
  refine ⟨⟨r, a, chg_neg hc⟩, ?_, ?_, ?_⟩
  · show -x.2 ≠ 0
    omega
  · show -f ≤ -x.2
    omega
  · show -x.2 ≤ f
    omega
theorem maxL_of {p : List Int} (h : p ≠ []) : ∃ m, maxL p = some m ∧ m ∈ p ∧ ∀ x ∈ p, x ≤ m := by
  cases p with
  | nil => exact absurd rfl h
  | cons x r =>
    refine ⟨_, rfl, ?_⟩
    exact maxL_spec (ns := x :: r) rfl
theorem gMax_ps {q : List Int} {m : Int} (h : maxL q = some m) : gMax [psD q] = some (.int m) := by
  show (do let ns ← intsD (q.map .int); let m ← maxL ns; pure (PyData.int m) : Option D) = _
  rw [intsD_map]
  simp [h]

theorem four_rows {S : D} {cell : Int} {cs : List Rw} (h : Coins cs) {p f : List Int} (hp : Purse cs (10 ^ 30) p) (hf : Purse cs 99 f) {o6 : Own} {L B : List (Nat × Int)} (hL : FarRow cs (10 ^ 30) L) (hl : L.length ≤ 60) (hB : FarRow cs (10 ^ 30) B) (hb : B.length ≤ 60) {x10 x11 x12 x13 x14 x15 y7 y8 y9 : Option D} :
    ∃ y12 y13 : D, l_law_2 [some (.imm S), some (.imm (.int cell)), some (.own false o6), some (.imm (csD cs)), some (.imm (psD p)), some (.imm (rowsD cs L)), some (.own false (.lst (B.map (chD cs)))), y7.map .imm, y8.map .imm, y9.map .imm, some (.imm (psD f)), x11.map .imm, x12.map .imm, x13.map .imm, x14.map .imm, x15.map .imm] = .ok .nx [some (.imm S), some (.imm (.int cell)), some (.own false o6), some (.imm (csD cs)), some (.imm (psD p)), some (.imm (rowsD cs L)), some (.imm (rowsD cs B)), y7.map .imm, y8.map .imm, y9.map .imm, some (.imm (psD f)), x11.map .imm, some (.imm y12), some (.imm y13), x14.map .imm, x15.map .imm] := by
  have L5 : cutG (L.map (chD cs)) none (some 5) = (L.take 5).map (chD cs) := by
    have := cut_to (L.map (chD cs)) 5
    rw [List.map_take]
    exact this
  have s5 : gSl (rowsD cs L) none (some 5) = some (rowsD cs (L.take 5)) := by
    show some (PyData.list (cutG (L.map (chD cs)) none (some 5))) = _
    rw [L5]
    rfl
  have it : (mSeq (mLst (mCons (mVar 5) (mCons (mFrzV 6) (mCons (mSl (mVar 5) (Md.ret none) (mPart (mC (.int 5)))) (mCons (mLst mNil) mNil)))))) [some (.imm S), some (.imm (.int cell)), some (.own false o6), some (.imm (csD cs)), some (.imm (psD p)), some (.imm (rowsD cs L)), some (.own false (.lst (B.map (chD cs)))), y7.map .imm, y8.map .imm, y9.map .imm, some (.imm (psD f)), x11.map .imm, x12.map .imm, x13.map .imm, x14.map .imm, x15.map .imm] =
      .ok [rowsD cs L, rowsD cs B, rowsD cs (L.take 5), rowsD cs []] [some (.imm S), some (.imm (.int cell)), some (.own false o6), some (.imm (csD cs)), some (.imm (psD p)), some (.imm (rowsD cs L)), some (.imm (rowsD cs B)), y7.map .imm, y8.map .imm, y9.map .imm, some (.imm (psD f)), x11.map .imm, x12.map .imm, x13.map .imm, x14.map .imm, x15.map .imm] := by
    have rb : rowsD cs B = .list (B.map (chD cs)) := rfl
    have r0 : rowsD cs [] = .list [] := rfl
    rw [rb, r0]
    generalize rowsD cs L = RL at s5 ⊢
    generalize rowsD cs (L.take 5) = R5 at s5 ⊢
    simp [mSeq, mFrzV, mSl, mPart, runFn, startE, keepO, keepA, sRet, sRetN, sRetA, sRetNone, sSeq, sIf, sNx, sDrop, sSet, sTg, tN, canSet, sSetN, Md.bind, Md.ret, Md.opt, mVar, mC, mT, m2, m1, mIf, mAndV, mOrV, mNotV, mAndT, mOrT, mNotT, mChain, mCons, mNil, mCall, mCallN, mImm, mOwn, mTup, mLst, mLstN, mItems, mFrz, rs, im, rss, ims, ownD, argOf, argsOf, slotOf, isSlot, cellsBack, backA, mCallA, List.filterMap_cons, List.filterMap_nil, List.findIdx?_cons, List.findIdx?_nil, s5, lim, items]
  obtain ⟨z1, b1⟩ := asked h hp hf hL hl (a0 := some (.imm S)) (a1 := some (.imm (.int cell))) (a2 := some (.own false o6)) (a5 := some (.imm (rowsD cs L))) (a6 := some (.imm (rowsD cs B))) (a7 := y7.map .imm) (a11 := x11.map .imm) (a14 := x14.map .imm) (a15 := x15.map .imm) (x8 := y8) (x9 := y9) (x13 := x13)
  obtain ⟨z2, b2⟩ := asked h hp hf hB hb (a0 := some (.imm S)) (a1 := some (.imm (.int cell))) (a2 := some (.own false o6)) (a5 := some (.imm (rowsD cs L))) (a6 := some (.imm (rowsD cs B))) (a7 := y7.map .imm) (a11 := x11.map .imm) (a14 := x14.map .imm) (a15 := x15.map .imm) (x8 := y8) (x9 := y9) (x13 := some z1)
  obtain ⟨z3, b3⟩ := asked h hp hf (hL.take 5) (by rw [List.length_take]; omega) (a0 := some (.imm S)) (a1 := some (.imm (.int cell))) (a2 := some (.own false o6)) (a5 := some (.imm (rowsD cs L))) (a6 := some (.imm (rowsD cs B))) (a7 := y7.map .imm) (a11 := x11.map .imm) (a14 := x14.map .imm) (a15 := x15.map .imm) (x8 := y8) (x9 := y9) (x13 := some z2)
  obtain ⟨z4, b4⟩ := asked h hp hf (R := []) (fun c m => absurd m List.not_mem_nil) (by simp) (a0 := some (.imm S)) (a1 := some (.imm (.int cell))) (a2 := some (.own false o6)) (a5 := some (.imm (rowsD cs L))) (a6 := some (.imm (rowsD cs B))) (a7 := y7.map .imm) (a11 := x11.map .imm) (a14 := x14.map .imm) (a15 := x15.map .imm) (x8 := y8) (x9 := y9) (x13 := some z3)
  have t12 : ∀ (d : D) (w z : Option D), tN 12 d [some (.imm S), some (.imm (.int cell)), some (.own false o6), some (.imm (csD cs)), some (.imm (psD p)), some (.imm (rowsD cs L)), some (.imm (rowsD cs B)), y7.map .imm, y8.map .imm, y9.map .imm, some (.imm (psD f)), x11.map .imm, w.map .imm, z.map .imm, x14.map .imm, x15.map .imm] = some [some (.imm S), some (.imm (.int cell)), some (.own false o6), some (.imm (csD cs)), some (.imm (psD p)), some (.imm (rowsD cs L)), some (.imm (rowsD cs B)), y7.map .imm, y8.map .imm, y9.map .imm, some (.imm (psD f)), x11.map .imm, some (.imm d), z.map .imm, x14.map .imm, x15.map .imm] := fun d w z => by
    cases w <;> simp [tN, canSet]
  have k1 := t12 (rowsD cs L) x12 x13
  have k2 := t12 (rowsD cs B) (some (rowsD cs L)) (some z1)
  have k3 := t12 (rowsD cs (L.take 5)) (some (rowsD cs B)) (some z2)
  have k4 := t12 (rowsD cs []) (some (rowsD cs (L.take 5))) (some z3)
  refine ⟨rowsD cs [], z4, (sFor_eq it).trans ?_⟩
  simp only [Option.map_some] at b1 b2 b3 b4 k1 k2 k3 k4
  simp only [forL, k1, b1, k2, b2, k3, b3, k4, b4]

theorem cell_turn (S : D) (cell : Int) (d2 : Option Own) (x3 x4 x5 x6 x7 x8 x9 x10 x11 x12 x13 x14 x15 : Option D) : ∃ (o : Own) (z3 z4 z5 z6 z7 z8 z9 z10 z11 z12 z13 z14 z15 : Option D), b_law_3 [some (.imm S), some (.imm (.int cell)), d2.map (.own false), x3.map .imm, x4.map .imm, x5.map .imm, x6.map .imm, x7.map .imm, x8.map .imm, x9.map .imm, x10.map .imm, x11.map .imm, x12.map .imm, x13.map .imm, x14.map .imm, x15.map .imm] = .ok .nx [some (.imm S), some (.imm (.int cell)), some (.own false o), z3.map .imm, z4.map .imm, z5.map .imm, z6.map .imm, z7.map .imm, z8.map .imm, z9.map .imm, z10.map .imm, z11.map .imm, z12.map .imm, z13.map .imm, z14.map .imm, z15.map .imm] := by
  obtain ⟨o0, d0, e0⟩ := e_deck cell 2 (by decide)
  obtain ⟨cs, o1, h, h8, d1, e1⟩ := e_coins d0 (by decide) (m := 8) (by decide) (by decide)
  obtain ⟨k2, m2, o2, hk2, d2', e2⟩ := e_one (ds := [.int 9, .int 99, .int (10 ^ 30)]) d1 (by decide) (by simp) (by simp)
  obtain ⟨hi, rfl, hi0, hi1⟩ : ∃ v : Int, m2 = .int v ∧ 9 ≤ v ∧ v ≤ 10 ^ 30 := by
    match k2, hk2 with
    | 0, hk => cases hk; exact ⟨9, rfl, by omega, by omega⟩
    | 1, hk => cases hk; exact ⟨99, rfl, by omega, by omega⟩
    | 2, hk => cases hk; exact ⟨10 ^ 30, rfl, by omega, by omega⟩
    | k + 3, hk => simp at hk
  obtain ⟨p, o3, hp, d3, e3⟩ := e_purse h d2' (by decide) (h := hi) (by omega) (by omega)
  have hp : Purse cs (10 ^ 30) p := ⟨hp.len, hp.low, fun x m => by have := hp.high x m; omega⟩
  obtain ⟨k4, m4, o4, hk4, d4, e4⟩ := e_one (ds := [.int 1, .int 4, .int (10 ^ 28)]) d3 (by decide) (by simp) (by simp)
  obtain ⟨far, rfl, f0, f1⟩ : ∃ v : Int, m4 = .int v ∧ 1 ≤ v ∧ v ≤ 10 ^ 28 := by
    match k4, hk4 with
    | 0, hk => cases hk; exact ⟨1, rfl, by omega, by omega⟩
    | 1, hk => cases hk; exact ⟨4, rfl, by omega, by omega⟩
    | 2, hk => cases hk; exact ⟨10 ^ 28, rfl, by omega, by omega⟩
    | k + 3, hk => simp at hk
  obtain ⟨L, q, o5, hL, lL, hq, d5, e5⟩ := e_row h d4 (by decide) hp.len hp.low (am := 30) (far := far) (by decide) (by decide) f0 (by omega)
  have hL28 : FarRow cs (10 ^ 28) L := hL.mono f1
  have hL30 : FarRow cs (10 ^ 30) L := hL.mono (by omega)
  obtain ⟨B, o6, y7, y8, y9, hB, lB, d6, e6⟩ := bent_loop (S := S) (cell := cell) h (p := p) d5 (by decide) hL28 (by omega) (x7 := x7) (x8 := x8) (x9 := x9) (x10 := x10) (x11 := x11) (x12 := x12) (x13 := x13) (x14 := x14) (x15 := x15)
  obtain ⟨f, o7, hf, d7, e7⟩ := fees_loop (S := S) (cell := cell) h (p := p) d6 (by decide) (a5 := some (.imm (rowsD cs L))) (a6 := some (.own false (.lst (B.map (chD cs))))) (x7 := y7) (x8 := y8) (x9 := y9) (x10 := x10) (x11 := x11) (x12 := x12) (x13 := x13) (x14 := x14) (x15 := x15)
  obtain ⟨y12, y13, e8⟩ := four_rows (S := S) (cell := cell) h hp hf (o6 := o7) hL30 (by omega) hB lB (x10 := x10) (x11 := x11) (x12 := x12) (x13 := x13) (x14 := x14) (x15 := x15) (y7 := y7) (y8 := y8) (y9 := y9)
  have fitL := hL30.fit (by omega)
  have okp : OkP cs (some p) := fun z e => by cases e; exact ⟨hp.len, hp.low⟩
  have e9 := e_ldone h fitL.ok okp
  rw [hq] at e9
  have e9 : m__law_done [.imm (csD cs), .imm (psD p), .imm (rowsD cs L)] = .ok (.imm (psD q)) [none, none, none, none, none] := e9
  obtain ⟨ql, q0⟩ := doneO_ok L _ okp q hq
  have qne : q ≠ [] := fun e => by rw [e] at ql; have := (coins_len h).1; simp at ql; omega
  obtain ⟨mx, hmx, mxm, mxh⟩ := maxL_of qne
  have gmx := gMax_ps hmx
  have bk := undo_row h L p q hp.len hp.low (fun c m => (hL c m).1) hq
  refine ⟨o7, some (csD cs), some (psD p), some (rowsD cs L), some (rowsD cs B), y7, y8, y9, some (psD f), x11, some y12, some y13, some (psD q), some (rowsD cs (L.reverse.map negC)), ?_⟩
  unfold b_law_3
  refine seq_nx [some (.imm S), some (.imm (.int cell)), some (.own false o0), x3.map .imm, x4.map .imm, x5.map .imm, x6.map .imm, x7.map .imm, x8.map .imm, x9.map .imm, x10.map .imm, x11.map .imm, x12.map .imm, x13.map .imm, x14.map .imm, x15.map .imm] ?_ ?_
  · exact (setN_eq (ρ' := [some (.imm S), some (.imm (.int cell)), d2.map (.own false), x3.map .imm, x4.map .imm, x5.map .imm, x6.map .imm, x7.map .imm, x8.map .imm, x9.map .imm, x10.map .imm, x11.map .imm, x12.map .imm, x13.map .imm, x14.map .imm, x15.map .imm]) (o := o0) (by simp [runFn, startE, keepO, keepA, sRet, sRetN, sRetA, sRetNone, sSeq, sIf, sNx, sDrop, sSet, sTg, tN, canSet, sSetN, Md.bind, Md.ret, Md.opt, mVar, mC, mT, m2, m1, mIf, mAndV, mOrV, mNotV, mAndT, mOrT, mNotT, mChain, mCons, mNil, mCall, mCallN, mImm, mOwn, mTup, mLst, mLstN, mItems, mFrz, rs, im, rss, ims, ownD, argOf, argsOf, slotOf, isSlot, cellsBack, backA, mCallA, List.filterMap_cons, List.filterMap_nil, List.findIdx?_cons, List.findIdx?_nil, e0]) (by cases d2 <;> rfl)).trans rfl
  refine seq_nx [some (.imm S), some (.imm (.int cell)), some (.own false o1), some (.imm (csD cs)), x4.map .imm, x5.map .imm, x6.map .imm, x7.map .imm, x8.map .imm, x9.map .imm, x10.map .imm, x11.map .imm, x12.map .imm, x13.map .imm, x14.map .imm, x15.map .imm] ?_ ?_
  · exact (set_eq (ρ' := [some (.imm S), some (.imm (.int cell)), some (.own false o1), x3.map .imm, x4.map .imm, x5.map .imm, x6.map .imm, x7.map .imm, x8.map .imm, x9.map .imm, x10.map .imm, x11.map .imm, x12.map .imm, x13.map .imm, x14.map .imm, x15.map .imm]) (o := .dat (csD cs)) (d := csD cs) (by simp [runFn, startE, keepO, keepA, sRet, sRetN, sRetA, sRetNone, sSeq, sIf, sNx, sDrop, sSet, sTg, tN, canSet, sSetN, Md.bind, Md.ret, Md.opt, mVar, mC, mT, m2, m1, mIf, mAndV, mOrV, mNotV, mAndT, mOrT, mNotT, mChain, mCons, mNil, mCall, mCallN, mImm, mOwn, mTup, mLst, mLstN, mItems, mFrz, rs, im, rss, ims, ownD, argOf, argsOf, slotOf, isSlot, cellsBack, backA, mCallA, List.filterMap_cons, List.filterMap_nil, List.findIdx?_cons, List.findIdx?_nil, e1]) rfl (by cases x3 <;> rfl)).trans rfl
  refine seq_nx [some (.imm S), some (.imm (.int cell)), some (.own false o3), some (.imm (csD cs)), some (.imm (psD p)), x5.map .imm, x6.map .imm, x7.map .imm, x8.map .imm, x9.map .imm, x10.map .imm, x11.map .imm, x12.map .imm, x13.map .imm, x14.map .imm, x15.map .imm] ?_ ?_
  · have p30 := pow30
    generalize (10 ^ 30 : Int) = T at p30 e2
    generalize csD cs = CD at e3 ⊢
    exact (set_eq (ρ' := [some (.imm S), some (.imm (.int cell)), some (.own false o3), some (.imm CD), x4.map .imm, x5.map .imm, x6.map .imm, x7.map .imm, x8.map .imm, x9.map .imm, x10.map .imm, x11.map .imm, x12.map .imm, x13.map .imm, x14.map .imm, x15.map .imm]) (o := .dat (psD p)) (d := psD p) (by simp [runFn, startE, keepO, keepA, sRet, sRetN, sRetA, sRetNone, sSeq, sIf, sNx, sDrop, sSet, sTg, tN, canSet, sSetN, Md.bind, Md.ret, Md.opt, mVar, mC, mT, m2, m1, mIf, mAndV, mOrV, mNotV, mAndT, mOrT, mNotT, mChain, mCons, mNil, mCall, mCallN, mImm, mOwn, mTup, mLst, mLstN, mItems, mFrz, rs, im, rss, ims, ownD, argOf, argsOf, slotOf, isSlot, cellsBack, backA, mCallA, List.filterMap_cons, List.filterMap_nil, List.findIdx?_cons, List.findIdx?_nil, e2, e3, p30, lim]) rfl (by cases x4 <;> rfl)).trans rfl
  refine seq_nx [some (.imm S), some (.imm (.int cell)), some (.own false o5), some (.imm (csD cs)), some (.imm (psD p)), some (.imm (rowsD cs L)), x6.map .imm, x7.map .imm, x8.map .imm, x9.map .imm, x10.map .imm, x11.map .imm, x12.map .imm, x13.map .imm, x14.map .imm, x15.map .imm] ?_ ?_
  · have p28 := pow28
    generalize (10 ^ 28 : Int) = T at p28 e4
    generalize hCD : csD cs = CD at e5 ⊢
    generalize psD p = PD at e5 ⊢
    exact (set_eq (ρ' := [some (.imm S), some (.imm (.int cell)), some (.own false o5), some (.imm CD), some (.imm PD), x5.map .imm, x6.map .imm, x7.map .imm, x8.map .imm, x9.map .imm, x10.map .imm, x11.map .imm, x12.map .imm, x13.map .imm, x14.map .imm, x15.map .imm]) (o := .dat (rowsD cs L)) (d := rowsD cs L) (by simp [runFn, startE, keepO, keepA, sRet, sRetN, sRetA, sRetNone, sSeq, sIf, sNx, sDrop, sSet, sTg, tN, canSet, sSetN, Md.bind, Md.ret, Md.opt, mVar, mC, mT, m2, m1, mIf, mAndV, mOrV, mNotV, mAndT, mOrT, mNotT, mChain, mCons, mNil, mCall, mCallN, mImm, mOwn, mTup, mLst, mLstN, mItems, mFrz, rs, im, rss, ims, ownD, argOf, argsOf, slotOf, isSlot, cellsBack, backA, mCallA, List.filterMap_cons, List.filterMap_nil, List.findIdx?_cons, List.findIdx?_nil, e4, e5, p28, lim, rowsD]) rfl (by cases x5 <;> rfl)).trans rfl
  refine seq_nx [some (.imm S), some (.imm (.int cell)), some (.own false o5), some (.imm (csD cs)), some (.imm (psD p)), some (.imm (rowsD cs L)), some (.own false (.lst (L.map (chD cs)))), x7.map .imm, x8.map .imm, x9.map .imm, x10.map .imm, x11.map .imm, x12.map .imm, x13.map .imm, x14.map .imm, x15.map .imm] ?_ ?_
  · exact (setN_eq (ρ' := [some (.imm S), some (.imm (.int cell)), some (.own false o5), some (.imm (csD cs)), some (.imm (psD p)), some (.imm (rowsD cs L)), x6.map .imm, x7.map .imm, x8.map .imm, x9.map .imm, x10.map .imm, x11.map .imm, x12.map .imm, x13.map .imm, x14.map .imm, x15.map .imm]) (o := .lst (L.map (chD cs))) (by simp [runFn, startE, keepO, keepA, sRet, sRetN, sRetA, sRetNone, sSeq, sIf, sNx, sDrop, sSet, sTg, tN, canSet, sSetN, Md.bind, Md.ret, Md.opt, mVar, mC, mT, m2, m1, mIf, mAndV, mOrV, mNotV, mAndT, mOrT, mNotT, mChain, mCons, mNil, mCall, mCallN, mImm, mOwn, mTup, mLst, mLstN, mItems, mFrz, rs, im, rss, ims, ownD, argOf, argsOf, slotOf, isSlot, cellsBack, backA, mCallA, List.filterMap_cons, List.filterMap_nil, List.findIdx?_cons, List.findIdx?_nil, gList, rowsD]) (by cases x6 <;> rfl)).trans rfl
  refine seq_nx [some (.imm S), some (.imm (.int cell)), some (.own false o6), some (.imm (csD cs)), some (.imm (psD p)), some (.imm (rowsD cs L)), some (.own false (.lst (B.map (chD cs)))), y7.map .imm, y8.map .imm, y9.map .imm, x10.map .imm, x11.map .imm, x12.map .imm, x13.map .imm, x14.map .imm, x15.map .imm] e6 ?_
  refine seq_nx [some (.imm S), some (.imm (.int cell)), some (.own false o7), some (.imm (csD cs)), some (.imm (psD p)), some (.imm (rowsD cs L)), some (.own false (.lst (B.map (chD cs)))), y7.map .imm, y8.map .imm, y9.map .imm, some (.imm (psD f)), x11.map .imm, x12.map .imm, x13.map .imm, x14.map .imm, x15.map .imm] ?_ ?_
  · exact (set_eq (ρ' := [some (.imm S), some (.imm (.int cell)), some (.own false o7), some (.imm (csD cs)), some (.imm (psD p)), some (.imm (rowsD cs L)), some (.own false (.lst (B.map (chD cs)))), y7.map .imm, y8.map .imm, y9.map .imm, x10.map .imm, x11.map .imm, x12.map .imm, x13.map .imm, x14.map .imm, x15.map .imm]) (o := .dat (psD f)) (d := psD f) (by have gt : gTuple [.list (f.map .int)] = some (psD f) := rfl; simp [runFn, startE, keepO, keepA, sRet, sRetN, sRetA, sRetNone, sSeq, sIf, sNx, sDrop, sSet, sTg, tN, canSet, sSetN, Md.bind, Md.ret, Md.opt, mVar, mC, mT, m2, m1, mIf, mAndV, mOrV, mNotV, mAndT, mOrT, mNotT, mChain, mCons, mNil, mCall, mCallN, mImm, mOwn, mTup, mLst, mLstN, mItems, mFrz, rs, im, rss, ims, ownD, argOf, argsOf, slotOf, isSlot, cellsBack, backA, mCallA, List.filterMap_cons, List.filterMap_nil, List.findIdx?_cons, List.findIdx?_nil, e7, gt]) rfl (by cases x10 <;> rfl)).trans rfl
  refine seq_nx [some (.imm S), some (.imm (.int cell)), some (.own false o7), some (.imm (csD cs)), some (.imm (psD p)), some (.imm (rowsD cs L)), some (.imm (rowsD cs B)), y7.map .imm, y8.map .imm, y9.map .imm, some (.imm (psD f)), x11.map .imm, some (.imm y12), some (.imm y13), x14.map .imm, x15.map .imm] e8 ?_
  refine seq_nx [some (.imm S), some (.imm (.int cell)), some (.own false o7), some (.imm (csD cs)), some (.imm (psD p)), some (.imm (rowsD cs L)), some (.imm (rowsD cs B)), y7.map .imm, y8.map .imm, y9.map .imm, some (.imm (psD f)), x11.map .imm, some (.imm y12), some (.imm y13), some (.imm (psD q)), x15.map .imm] ?_ ?_
  · generalize rowsD cs L = RL at e9 ⊢
    generalize csD cs = CD at e9 ⊢
    generalize psD p = PD at e9 ⊢
    generalize psD q = QD at e9 ⊢
    exact (set_eq (ρ' := [some (.imm S), some (.imm (.int cell)), some (.own false o7), some (.imm CD), some (.imm PD), some (.imm RL), some (.imm (rowsD cs B)), y7.map .imm, y8.map .imm, y9.map .imm, some (.imm (psD f)), x11.map .imm, some (.imm y12), some (.imm y13), x14.map .imm, x15.map .imm]) (o := .dat QD) (d := QD) (by simp [runFn, startE, keepO, keepA, sRet, sRetN, sRetA, sRetNone, sSeq, sIf, sNx, sDrop, sSet, sTg, tN, canSet, sSetN, Md.bind, Md.ret, Md.opt, mVar, mC, mT, m2, m1, mIf, mAndV, mOrV, mNotV, mAndT, mOrT, mNotT, mChain, mCons, mNil, mCall, mCallN, mImm, mOwn, mTup, mLst, mLstN, mItems, mFrz, rs, im, rss, ims, ownD, argOf, argsOf, slotOf, isSlot, cellsBack, backA, mCallA, List.filterMap_cons, List.filterMap_nil, List.findIdx?_cons, List.findIdx?_nil, e9]) rfl (by cases x14 <;> rfl)).trans rfl
  refine seq_nx [some (.imm S), some (.imm (.int cell)), some (.own false o7), some (.imm (csD cs)), some (.imm (psD p)), some (.imm (rowsD cs L)), some (.imm (rowsD cs B)), y7.map .imm, y8.map .imm, y9.map .imm, some (.imm (psD f)), x11.map .imm, some (.imm y12), some (.imm y13), some (.imm (psD q)), some (.imm (rowsD cs (L.reverse.map negC)))] ?_ ?_
  · have it : mSeq (mRev (mVar 5)) [some (.imm S), some (.imm (.int cell)), some (.own false o7), some (.imm (csD cs)), some (.imm (psD p)), some (.imm (rowsD cs L)), some (.imm (rowsD cs B)), y7.map .imm, y8.map .imm, y9.map .imm, some (.imm (psD f)), x11.map .imm, some (.imm y12), some (.imm y13), some (.imm (psD q)), x15.map .imm] = .ok (L.reverse.map (chD cs)) [some (.imm S), some (.imm (.int cell)), some (.own false o7), some (.imm (csD cs)), some (.imm (psD p)), some (.imm (rowsD cs L)), some (.imm (rowsD cs B)), y7.map .imm, y8.map .imm, y9.map .imm, some (.imm (psD f)), x11.map .imm, some (.imm y12), some (.imm y13), some (.imm (psD q)), x15.map .imm] := by
      have : (L.map (chD cs)).reverse = L.reverse.map (chD cs) := List.map_reverse.symm
      rw [← this]
      simp [mSeq, mRev, runFn, startE, keepO, keepA, sRet, sRetN, sRetA, sRetNone, sSeq, sIf, sNx, sDrop, sSet, sTg, tN, canSet, sSetN, Md.bind, Md.ret, Md.opt, mVar, mC, mT, m2, m1, mIf, mAndV, mOrV, mNotV, mAndT, mOrT, mNotT, mChain, mCons, mNil, mCall, mCallN, mImm, mOwn, mTup, mLst, mLstN, mItems, mFrz, rs, im, rss, ims, ownD, argOf, argsOf, slotOf, isSlot, cellsBack, backA, mCallA, List.filterMap_cons, List.filterMap_nil, List.findIdx?_cons, List.findIdx?_nil, rowsD, items]
    have ee := lcL_of (vs := [8, 9]) (tg := tTupT 2 (tsCons (tN 8) (tsCons (tN 9) tsNil))) (elt := x_law_4) (chD cs) (fun c => chD cs (negC c)) [some (.imm S), some (.imm (.int cell)), some (.own false o7), some (.imm (csD cs)), some (.imm (psD p)), some (.imm (rowsD cs L)), some (.imm (rowsD cs B)), y7.map .imm, none, none, some (.imm (psD f)), x11.map .imm, some (.imm y12), some (.imm y13), some (.imm (psD q)), x15.map .imm] L.reverse (by rw [List.length_reverse]; exact Nat.le_trans (show L.length ≤ 1000 by omega) (by decide)) (fun c m => by
      obtain ⟨i, t⟩ := c
      obtain ⟨⟨r, a, hc⟩, _⟩ := hL _ (List.mem_reverse.mp m)
      have hi2 : cs[i]? = some r := hc.at_
      rw [chD_at hi2]
      have en : chD cs (negC (i, t)) = .tuple [.str r.nm, .int (-t)] := chD_at hi2
      rw [en]
      refine ⟨[some (.imm S), some (.imm (.int cell)), some (.own false o7), some (.imm (csD cs)), some (.imm (psD p)), some (.imm (rowsD cs L)), some (.imm (rowsD cs B)), y7.map .imm, some (.imm (.str r.nm)), some (.imm (.int t)), some (.imm (psD f)), x11.map .imm, some (.imm y12), some (.imm y13), some (.imm (psD q)), x15.map .imm], by simp [tTupT, tsCons, tsNil, tN, canSet], .dat (.tuple [.str r.nm, .int (-t)]), [some (.imm S), some (.imm (.int cell)), some (.own false o7), some (.imm (csD cs)), some (.imm (psD p)), some (.imm (rowsD cs L)), some (.imm (rowsD cs B)), y7.map .imm, some (.imm (.str r.nm)), some (.imm (.int t)), some (.imm (psD f)), x11.map .imm, some (.imm y12), some (.imm y13), some (.imm (psD q)), x15.map .imm], ?_, rfl, rfl, rfl⟩
      simp [x_law_4, runFn, startE, keepO, keepA, sRet, sRetN, sRetA, sRetNone, sSeq, sIf, sNx, sDrop, sSet, sTg, tN, canSet, sSetN, Md.bind, Md.ret, Md.opt, mVar, mC, mT, m2, m1, mIf, mAndV, mOrV, mNotV, mAndT, mOrT, mNotT, mChain, mCons, mNil, mCall, mCallN, mImm, mOwn, mTup, mLst, mLstN, mItems, mFrz, rs, im, rss, ims, ownD, argOf, argsOf, slotOf, isSlot, cellsBack, backA, mCallA, List.filterMap_cons, List.filterMap_nil, List.findIdx?_cons, List.findIdx?_nil, gSub_int, lim])
    have cc : c_law_4 [some (.imm S), some (.imm (.int cell)), some (.own false o7), some (.imm (csD cs)), some (.imm (psD p)), some (.imm (rowsD cs L)), some (.imm (rowsD cs B)), y7.map .imm, y8.map .imm, y9.map .imm, some (.imm (psD f)), x11.map .imm, some (.imm y12), some (.imm y13), some (.imm (psD q)), x15.map .imm] = .ok (.lst ((L.reverse.map negC).map (chD cs))) [some (.imm S), some (.imm (.int cell)), some (.own false o7), some (.imm (csD cs)), some (.imm (psD p)), some (.imm (rowsD cs L)), some (.imm (rowsD cs B)), y7.map .imm, y8.map .imm, y9.map .imm, some (.imm (psD f)), x11.map .imm, some (.imm y12), some (.imm y13), some (.imm (psD q)), x15.map .imm] := by
      rw [List.map_map]
      refine (mLc_eq it (by cases y8 <;> cases y9 <;> rfl) ee).trans ?_
      cases y8 <;> cases y9 <;> rfl
    exact (set_eq (ρ' := [some (.imm S), some (.imm (.int cell)), some (.own false o7), some (.imm (csD cs)), some (.imm (psD p)), some (.imm (rowsD cs L)), some (.imm (rowsD cs B)), y7.map .imm, y8.map .imm, y9.map .imm, some (.imm (psD f)), x11.map .imm, some (.imm y12), some (.imm y13), some (.imm (psD q)), x15.map .imm]) (o := .dat (.list ((L.reverse.map negC).map (chD cs)))) (d := .list ((L.reverse.map negC).map (chD cs))) (by generalize (L.reverse.map negC).map (chD cs) = M at cc; simp [runFn, startE, keepO, keepA, sRet, sRetN, sRetA, sRetNone, sSeq, sIf, sNx, sDrop, sSet, sTg, tN, canSet, sSetN, Md.bind, Md.ret, Md.opt, mVar, mC, mT, m2, m1, mIf, mAndV, mOrV, mNotV, mAndT, mOrT, mNotT, mChain, mCons, mNil, mCall, mCallN, mImm, mOwn, mTup, mLst, mLstN, mItems, mFrz, rs, im, rss, ims, ownD, argOf, argsOf, slotOf, isSlot, cellsBack, backA, mCallA, List.filterMap_cons, List.filterMap_nil, List.findIdx?_cons, List.findIdx?_nil, cc]) rfl (by cases x15 <;> rfl)).trans rfl
  have nq : isNone (psD q) = false := rfl
  have p30 := pow30
  have key : sIf (mAndT (mT (m2 gNotN (mVar 14) (mC .none))) (mAndT (mT (m2 gLe (mCall gMax (mCons (mVar 14) mNil)) (m2 gPow (mC (.int 10)) (mC (.int 30))))) (mT (m2 gNe (mImm (mCallA 3 m_behind (mCons (mVar 3) (mCons (mVar 14) (mCons (mVar 15) mNil))))) (mVar 4))))) (sRet (mC (.bool false))) sNx [some (.imm S), some (.imm (.int cell)), some (.own false o7), some (.imm (csD cs)), some (.imm (psD p)), some (.imm (rowsD cs L)), some (.imm (rowsD cs B)), y7.map .imm, y8.map .imm, y9.map .imm, some (.imm (psD f)), x11.map .imm, some (.imm y12), some (.imm y13), some (.imm (psD q)), some (.imm (rowsD cs (L.reverse.map negC)))] = .ok .nx [some (.imm S), some (.imm (.int cell)), some (.own false o7), some (.imm (csD cs)), some (.imm (psD p)), some (.imm (rowsD cs L)), some (.imm (rowsD cs B)), y7.map .imm, y8.map .imm, y9.map .imm, some (.imm (psD f)), x11.map .imm, some (.imm y12), some (.imm y13), some (.imm (psD q)), some (.imm (rowsD cs (L.reverse.map negC)))] := by
    by_cases hm : mx ≤ 10 ^ 30
    · have hpq : Purse cs (10 ^ 30) q := ⟨ql, q0, fun x m => Int.le_trans (mxh x m) hm⟩
      have eb := e_behind h hpq (L := L.reverse.map negC) ((hL30.rev).fit (by rw [List.length_map, List.length_reverse]; omega))
      rw [bk] at eb
      have eb : m_behind [.imm (csD cs), .imm (psD q), .imm (rowsD cs (L.reverse.map negC))] = .ok (.imm (psD p)) [none, none, none] := eb
      have ge : gNe (psD p) (psD p) = some (.bool false) := by
        have := gNe_tupI p p
        rw [decide_eq_true rfl] at this
        exact this
      have gl : gLe (.int mx) (.int (10 ^ 30)) = some (.bool true) := by rw [gLe_int, decide_eq_true hm]
      generalize (10 ^ 30 : Int) = T at p30 gl
      generalize psD q = QD at *
      generalize psD p = PD at *
      generalize rowsD cs (L.reverse.map negC) = RR at *
      generalize csD cs = CD at *
      simp [runFn, startE, keepO, keepA, sRet, sRetN, sRetA, sRetNone, sSeq, sIf, sNx, sDrop, sSet, sTg, tN, canSet, sSetN, Md.bind, Md.ret, Md.opt, mVar, mC, mT, m2, m1, mIf, mAndV, mOrV, mNotV, mAndT, mOrT, mNotT, mChain, mCons, mNil, mCall, mCallN, mImm, mOwn, mTup, mLst, mLstN, mItems, mFrz, rs, im, rss, ims, ownD, argOf, argsOf, slotOf, isSlot, cellsBack, backA, mCallA, List.filterMap_cons, List.filterMap_nil, List.findIdx?_cons, List.findIdx?_nil, gNotN_eq, nq, gmx, p30, gl, eb, ge]
    · have gl : gLe (.int mx) (.int (10 ^ 30)) = some (.bool false) := by rw [gLe_int, decide_eq_false hm]
      generalize (10 ^ 30 : Int) = T at p30 gl
      generalize psD q = QD at *
      simp [runFn, startE, keepO, keepA, sRet, sRetN, sRetA, sRetNone, sSeq, sIf, sNx, sDrop, sSet, sTg, tN, canSet, sSetN, Md.bind, Md.ret, Md.opt, mVar, mC, mT, m2, m1, mIf, mAndV, mOrV, mNotV, mAndT, mOrT, mNotT, mChain, mCons, mNil, mCall, mCallN, mImm, mOwn, mTup, mLst, mLstN, mItems, mFrz, rs, im, rss, ims, ownD, argOf, argsOf, slotOf, isSlot, cellsBack, backA, mCallA, List.filterMap_cons, List.filterMap_nil, List.findIdx?_cons, List.findIdx?_nil, gNotN_eq, nq, gmx, p30, gl]
  exact key
end DV

set_option Elab.async false
set_option linter.all false
set_option maxRecDepth 100000
set_option maxHeartbeats 4000000
set_option autoImplicit false
/-! MxO02: the law of rows holds of every script. -/
namespace DV
open PySem L2
def cs2 : List Rw := [⟨"a", 3, "b"⟩, ⟨"b", 0, ""⟩]
theorem coins2 : Coins cs2 := ⟨by decide +kernel, by decide +kernel⟩
theorem last_row : m_behind [.imm (.tuple [.tuple [.str ("a" : Str), .int 3, .str ("b" : Str)], .tuple [.str ("b" : Str), .int 0, .str ("" : Str)]]), .imm (.tuple [.int 4, .int 1]), .imm (.list [.tuple [.str ("a" : Str), .int 1], .tuple [.str ("a" : Str), .int (-2)]])] = .ok (.imm (.tuple [.int 7, .int 0])) [none, none, none] := by
  have hp : Purse cs2 (10 ^ 30) [4, 1] := ⟨rfl, by decide, by decide⟩
  have c1 : ∀ t : Int, Chg cs2 (0, t) ⟨"a", 3, "b"⟩ 1 := fun t => ⟨rfl, by decide +kernel, ⟨⟨"b", 0, ""⟩, rfl, rfl⟩, by show (1 : Nat) ≠ 0; decide⟩
  have hf : FitRow cs2 [(0, 1), (0, -2)] := ⟨by decide, fun c m => by
    rcases List.mem_cons.mp m with rfl | m
    · exact ⟨⟨_, _, c1 1⟩, by decide, by decide, by decide⟩
    · rw [List.mem_singleton.mp m]
      exact ⟨⟨_, _, c1 (-2)⟩, by decide, by decide, by decide⟩⟩
  have e := e_behind coins2 hp hf
  have dn : doneO cs2 (some [4, 1]) [(0, 1), (0, -2)] = some [7, 0] := by decide +kernel
  rw [dn] at e
  exact e
theorem e_law (ns : List Int) (hn : ns.length ≤ 1000) : m_law [.imm (.list (ns.map .int))] = .ok (.imm (.bool true)) (List.replicate 16 none) := by
  generalize hS : PyData.list (ns.map .int) = S
  have it : (mSeq (mSl (m2 gAdd (mLst (mCons (mC (.int 0)) mNil)) (mVar 0)) (Md.ret none) (mPart (mC (.int 10))))) [some (.imm S), none, none, none, none, none, none, none, none, none, none, none, none, none, none, none] = .ok (((0 :: ns).take 10).map .int) [some (.imm S), none, none, none, none, none, none, none, none, none, none, none, none, none, none, none] := by
    have ga : gAdd (.list [.int 0]) S = some (.list ((0 :: ns).map .int)) := by
      rw [← hS]
      show (if [PyData.int 0].length + (ns.map PyData.int).length ≤ lim then some (PyData.list ([PyData.int 0] ++ ns.map .int)) else none) = _
      rw [if_pos (by rw [List.length_map]; exact Nat.le_trans (show 1 + ns.length ≤ 2000 by omega) (by decide))]
      rfl
    have gs : gSl (.list ((0 :: ns).map .int)) none (some 10) = some (.list (((0 :: ns).take 10).map .int)) := by
      show some (PyData.list (cutG ((0 :: ns).map .int) none (some 10))) = _
      have := cut_to ((0 :: ns).map PyData.int) 10
      rw [List.map_take]
      exact congrArg (fun x => some (PyData.list x)) this
    generalize (0 :: ns).map PyData.int = A1 at ga gs
    generalize ((0 :: ns).take 10).map PyData.int = A2 at gs
    simp [mSeq, mSl, mPart, runFn, startE, keepO, keepA, sRet, sRetN, sRetA, sRetNone, sSeq, sIf, sNx, sDrop, sSet, sTg, tN, canSet, sSetN, Md.bind, Md.ret, Md.opt, mVar, mC, mT, m2, m1, mIf, mAndV, mOrV, mNotV, mAndT, mOrT, mNotT, mChain, mCons, mNil, mCall, mCallN, mImm, mOwn, mTup, mLst, mLstN, mItems, mFrz, rs, im, rss, ims, ownD, argOf, argsOf, slotOf, isSlot, cellsBack, backA, mCallA, List.filterMap_cons, List.filterMap_nil, List.findIdx?_cons, List.findIdx?_nil, ga, gs, lim, items]
  obtain ⟨ρ', e, x1, d2, x3, x4, x5, x6, x7, x8, x9, x10, x11, x12, x13, x14, x15, er⟩ := forL_run (tg := tN 1) (body := b_law_3) (fun _ ρ => ∃ (x1 : Option D) (d2 : Option Own) (x3 x4 x5 x6 x7 x8 x9 x10 x11 x12 x13 x14 x15 : Option D), ρ = [some (.imm S), x1.map .imm, d2.map (.own false), x3.map .imm, x4.map .imm, x5.map .imm, x6.map .imm, x7.map .imm, x8.map .imm, x9.map .imm, x10.map .imm, x11.map .imm, x12.map .imm, x13.map .imm, x14.map .imm, x15.map .imm])
    (((0 :: ns).take 10).map .int) [some (.imm S), none, none, none, none, none, none, none, none, none, none, none, none, none, none, none] ⟨none, none, none, none, none, none, none, none, none, none, none, none, none, none, none, rfl⟩
    (fun i d ρ hd ⟨x1, d2, x3, x4, x5, x6, x7, x8, x9, x10, x11, x12, x13, x14, x15, er⟩ => by
      subst er
      obtain ⟨cell, _, rfl⟩ := List.mem_map.mp (List.mem_of_getElem? hd)
      obtain ⟨o, z3, z4, z5, z6, z7, z8, z9, z10, z11, z12, z13, z14, z15, eb⟩ := cell_turn S cell d2 x3 x4 x5 x6 x7 x8 x9 x10 x11 x12 x13 x14 x15
      refine ⟨[some (.imm S), some (.imm (.int cell)), d2.map (.own false), x3.map .imm, x4.map .imm, x5.map .imm, x6.map .imm, x7.map .imm, x8.map .imm, x9.map .imm, x10.map .imm, x11.map .imm, x12.map .imm, x13.map .imm, x14.map .imm, x15.map .imm], _, ?_, .inl eb, some (.int cell), some o, z3, z4, z5, z6, z7, z8, z9, z10, z11, z12, z13, z14, z15, rfl⟩
      cases x1 <;> simp [tN, canSet])
  have lr := last_row
  have ge : gEq (.tuple [.int 7, .int 0]) (.tuple [.int 7, .int 0]) = some (.bool true) := rfl
  generalize hQ : PyData.tuple [.int 7, .int 0] = Q at lr ge
  have ng : gNeg (.int 2) = some (.int (-2)) := rfl
  refine run_rt (.imm (.bool true)) ρ' (seq_nx ρ' ((sFor_eq it).trans e) ?_) ?_
  · rw [er]
    have fin : (sRet (m2 gEq (mImm (mCallA 3 m_behind (mCons (mTup (mCons (mTup (mCons (mC (.str ("a" : Str))) (mCons (mC (.int 3)) (mCons (mC (.str ("b" : Str))) mNil)))) (mCons (mTup (mCons (mC (.str ("b" : Str))) (mCons (mC (.int 0)) (mCons (mC (.str ("" : Str))) mNil)))) mNil))) (mCons (mTup (mCons (mC (.int 4)) (mCons (mC (.int 1)) mNil))) (mCons (mLst (mCons (mTup (mCons (mC (.str ("a" : Str))) (mCons (mC (.int 1)) mNil))) (mCons (mTup (mCons (mC (.str ("a" : Str))) (mCons (m1 gNeg (mC (.int 2))) mNil))) mNil))) mNil))))) (mTup (mCons (mC (.int 7)) (mCons (mC (.int 0)) mNil))))) [some (.imm S), x1.map .imm, d2.map (.own false), x3.map .imm, x4.map .imm, x5.map .imm, x6.map .imm, x7.map .imm, x8.map .imm, x9.map .imm, x10.map .imm, x11.map .imm, x12.map .imm, x13.map .imm, x14.map .imm, x15.map .imm] = .ok (.rt (.imm (.bool true))) [some (.imm S), x1.map .imm, d2.map (.own false), x3.map .imm, x4.map .imm, x5.map .imm, x6.map .imm, x7.map .imm, x8.map .imm, x9.map .imm, x10.map .imm, x11.map .imm, x12.map .imm, x13.map .imm, x14.map .imm, x15.map .imm] := by
      simp [runFn, startE, keepO, keepA, sRet, sRetN, sRetA, sRetNone, sSeq, sIf, sNx, sDrop, sSet, sTg, tN, canSet, sSetN, Md.bind, Md.ret, Md.opt, mVar, mC, mT, m2, m1, mIf, mAndV, mOrV, mNotV, mAndT, mOrT, mNotT, mChain, mCons, mNil, mCall, mCallN, mImm, mOwn, mTup, mLst, mLstN, mItems, mFrz, rs, im, rss, ims, ownD, argOf, argsOf, slotOf, isSlot, cellsBack, backA, mCallA, List.filterMap_cons, List.filterMap_nil, List.findIdx?_cons, List.findIdx?_nil, lim, ng, lr, hQ, ge]
    exact fin
  · rw [er]
    exact congrArg (Rs.ok (A.imm (PyData.bool true))) keepO_1
end DV

namespace DV
open PySem PySem.Spec PyProof.Rows L2
/-! what the top has written -/
theorem all_mk {l : PySem.W.OpenLaw} {w : World} {K : PySem.W.Frag} {h : Heap} {mg : Str → Option Value} {fa f1 f2 f3 f4 f5 f6 f7 f8 f9 f10 f11 f12 f13 f14 f15 f16 f17 f18 f19 f20 f21 f22 f23 f24 f25 f26 f27 f28 f29 f30 f31 : Addr} (X : K.In h) (G : h.Ns mainGlobals mg) (hfa : mg "law" = some (.ref fa))
    {od1 od2 od3 od4 od5 od6 od7 od8 od9 od10 od11 od12 od13 od14 od15 od16 od17 od18 od19 od20 od21 od22 od23 od24 od25 od26 od27 od28 od29 od30 od31 an1 an2 an3 an4 an5 an6 an7 an8 an9 an10 an11 an12 an13 an14 an15 an16 an17 an18 an19 an20 an21 an22 an23 an24 an25 an26 an27 an28 an29 an30 an31 : Option Addr} {sl1 sl2 sl3 sl4 sl5 sl6 sl7 sl8 sl9 sl10 sl11 sl12 sl13 sl14 sl15 sl16 sl17 sl18 sl19 sl20 sl21 sl22 sl23 sl24 sl25 sl26 sl27 sl28 sl29 sl30 sl31 : Array (Option Value)} {oc1 oc2 oc3 oc4 oc5 oc6 oc7 oc8 oc9 oc10 oc11 oc12 oc13 oc14 oc15 oc16 oc17 oc18 oc19 oc20 oc21 oc22 oc23 oc24 oc25 oc26 oc27 oc28 oc29 oc30 oc31 kV1 kV2 kV3 kV4 kV5 kV6 kV7 kV8 kV9 kV10 kV11 kV12 kV13 kV14 kV15 kV16 kV17 kV18 kV19 kV20 kV21 kV22 kV23 kV24 kV25 kV26 kV27 kV28 kV29 kV30 kV31 dc1 dc2 dc3 dc4 dc5 dc6 dc7 dc8 dc9 dc10 dc11 dc12 dc13 dc14 dc15 dc16 dc17 dc18 dc19 dc20 dc21 dc22 dc23 dc24 dc25 dc26 dc27 dc28 dc29 dc30 dc31 pm1 pm2 pm3 pm4 pm5 pm6 pm7 pm8 pm9 pm10 pm11 pm12 pm13 pm14 pm15 pm16 pm17 pm18 pm19 pm20 pm21 pm22 pm23 pm24 pm25 pm26 pm27 pm28 pm29 pm30 pm31 cd1 cd2 cd3 cd4 cd5 cd6 cd7 cd8 cd9 cd10 cd11 cd12 cd13 cd14 cd15 cd16 cd17 cd18 cd19 cd20 cd21 cd22 cd23 cd24 cd25 cd26 cd27 cd28 cd29 cd30 cd31 ct1 ct2 ct3 ct4 ct5 ct6 ct7 ct8 ct9 ct10 ct11 ct12 ct13 ct14 ct15 ct16 ct17 ct18 ct19 ct20 ct21 ct22 ct23 ct24 ct25 ct26 ct27 ct28 ct29 ct30 ct31 : Value} {t_LETTERS t_MOST_KINDS t_MOST_COINS t_MOST_FEE t_MOST_TIMES t_MOST_CHANGES : Tok}
    (a1 : PySem.W.nsIn K mainGlobals "is_from" = some (some (.ref f1))) (l1 : K.lookup f1 = some ⟨oc1, od1, .func (PySem.W.fnOf "is_from" "is_from" (defArgs (topS 11)) (defBody (topS 11)) (defScope (topS 11)) .none kV1 dc1 pm1 an1 cd1 ct1), sl1⟩) (c1 : PySem.W.codeIn K cd1 "is_from" = true) (k1 : PySem.W.keepIn K (.ref f1) = true)
    (a2 : PySem.W.nsIn K mainGlobals "is_name" = some (some (.ref f2))) (l2 : K.lookup f2 = some ⟨oc2, od2, .func (PySem.W.fnOf "is_name" "is_name" (defArgs (topS 12)) (defBody (topS 12)) (defScope (topS 12)) .none kV2 dc2 pm2 an2 cd2 ct2), sl2⟩) (c2 : PySem.W.codeIn K cd2 "is_name" = true) (k2 : PySem.W.keepIn K (.ref f2) = true)
    (a3 : PySem.W.nsIn K mainGlobals "is_rising" = some (some (.ref f3))) (l3 : K.lookup f3 = some ⟨oc3, od3, .func (PySem.W.fnOf "is_rising" "is_rising" (defArgs (topS 13)) (defBody (topS 13)) (defScope (topS 13)) .none kV3 dc3 pm3 an3 cd3 ct3), sl3⟩) (c3 : PySem.W.codeIn K cd3 "is_rising" = true) (k3 : PySem.W.keepIn K (.ref f3) = true)
    (a4 : PySem.W.nsIn K mainGlobals "is_coin" = some (some (.ref f4))) (l4 : K.lookup f4 = some ⟨oc4, od4, .func (PySem.W.fnOf "is_coin" "is_coin" (defArgs (topS 14)) (defBody (topS 14)) (defScope (topS 14)) .none kV4 dc4 pm4 an4 cd4 ct4), sl4⟩) (c4 : PySem.W.codeIn K cd4 "is_coin" = true) (k4 : PySem.W.keepIn K (.ref f4) = true)
    (a5 : PySem.W.nsIn K mainGlobals "are_coins" = some (some (.ref f5))) (l5 : K.lookup f5 = some ⟨oc5, od5, .func (PySem.W.fnOf "are_coins" "are_coins" (defArgs (topS 15)) (defBody (topS 15)) (defScope (topS 15)) .none kV5 dc5 pm5 an5 cd5 ct5), sl5⟩) (c5 : PySem.W.codeIn K cd5 "are_coins" = true) (k5 : PySem.W.keepIn K (.ref f5) = true)
    (a6 : PySem.W.nsIn K mainGlobals "need_coins" = some (some (.ref f6))) (l6 : K.lookup f6 = some ⟨oc6, od6, .func (PySem.W.fnOf "need_coins" "need_coins" (defArgs (topS 16)) (defBody (topS 16)) (defScope (topS 16)) .none kV6 dc6 pm6 an6 cd6 ct6), sl6⟩) (c6 : PySem.W.codeIn K cd6 "need_coins" = true) (k6 : PySem.W.keepIn K (.ref f6) = true)
    (a7 : PySem.W.nsIn K mainGlobals "is_stock" = some (some (.ref f7))) (l7 : K.lookup f7 = some ⟨oc7, od7, .func (PySem.W.fnOf "is_stock" "is_stock" (defArgs (topS 17)) (defBody (topS 17)) (defScope (topS 17)) .none kV7 dc7 pm7 an7 cd7 ct7), sl7⟩) (c7 : PySem.W.codeIn K cd7 "is_stock" = true) (k7 : PySem.W.keepIn K (.ref f7) = true)
    (a8 : PySem.W.nsIn K mainGlobals "need_purse" = some (some (.ref f8))) (l8 : K.lookup f8 = some ⟨oc8, od8, .func (PySem.W.fnOf "need_purse" "need_purse" (defArgs (topS 18)) (defBody (topS 18)) (defScope (topS 18)) .none kV8 dc8 pm8 an8 cd8 ct8), sl8⟩) (c8 : PySem.W.codeIn K cd8 "need_purse" = true) (k8 : PySem.W.keepIn K (.ref f8) = true)
    (a9 : PySem.W.nsIn K mainGlobals "are_paid" = some (some (.ref f9))) (l9 : K.lookup f9 = some ⟨oc9, od9, .func (PySem.W.fnOf "are_paid" "are_paid" (defArgs (topS 19)) (defBody (topS 19)) (defScope (topS 19)) .none kV9 dc9 pm9 an9 cd9 ct9), sl9⟩) (c9 : PySem.W.codeIn K cd9 "are_paid" = true) (k9 : PySem.W.keepIn K (.ref f9) = true)
    (a10 : PySem.W.nsIn K mainGlobals "need_fees" = some (some (.ref f10))) (l10 : K.lookup f10 = some ⟨oc10, od10, .func (PySem.W.fnOf "need_fees" "need_fees" (defArgs (topS 20)) (defBody (topS 20)) (defScope (topS 20)) .none kV10 dc10 pm10 an10 cd10 ct10), sl10⟩) (c10 : PySem.W.codeIn K cd10 "need_fees" = true) (k10 : PySem.W.keepIn K (.ref f10) = true)
    (a11 : PySem.W.nsIn K mainGlobals "place_of" = some (some (.ref f11))) (l11 : K.lookup f11 = some ⟨oc11, od11, .func (PySem.W.fnOf "place_of" "place_of" (defArgs (topS 21)) (defBody (topS 21)) (defScope (topS 21)) .none kV11 dc11 pm11 an11 cd11 ct11), sl11⟩) (c11 : PySem.W.codeIn K cd11 "place_of" = true) (k11 : PySem.W.keepIn K (.ref f11) = true)
    (a12 : PySem.W.nsIn K mainGlobals "is_change" = some (some (.ref f12))) (l12 : K.lookup f12 = some ⟨oc12, od12, .func (PySem.W.fnOf "is_change" "is_change" (defArgs (topS 25)) (defBody (topS 25)) (defScope (topS 25)) .none kV12 dc12 pm12 an12 cd12 ct12), sl12⟩) (c12 : PySem.W.codeIn K cd12 "is_change" = true) (k12 : PySem.W.keepIn K (.ref f12) = true)
    (a13 : PySem.W.nsIn K mainGlobals "are_changes" = some (some (.ref f13))) (l13 : K.lookup f13 = some ⟨oc13, od13, .func (PySem.W.fnOf "are_changes" "are_changes" (defArgs (topS 26)) (defBody (topS 26)) (defScope (topS 26)) .none kV13 dc13 pm13 an13 cd13 ct13), sl13⟩) (c13 : PySem.W.codeIn K cd13 "are_changes" = true) (k13 : PySem.W.keepIn K (.ref f13) = true)
    (a14 : PySem.W.nsIn K mainGlobals "need_row" = some (some (.ref f14))) (l14 : K.lookup f14 = some ⟨oc14, od14, .func (PySem.W.fnOf "need_row" "need_row" (defArgs (topS 27)) (defBody (topS 27)) (defScope (topS 27)) .none kV14 dc14 pm14 an14 cd14 ct14), sl14⟩) (c14 : PySem.W.codeIn K cd14 "need_row" = true) (k14 : PySem.W.keepIn K (.ref f14) = true)
    (a15 : PySem.W.nsIn K mainGlobals "changed" = some (some (.ref f15))) (l15 : K.lookup f15 = some ⟨oc15, od15, .func (PySem.W.fnOf "changed" "changed" (defArgs (topS 28)) (defBody (topS 28)) (defScope (topS 28)) .none kV15 dc15 pm15 an15 cd15 ct15), sl15⟩) (c15 : PySem.W.codeIn K cd15 "changed" = true) (k15 : PySem.W.keepIn K (.ref f15) = true)
    (a16 : PySem.W.nsIn K mainGlobals "done" = some (some (.ref f16))) (l16 : K.lookup f16 = some ⟨oc16, od16, .func (PySem.W.fnOf "done" "done" (defArgs (topS 29)) (defBody (topS 29)) (defScope (topS 29)) .none kV16 dc16 pm16 an16 cd16 ct16), sl16⟩) (c16 : PySem.W.codeIn K cd16 "done" = true) (k16 : PySem.W.keepIn K (.ref f16) = true)
    (a17 : PySem.W.nsIn K mainGlobals "behind" = some (some (.ref f17))) (l17 : K.lookup f17 = some ⟨oc17, od17, .func (PySem.W.fnOf "behind" "behind" (defArgs (topS 30)) (defBody (topS 30)) (defScope (topS 30)) .none kV17 dc17 pm17 an17 cd17 ct17), sl17⟩) (c17 : PySem.W.codeIn K cd17 "behind" = true) (k17 : PySem.W.keepIn K (.ref f17) = true)
    (a18 : PySem.W.nsIn K mainGlobals "cost" = some (some (.ref f18))) (l18 : K.lookup f18 = some ⟨oc18, od18, .func (PySem.W.fnOf "cost" "cost" (defArgs (topS 31)) (defBody (topS 31)) (defScope (topS 31)) .none kV18 dc18 pm18 an18 cd18 ct18), sl18⟩) (c18 : PySem.W.codeIn K cd18 "cost" = true) (k18 : PySem.W.keepIn K (.ref f18) = true)
    (a19 : PySem.W.nsIn K mainGlobals "_law_deck" = some (some (.ref f19))) (l19 : K.lookup f19 = some ⟨oc19, od19, .func (PySem.W.fnOf "_law_deck" "_law_deck" (defArgs (topS 33)) (defBody (topS 33)) (defScope (topS 33)) .none kV19 dc19 pm19 an19 cd19 ct19), sl19⟩) (c19 : PySem.W.codeIn K cd19 "_law_deck" = true) (k19 : PySem.W.keepIn K (.ref f19) = true)
    (a20 : PySem.W.nsIn K mainGlobals "_law_pick" = some (some (.ref f20))) (l20 : K.lookup f20 = some ⟨oc20, od20, .func (PySem.W.fnOf "_law_pick" "_law_pick" (defArgs (topS 34)) (defBody (topS 34)) (defScope (topS 34)) .none kV20 dc20 pm20 an20 cd20 ct20), sl20⟩) (c20 : PySem.W.codeIn K cd20 "_law_pick" = true) (k20 : PySem.W.keepIn K (.ref f20) = true)
    (a21 : PySem.W.nsIn K mainGlobals "_law_one" = some (some (.ref f21))) (l21 : K.lookup f21 = some ⟨oc21, od21, .func (PySem.W.fnOf "_law_one" "_law_one" (defArgs (topS 35)) (defBody (topS 35)) (defScope (topS 35)) .none kV21 dc21 pm21 an21 cd21 ct21), sl21⟩) (c21 : PySem.W.codeIn K cd21 "_law_one" = true) (k21 : PySem.W.keepIn K (.ref f21) = true)
    (a22 : PySem.W.nsIn K mainGlobals "_law_sort" = some (some (.ref f22))) (l22 : K.lookup f22 = some ⟨oc22, od22, .func (PySem.W.fnOf "_law_sort" "_law_sort" (defArgs (topS 36)) (defBody (topS 36)) (defScope (topS 36)) .none kV22 dc22 pm22 an22 cd22 ct22), sl22⟩) (c22 : PySem.W.codeIn K cd22 "_law_sort" = true) (k22 : PySem.W.keepIn K (.ref f22) = true)
    (a23 : PySem.W.nsIn K mainGlobals "_law_same" = some (some (.ref f23))) (l23 : K.lookup f23 = some ⟨oc23, od23, .func (PySem.W.fnOf "_law_same" "_law_same" (defArgs (topS 37)) (defBody (topS 37)) (defScope (topS 37)) .none kV23 dc23 pm23 an23 cd23 ct23), sl23⟩) (c23 : PySem.W.codeIn K cd23 "_law_same" = true) (k23 : PySem.W.keepIn K (.ref f23) = true)
    (a24 : PySem.W.nsIn K mainGlobals "_law_coins" = some (some (.ref f24))) (l24 : K.lookup f24 = some ⟨oc24, od24, .func (PySem.W.fnOf "_law_coins" "_law_coins" (defArgs (topS 38)) (defBody (topS 38)) (defScope (topS 38)) .none kV24 dc24 pm24 an24 cd24 ct24), sl24⟩) (c24 : PySem.W.codeIn K cd24 "_law_coins" = true) (k24 : PySem.W.keepIn K (.ref f24) = true)
    (a25 : PySem.W.nsIn K mainGlobals "_law_purse" = some (some (.ref f25))) (l25 : K.lookup f25 = some ⟨oc25, od25, .func (PySem.W.fnOf "_law_purse" "_law_purse" (defArgs (topS 39)) (defBody (topS 39)) (defScope (topS 39)) .none kV25 dc25 pm25 an25 cd25 ct25), sl25⟩) (c25 : PySem.W.codeIn K cd25 "_law_purse" = true) (k25 : PySem.W.keepIn K (.ref f25) = true)
    (a26 : PySem.W.nsIn K mainGlobals "_law_at" = some (some (.ref f26))) (l26 : K.lookup f26 = some ⟨oc26, od26, .func (PySem.W.fnOf "_law_at" "_law_at" (defArgs (topS 40)) (defBody (topS 40)) (defScope (topS 40)) .none kV26 dc26 pm26 an26 cd26 ct26), sl26⟩) (c26 : PySem.W.codeIn K cd26 "_law_at" = true) (k26 : PySem.W.keepIn K (.ref f26) = true)
    (a27 : PySem.W.nsIn K mainGlobals "_law_changed" = some (some (.ref f27))) (l27 : K.lookup f27 = some ⟨oc27, od27, .func (PySem.W.fnOf "_law_changed" "_law_changed" (defArgs (topS 41)) (defBody (topS 41)) (defScope (topS 41)) .none kV27 dc27 pm27 an27 cd27 ct27), sl27⟩) (c27 : PySem.W.codeIn K cd27 "_law_changed" = true) (k27 : PySem.W.keepIn K (.ref f27) = true)
    (a28 : PySem.W.nsIn K mainGlobals "_law_done" = some (some (.ref f28))) (l28 : K.lookup f28 = some ⟨oc28, od28, .func (PySem.W.fnOf "_law_done" "_law_done" (defArgs (topS 42)) (defBody (topS 42)) (defScope (topS 42)) .none kV28 dc28 pm28 an28 cd28 ct28), sl28⟩) (c28 : PySem.W.codeIn K cd28 "_law_done" = true) (k28 : PySem.W.keepIn K (.ref f28) = true)
    (a29 : PySem.W.nsIn K mainGlobals "_law_singles" = some (some (.ref f29))) (l29 : K.lookup f29 = some ⟨oc29, od29, .func (PySem.W.fnOf "_law_singles" "_law_singles" (defArgs (topS 43)) (defBody (topS 43)) (defScope (topS 43)) .none kV29 dc29 pm29 an29 cd29 ct29), sl29⟩) (c29 : PySem.W.codeIn K cd29 "_law_singles" = true) (k29 : PySem.W.keepIn K (.ref f29) = true)
    (a30 : PySem.W.nsIn K mainGlobals "_law_row" = some (some (.ref f30))) (l30 : K.lookup f30 = some ⟨oc30, od30, .func (PySem.W.fnOf "_law_row" "_law_row" (defArgs (topS 44)) (defBody (topS 44)) (defScope (topS 44)) .none kV30 dc30 pm30 an30 cd30 ct30), sl30⟩) (c30 : PySem.W.codeIn K cd30 "_law_row" = true) (k30 : PySem.W.keepIn K (.ref f30) = true)
    (a31 : PySem.W.nsIn K mainGlobals "law" = some (some (.ref f31))) (l31 : K.lookup f31 = some ⟨oc31, od31, .func (PySem.W.fnOf "law" "law" (defArgs (topS 45)) (defBody (topS 45)) (defScope (topS 45)) .none kV31 dc31 pm31 an31 cd31 ct31), sl31⟩) (c31 : PySem.W.codeIn K cd31 "law" = true) (k31 : PySem.W.keepIn K (.ref f31) = true)
    (z_isinstance : PySem.W.nsIn K mainGlobals "isinstance" = some none)
    (z_int : PySem.W.nsIn K mainGlobals "int" = some none)
    (z_bool : PySem.W.nsIn K mainGlobals "bool" = some none)
    (z_str : PySem.W.nsIn K mainGlobals "str" = some none)
    (z_len : PySem.W.nsIn K mainGlobals "len" = some none)
    (q_LETTERS : PySem.W.nsIn K mainGlobals "LETTERS" = some (some (.str ("abcdefghijklmnopqrstuvwxyz" : Str) t_LETTERS)))
    (z_all : PySem.W.nsIn K mainGlobals "all" = some none)
    (z_zip : PySem.W.nsIn K mainGlobals "zip" = some none)
    (z_tuple : PySem.W.nsIn K mainGlobals "tuple" = some none)
    (q_MOST_KINDS : PySem.W.nsIn K mainGlobals "MOST_KINDS" = some (some (.int 8 t_MOST_KINDS)))
    (z_range : PySem.W.nsIn K mainGlobals "range" = some none)
    (q_MOST_COINS : PySem.W.nsIn K mainGlobals "MOST_COINS" = some (some (.int 1000000000000000000000000000000 t_MOST_COINS)))
    (q_MOST_FEE : PySem.W.nsIn K mainGlobals "MOST_FEE" = some (some (.int 99 t_MOST_FEE)))
    (z_enumerate : PySem.W.nsIn K mainGlobals "enumerate" = some none)
    (q_MOST_TIMES : PySem.W.nsIn K mainGlobals "MOST_TIMES" = some (some (.int 10000000000000000000000000000000 t_MOST_TIMES)))
    (z_list : PySem.W.nsIn K mainGlobals "list" = some none)
    (q_MOST_CHANGES : PySem.W.nsIn K mainGlobals "MOST_CHANGES" = some (some (.int 60 t_MOST_CHANGES)))
    (z_abs : PySem.W.nsIn K mainGlobals "abs" = some none)
    (z_sum : PySem.W.nsIn K mainGlobals "sum" = some none)
    (z_sorted : PySem.W.nsIn K mainGlobals "sorted" = some none)
    (z_min : PySem.W.nsIn K mainGlobals "min" = some none)
    (z_max : PySem.W.nsIn K mainGlobals "max" = some none) :
    ∃ fd : FuncData, (∀ (s : Shared) (v : Value), BindsTo s fd ⟨[v], []⟩ [("script", v)]) ∧ ∀ base : Heap, K.In base → base.Ns mainGlobals mg → FnOk l.prog w K mg base CX0 23 fa fd ["script"] (spOf K 1 16 m_law) := by
  have e := hfa.symm.trans (PySem.W.mg_of X G a31)
  cases e
  have T : Txt K mg := ⟨PySem.W.mg_none_of X G z_isinstance, PySem.W.mg_none_of X G z_int, PySem.W.mg_none_of X G z_bool, PySem.W.mg_none_of X G z_str, PySem.W.mg_none_of X G z_len, ⟨_, PySem.W.mg_of X G q_LETTERS, ⟨t_LETTERS, rfl⟩⟩, PySem.W.mg_none_of X G z_all, PySem.W.mg_none_of X G z_zip, PySem.W.mg_none_of X G z_tuple, ⟨_, PySem.W.mg_of X G q_MOST_KINDS, ⟨t_MOST_KINDS, rfl⟩⟩, PySem.W.mg_none_of X G z_range, ⟨_, PySem.W.mg_of X G q_MOST_COINS, ⟨t_MOST_COINS, rfl⟩⟩, ⟨_, PySem.W.mg_of X G q_MOST_FEE, ⟨t_MOST_FEE, rfl⟩⟩, PySem.W.mg_none_of X G z_enumerate, ⟨_, PySem.W.mg_of X G q_MOST_TIMES, ⟨t_MOST_TIMES, rfl⟩⟩, PySem.W.mg_none_of X G z_list, ⟨_, PySem.W.mg_of X G q_MOST_CHANGES, ⟨t_MOST_CHANGES, rfl⟩⟩, PySem.W.mg_none_of X G z_abs, PySem.W.mg_none_of X G z_sum, PySem.W.mg_none_of X G z_sorted, PySem.W.mg_none_of X G z_min, PySem.W.mg_none_of X G z_max⟩
  have F1 := fun_mk (st := topS 11) l1 c1 k1
  have b1 := F1.binds (ps := [("thing" : Str), ("low" : Str), ("high" : Str)]) fun _ _ _ _ _ _ us hl => match us, hl with | [_, _, _], _ => rfl
  have m1 := PySem.W.mg_of X G a1
  have F2 := fun_mk (st := topS 12) l2 c2 k2
  have b2 := F2.binds (ps := [("thing" : Str)]) fun _ _ _ _ _ _ us hl => match us, hl with | [_], _ => rfl
  have m2 := PySem.W.mg_of X G a2
  have F3 := fun_mk (st := topS 13) l3 c3 k3
  have b3 := F3.binds (ps := [("things" : Str)]) fun _ _ _ _ _ _ us hl => match us, hl with | [_], _ => rfl
  have m3 := PySem.W.mg_of X G a3
  have F4 := fun_mk (st := topS 14) l4 c4 k4
  have b4 := F4.binds (ps := [("thing" : Str)]) fun _ _ _ _ _ _ us hl => match us, hl with | [_], _ => rfl
  have m4 := PySem.W.mg_of X G a4
  have F5 := fun_mk (st := topS 15) l5 c5 k5
  have b5 := F5.binds (ps := [("thing" : Str)]) fun _ _ _ _ _ _ us hl => match us, hl with | [_], _ => rfl
  have m5 := PySem.W.mg_of X G a5
  have F6 := fun_mk (st := topS 16) l6 c6 k6
  have b6 := F6.binds (ps := [("coins" : Str)]) fun _ _ _ _ _ _ us hl => match us, hl with | [_], _ => rfl
  have m6 := PySem.W.mg_of X G a6
  have F7 := fun_mk (st := topS 17) l7 c7 k7
  have b7 := F7.binds (ps := [("coins" : Str), ("thing" : Str)]) fun _ _ _ _ _ _ us hl => match us, hl with | [_, _], _ => rfl
  have m7 := PySem.W.mg_of X G a7
  have F8 := fun_mk (st := topS 18) l8 c8 k8
  have b8 := F8.binds (ps := [("coins" : Str), ("purse" : Str)]) fun _ _ _ _ _ _ us hl => match us, hl with | [_, _], _ => rfl
  have m8 := PySem.W.mg_of X G a8
  have F9 := fun_mk (st := topS 19) l9 c9 k9
  have b9 := F9.binds (ps := [("coins" : Str), ("thing" : Str)]) fun _ _ _ _ _ _ us hl => match us, hl with | [_, _], _ => rfl
  have m9 := PySem.W.mg_of X G a9
  have F10 := fun_mk (st := topS 20) l10 c10 k10
  have b10 := F10.binds (ps := [("coins" : Str), ("fees" : Str)]) fun _ _ _ _ _ _ us hl => match us, hl with | [_, _], _ => rfl
  have m10 := PySem.W.mg_of X G a10
  have F11 := fun_mk (st := topS 21) l11 c11 k11
  have b11 := F11.binds (ps := [("coins" : Str), ("kind" : Str)]) fun _ _ _ _ _ _ us hl => match us, hl with | [_, _], _ => rfl
  have m11 := PySem.W.mg_of X G a11
  have F12 := fun_mk (st := topS 25) l12 c12 k12
  have b12 := F12.binds (ps := [("coins" : Str), ("thing" : Str)]) fun _ _ _ _ _ _ us hl => match us, hl with | [_, _], _ => rfl
  have m12 := PySem.W.mg_of X G a12
  have F13 := fun_mk (st := topS 26) l13 c13 k13
  have b13 := F13.binds (ps := [("coins" : Str), ("thing" : Str)]) fun _ _ _ _ _ _ us hl => match us, hl with | [_, _], _ => rfl
  have m13 := PySem.W.mg_of X G a13
  have F14 := fun_mk (st := topS 27) l14 c14 k14
  have b14 := F14.binds (ps := [("coins" : Str), ("row" : Str)]) fun _ _ _ _ _ _ us hl => match us, hl with | [_, _], _ => rfl
  have m14 := PySem.W.mg_of X G a14
  have F15 := fun_mk (st := topS 28) l15 c15 k15
  have b15 := F15.binds (ps := [("coins" : Str), ("purse" : Str), ("change" : Str)]) fun _ _ _ _ _ _ us hl => match us, hl with | [_, _, _], _ => rfl
  have m15 := PySem.W.mg_of X G a15
  have F16 := fun_mk (st := topS 29) l16 c16 k16
  have b16 := F16.binds (ps := [("coins" : Str), ("purse" : Str), ("row" : Str)]) fun _ _ _ _ _ _ us hl => match us, hl with | [_, _, _], _ => rfl
  have m16 := PySem.W.mg_of X G a16
  have F17 := fun_mk (st := topS 30) l17 c17 k17
  have b17 := F17.binds (ps := [("coins" : Str), ("purse" : Str), ("row" : Str)]) fun _ _ _ _ _ _ us hl => match us, hl with | [_, _, _], _ => rfl
  have m17 := PySem.W.mg_of X G a17
  have F18 := fun_mk (st := topS 31) l18 c18 k18
  have b18 := F18.binds (ps := [("coins" : Str), ("fees" : Str), ("row" : Str)]) fun _ _ _ _ _ _ us hl => match us, hl with | [_, _, _], _ => rfl
  have m18 := PySem.W.mg_of X G a18
  have F19 := fun_mk (st := topS 33) l19 c19 k19
  have b19 := F19.binds (ps := [("cell" : Str), ("turn" : Str)]) fun _ _ _ _ _ _ us hl => match us, hl with | [_, _], _ => rfl
  have m19 := PySem.W.mg_of X G a19
  have F20 := fun_mk (st := topS 34) l20 c20 k20
  have b20 := F20.binds (ps := [("deck" : Str), ("size" : Str)]) fun _ _ _ _ _ _ us hl => match us, hl with | [_, _], _ => rfl
  have m20 := PySem.W.mg_of X G a20
  have F21 := fun_mk (st := topS 35) l21 c21 k21
  have b21 := F21.binds (ps := [("deck" : Str), ("some" : Str)]) fun _ _ _ _ _ _ us hl => match us, hl with | [_, _], _ => rfl
  have m21 := PySem.W.mg_of X G a21
  have F22 := fun_mk (st := topS 36) l22 c22 k22
  have b22 := F22.binds (ps := [("thing" : Str)]) fun _ _ _ _ _ _ us hl => match us, hl with | [_], _ => rfl
  have m22 := PySem.W.mg_of X G a22
  have F23 := fun_mk (st := topS 37) l23 c23 k23
  have b23 := F23.binds (ps := [("told" : Str), ("due" : Str)]) fun _ _ _ _ _ _ us hl => match us, hl with | [_, _], _ => rfl
  have m23 := PySem.W.mg_of X G a23
  have F24 := fun_mk (st := topS 38) l24 c24 k24
  have b24 := F24.binds (ps := [("deck" : Str), ("at_most" : Str)]) fun _ _ _ _ _ _ us hl => match us, hl with | [_, _], _ => rfl
  have m24 := PySem.W.mg_of X G a24
  have F25 := fun_mk (st := topS 39) l25 c25 k25
  have b25 := F25.binds (ps := [("deck" : Str), ("coins_so" : Str), ("at_most" : Str)]) fun _ _ _ _ _ _ us hl => match us, hl with | [_, _, _], _ => rfl
  have m25 := PySem.W.mg_of X G a25
  have F26 := fun_mk (st := topS 40) l26 c26 k26
  have b26 := F26.binds (ps := [("coins_so" : Str), ("kind" : Str)]) fun _ _ _ _ _ _ us hl => match us, hl with | [_, _], _ => rfl
  have m26 := PySem.W.mg_of X G a26
  have F27 := fun_mk (st := topS 41) l27 c27 k27
  have b27 := F27.binds (ps := [("coins_so" : Str), ("purse" : Str), ("kind" : Str), ("times" : Str)]) fun _ _ _ _ _ _ us hl => match us, hl with | [_, _, _, _], _ => rfl
  have m27 := PySem.W.mg_of X G a27
  have F28 := fun_mk (st := topS 42) l28 c28 k28
  have b28 := F28.binds (ps := [("coins_so" : Str), ("purse" : Str), ("row" : Str)]) fun _ _ _ _ _ _ us hl => match us, hl with | [_, _, _], _ => rfl
  have m28 := PySem.W.mg_of X G a28
  have F29 := fun_mk (st := topS 43) l29 c29 k29
  have b29 := F29.binds (ps := [("coins_so" : Str), ("purse" : Str)]) fun _ _ _ _ _ _ us hl => match us, hl with | [_, _], _ => rfl
  have m29 := PySem.W.mg_of X G a29
  have F30 := fun_mk (st := topS 44) l30 c30 k30
  have b30 := F30.binds (ps := [("deck" : Str), ("coins_so" : Str), ("purse" : Str), ("at_most" : Str), ("far" : Str)]) fun _ _ _ _ _ _ us hl => match us, hl with | [_, _, _, _, _], _ => rfl
  have m30 := PySem.W.mg_of X G a30
  have F31 := fun_mk (st := topS 45) l31 c31 k31
  refine ⟨PySem.W.fnOf "law" "law" (defArgs (topS 45)) (defBody (topS 45)) (defScope (topS 45)) .none kV31 dc31 pm31 an31 cd31 ct31, fun s v => .of_eq rfl, fun base _ _ => ?_⟩
  have g_is_from : Cal l.prog w K mg base 1 "is_from" (spOf K 3 3 m_is_from) := cal_mk (ok_is_from F1 T ) m1 F1.kp b1
  have g_is_name : Cal l.prog w K mg base 1 "is_name" (spOf K 1 2 m_is_name) := cal_mk (ok_is_name F2 T ) m2 F2.kp b2
  have g_is_rising : Cal l.prog w K mg base 1 "is_rising" (spOf K 1 3 m_is_rising) := cal_mk (ok_is_rising F3 T ) m3 F3.kp b3
  have g_is_coin : Cal l.prog w K mg base 2 "is_coin" (spOf K 1 1 m_is_coin) := cal_mk (ok_is_coin F4 T g_is_name g_is_from) m4 F4.kp b4
  have g_are_coins : Cal l.prog w K mg base 3 "are_coins" (spOf K 1 8 m_are_coins) := cal_mk (ok_are_coins F5 T g_is_coin g_is_rising) m5 F5.kp b5
  have g_need_coins : Cal l.prog w K mg base 4 "need_coins" (spOf K 1 1 m_need_coins) := cal_mk (ok_need_coins F6 T g_are_coins) m6 F6.kp b6
  have g_is_stock : Cal l.prog w K mg base 2 "is_stock" (spOf K 2 3 m_is_stock) := cal_mk (ok_is_stock F7 T g_is_from) m7 F7.kp b7
  have g_need_purse : Cal l.prog w K mg base 5 "need_purse" (spOf K 2 2 m_need_purse) := cal_mk (ok_need_purse F8 T g_need_coins g_is_stock) m8 F8.kp b8
  have g_are_paid : Cal l.prog w K mg base 2 "are_paid" (spOf K 2 3 m_are_paid) := cal_mk (ok_are_paid F9 T g_is_from) m9 F9.kp b9
  have g_need_fees : Cal l.prog w K mg base 5 "need_fees" (spOf K 2 2 m_need_fees) := cal_mk (ok_need_fees F10 T g_need_coins g_are_paid) m10 F10.kp b10
  have g_place_of : Cal l.prog w K mg base 1 "place_of" (spOf K 2 4 m_place_of) := cal_mk (ok_place_of F11 T ) m11 F11.kp b11
  have g_is_change : Cal l.prog w K mg base 2 "is_change" (spOf K 2 3 m_is_change) := cal_mk (ok_is_change F12 T g_place_of g_is_from) m12 F12.kp b12
  have g_are_changes : Cal l.prog w K mg base 3 "are_changes" (spOf K 2 3 m_are_changes) := cal_mk (ok_are_changes F13 T g_is_change) m13 F13.kp b13
  have g_need_row : Cal l.prog w K mg base 4 "need_row" (spOf K 2 2 m_need_row) := cal_mk (ok_need_row F14 T g_are_changes) m14 F14.kp b14
  have g_changed : Cal l.prog w K mg base 2 "changed" (spOf K 3 8 m_changed) := cal_mk (ok_changed F15 T g_place_of) m15 F15.kp b15
  have g_done : Cal l.prog w K mg base 3 "done" (spOf K 3 4 m_done) := cal_mk (ok_done F16 T g_changed) m16 F16.kp b16
  have g_behind : Cal l.prog w K mg base 6 "behind" (spOf K 3 3 m_behind) := cal_mk (ok_behind F17 T g_need_purse g_need_row g_done) m17 F17.kp b17
  have g_cost : Cal l.prog w K mg base 6 "cost" (spOf K 3 5 m_cost) := cal_mk (ok_cost F18 T g_need_fees g_need_row g_place_of) m18 F18.kp b18
  have g__law_deck : Cal l.prog w K mg base 1 "_law_deck" (spOf K 2 2 m__law_deck) := cal_mk (ok__law_deck F19 T ) m19 F19.kp b19
  have g__law_pick : Cal l.prog w K mg base 1 "_law_pick" (spOf K 2 4 m__law_pick) := cal_mk (ok__law_pick F20 T ) m20 F20.kp b20
  have g__law_one : Cal l.prog w K mg base 2 "_law_one" (spOf K 2 2 m__law_one) := cal_mk (ok__law_one F21 T g__law_pick) m21 F21.kp b21
  have g__law_sort : Cal l.prog w K mg base 1 "_law_sort" (spOf K 1 1 m__law_sort) := cal_mk (ok__law_sort F22 T ) m22 F22.kp b22
  have g__law_same : Cal l.prog w K mg base 22 "_law_same" (spOf K 2 4 (m__law_same 20)) := cal_mk (ok__law_same F23 m23 b23 T g__law_sort 20) m23 F23.kp b23
  have g__law_coins : Cal l.prog w K mg base 3 "_law_coins" (spOf K 2 8 m__law_coins) := cal_mk (ok__law_coins F24 T g__law_pick g__law_one) m24 F24.kp b24
  have g__law_purse : Cal l.prog w K mg base 3 "_law_purse" (spOf K 3 5 m__law_purse) := cal_mk (ok__law_purse F25 T g__law_one g__law_pick) m25 F25.kp b25
  have g__law_at : Cal l.prog w K mg base 1 "_law_at" (spOf K 2 3 m__law_at) := cal_mk (ok__law_at F26 T ) m26 F26.kp b26
  have g__law_changed : Cal l.prog w K mg base 2 "_law_changed" (spOf K 4 8 m__law_changed) := cal_mk (ok__law_changed F27 T g__law_at) m27 F27.kp b27
  have g__law_done : Cal l.prog w K mg base 3 "_law_done" (spOf K 3 5 m__law_done) := cal_mk (ok__law_done F28 T g__law_changed) m28 F28.kp b28
  have g__law_singles : Cal l.prog w K mg base 3 "_law_singles" (spOf K 2 5 m__law_singles) := cal_mk (ok__law_singles F29 T g__law_changed) m29 F29.kp b29
  have g__law_row : Cal l.prog w K mg base 4 "_law_row" (spOf K 5 12 m__law_row) := cal_mk (ok__law_row F30 T g__law_pick g__law_singles g__law_one g__law_changed) m30 F30.kp b30
  exact ok_law F31 T g__law_deck g__law_coins g__law_purse g__law_one g__law_row g__law_pick g__law_same g_behind g__law_done g__law_at g_cost
end DV

open PySem PySem.W PyProof.Rows in
set_option maxRecDepth 100000 in
set_option maxHeartbeats 0 in
theorem PySem.Challenge.cw_coinsteps_k02_whole_rows_of_changes_holds : PySem.Challenge.rw_coinsteps_k02_whole_rows_of_changes.Holds := by
  w_on; o_law; k_head; (case hw => w_witness2)
  k_fill
  refine L2.walk_ofB (l := PySem.Challenge.rw_coinsteps_k02_whole_rows_of_changes) (n := 63) (k := 23) (x := "script") (CX := fun _ => L2.CX0) (sp := fun w => DV.spOf _ 1 16 DV.m_law) rfl (by decide) rfl ⟨rfl, by decide, by decide⟩ (fun w h Y => PySem.W.kIn_of Y) ?F (fun _ _ a ns hl hb _ hS => DV.law_start hS (DV.e_law ns (Nat.le_trans hl (by decide))) (by decide)) (fun _ _ _ _ _ h => h)
  case F =>
    intro w mg fa h KX G hmg
    refine' DV.all_mk KX G hmg ?a1 ?l1 ?c1 ?k1 ?a2 ?l2 ?c2 ?k2 ?a3 ?l3 ?c3 ?k3 ?a4 ?l4 ?c4 ?k4 ?a5 ?l5 ?c5 ?k5 ?a6 ?l6 ?c6 ?k6 ?a7 ?l7 ?c7 ?k7 ?a8 ?l8 ?c8 ?k8 ?a9 ?l9 ?c9 ?k9 ?a10 ?l10 ?c10 ?k10 ?a11 ?l11 ?c11 ?k11 ?a12 ?l12 ?c12 ?k12 ?a13 ?l13 ?c13 ?k13 ?a14 ?l14 ?c14 ?k14 ?a15 ?l15 ?c15 ?k15 ?a16 ?l16 ?c16 ?k16 ?a17 ?l17 ?c17 ?k17 ?a18 ?l18 ?c18 ?k18 ?a19 ?l19 ?c19 ?k19 ?a20 ?l20 ?c20 ?k20 ?a21 ?l21 ?c21 ?k21 ?a22 ?l22 ?c22 ?k22 ?a23 ?l23 ?c23 ?k23 ?a24 ?l24 ?c24 ?k24 ?a25 ?l25 ?c25 ?k25 ?a26 ?l26 ?c26 ?k26 ?a27 ?l27 ?c27 ?k27 ?a28 ?l28 ?c28 ?k28 ?a29 ?l29 ?c29 ?k29 ?a30 ?l30 ?c30 ?k30 ?a31 ?l31 ?c31 ?k31 ?z_isinstance ?z_int ?z_bool ?z_str ?z_len ?q_LETTERS ?z_all ?z_zip ?z_tuple ?q_MOST_KINDS ?z_range ?q_MOST_COINS ?q_MOST_FEE ?z_enumerate ?q_MOST_TIMES ?z_list ?q_MOST_CHANGES ?z_abs ?z_sum ?z_sorted ?z_min ?z_max
    (case a1 => k_is)
    (case l1 => k_is)
    (case c1 => k_is)
    (case k1 => k_is)
    (case a2 => k_is)
    (case l2 => k_is)
    (case c2 => k_is)
    (case k2 => k_is)
    (case a3 => k_is)
    (case l3 => k_is)
    (case c3 => k_is)
    (case k3 => k_is)
    (case a4 => k_is)
    (case l4 => k_is)
    (case c4 => k_is)
    (case k4 => k_is)
    (case a5 => k_is)
    (case l5 => k_is)
    (case c5 => k_is)
    (case k5 => k_is)
    (case a6 => k_is)
    (case l6 => k_is)
    (case c6 => k_is)
    (case k6 => k_is)
    (case a7 => k_is)
    (case l7 => k_is)
    (case c7 => k_is)
    (case k7 => k_is)
    (case a8 => k_is)
    (case l8 => k_is)
    (case c8 => k_is)
    (case k8 => k_is)
    (case a9 => k_is)
    (case l9 => k_is)
    (case c9 => k_is)
    (case k9 => k_is)
    (case a10 => k_is)
    (case l10 => k_is)
    (case c10 => k_is)
    (case k10 => k_is)
    (case a11 => k_is)
    (case l11 => k_is)
    (case c11 => k_is)
    (case k11 => k_is)
    (case a12 => k_is)
    (case l12 => k_is)
    (case c12 => k_is)
    (case k12 => k_is)
    (case a13 => k_is)
    (case l13 => k_is)
    (case c13 => k_is)
    (case k13 => k_is)
    (case a14 => k_is)
    (case l14 => k_is)
    (case c14 => k_is)
    (case k14 => k_is)
    (case a15 => k_is)
    (case l15 => k_is)
    (case c15 => k_is)
    (case k15 => k_is)
    (case a16 => k_is)
    (case l16 => k_is)
    (case c16 => k_is)
    (case k16 => k_is)
    (case a17 => k_is)
    (case l17 => k_is)
    (case c17 => k_is)
    (case k17 => k_is)
    (case a18 => k_is)
    (case l18 => k_is)
    (case c18 => k_is)
    (case k18 => k_is)
    (case a19 => k_is)
    (case l19 => k_is)
    (case c19 => k_is)
    (case k19 => k_is)
    (case a20 => k_is)
    (case l20 => k_is)
    (case c20 => k_is)
    (case k20 => k_is)
    (case a21 => k_is)
    (case l21 => k_is)
    (case c21 => k_is)
    (case k21 => k_is)
    (case a22 => k_is)
    (case l22 => k_is)
    (case c22 => k_is)
    (case k22 => k_is)
    (case a23 => k_is)
    (case l23 => k_is)
    (case c23 => k_is)
    (case k23 => k_is)
    (case a24 => k_is)
    (case l24 => k_is)
    (case c24 => k_is)
    (case k24 => k_is)
    (case a25 => k_is)
    (case l25 => k_is)
    (case c25 => k_is)
    (case k25 => k_is)
    (case a26 => k_is)
    (case l26 => k_is)
    (case c26 => k_is)
    (case k26 => k_is)
    (case a27 => k_is)
    (case l27 => k_is)
    (case c27 => k_is)
    (case k27 => k_is)
    (case a28 => k_is)
    (case l28 => k_is)
    (case c28 => k_is)
    (case k28 => k_is)
    (case a29 => k_is)
    (case l29 => k_is)
    (case c29 => k_is)
    (case k29 => k_is)
    (case a30 => k_is)
    (case l30 => k_is)
    (case c30 => k_is)
    (case k30 => k_is)
    (case a31 => k_is)
    (case l31 => k_is)
    (case c31 => k_is)
    (case k31 => k_is)
    (case z_isinstance => k_is)
    (case z_int => k_is)
    (case z_bool => k_is)
    (case z_str => k_is)
    (case z_len => k_is)
    (case q_LETTERS => k_is)
    (case z_all => k_is)
    (case z_zip => k_is)
    (case z_tuple => k_is)
    (case q_MOST_KINDS => k_is)
    (case z_range => k_is)
    (case q_MOST_COINS => k_is)
    (case q_MOST_FEE => k_is)
    (case z_enumerate => k_is)
    (case q_MOST_TIMES => k_is)
    (case z_list => k_is)
    (case q_MOST_CHANGES => k_is)
    (case z_abs => k_is)
    (case z_sum => k_is)
    (case z_sorted => k_is)
    (case z_min => k_is)
    (case z_max => k_is)
