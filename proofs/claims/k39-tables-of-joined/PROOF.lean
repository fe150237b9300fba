import PyProof.Rows.All
import HandS.ForMost
import HandS.Wide
import HandS.IsInst
import HandS.TupAny
import HandS.TupMul
import HandS.Style
import HandS.Defaults
import HandS.Deep
import HandS.More
import HandS.Flow
import HandS.TryOnly
import PyProof.StrOps2
import PyProof.ListStr
import KE.GoesZip
import KE.GoesMore
import KE.GoesEnum
import HandS.WideBits
import HandS.EndBits
import PySem.Challenge.RW_wholecircuits_k39_whole_tables_of_joined
set_option Elab.async false
set_option linter.all false
set_option maxRecDepth 100000
set_option maxHeartbeats 4000000
/-! ## A: data, frames, the relation of frames and heaps -/
namespace Ek
open PySem L2

abbrev D := PyData
/-- what an expression hands on: data that nobody changes any more, a list of one's own, the script -/
inductive R where
  | d (x : D)
  | own (xs : List D)
  | scr (ns : List Int)
abbrev Sl := Option R
abbrev S := List Sl

section
variable (K : PySem.W.Frag) (G : Hp)
mutual
def Tp : D → V → Prop
  | .none, v => v = .non
  | .bool b, v => v = .bl b
  | .int i, v => v = .int i
  | .str x, v => v = .str x
  | .list ds, v => ∃ a vs, v = .ref a ∧ G a = some (.lst vs) ∧ TpL ds vs
  | .tuple ds, v => ∃ a vs, v = .ref a ∧ SqT K G a vs ∧ TpL ds vs
  | .dict _, _ => False
def TpL : List D → List V → Prop
  | [], vs => vs = []
  | d :: ds, vs => ∃ v r, vs = v :: r ∧ Tp d v ∧ TpL ds r
end
end

/-- all of G stands in H -/
def Sub (G H : Hp) : Prop := ∀ a o, G a = some o → H a = some o
theorem Sub.refl (G : Hp) : Sub G G := fun _ _ h => h
theorem Sub.trans {G H I : Hp} (a : Sub G H) (b : Sub H I) : Sub G I := fun x o h => b x o (a x o h)
theorem Sub.new {G : Hp} {p : Addr} {o : HO} (h : G p = none) : Sub G (upd G p o) := fun a u e => by
  unfold upd; split
  · next q => subst q; rw [h] at e; cases e
  · exact e
theorem Sub.over {G H : Hp} {p : Addr} {o : HO} (s : Sub G H) (h : G p = none) : Sub G (upd H p o) := fun a u e => by
  unfold upd; split
  · next q => subst q; rw [h] at e; cases e
  · exact s a u e
theorem Sub.upd2 {G H : Hp} {p : Addr} {o : HO} (s : Sub G H) : Sub (upd G p o) (upd H p o) := fun a u e => by
  unfold L2.upd at *
  split
  · next q => subst q; rw [if_pos rfl] at e; exact e
  · next q => rw [if_neg q] at e; exact s a u e
theorem Sub.at {G H : Hp} {p : Addr} {o : HO} (s : Sub G H) (h : H p = some o) : Sub (upd G p o) H := fun a u e => by
  unfold L2.upd at e
  split at e
  · next q => subst q; cases e; exact h
  · exact s a u e
theorem Sub.rd {G H : Hp} (s : Sub G H) {a : Addr} {u : HO} (h : Rd G a u) : Rd H a u := by
  rcases h with h | ⟨o, h⟩
  · exact .inl (s a _ h)
  · exact .inr ⟨o, s a _ h⟩
theorem Sub.sqt {K : PySem.W.Frag} {G H : Hp} (s : Sub G H) {a : Addr} {xs : List V} (h : SqT K G a xs) : SqT K H a xs := by
  rcases h with h | h
  · exact .inl (s.rd h)
  · exact .inr h
theorem Sub.sql {K : PySem.W.Frag} {G H : Hp} (s : Sub G H) {a : Addr} {xs : List V} (h : SqL K G a xs) : SqL K H a xs := by
  rcases h with h | h
  · exact .inl (s.rd h)
  · exact .inr h
theorem Sub.none {G H : Hp} (s : Sub G H) {a : Addr} (h : H a = .none) : G a = .none := by
  cases e : G a with
  | none => rfl
  | some o => rw [s a o e] at h; cases h

section
variable {K : PySem.W.Frag} {G G' H : Hp}
mutual
theorem Tp.mono (s : Sub G G') : ∀ (x : D) (v : V), Tp K G x v → Tp K G' x v
  | .none, _, h => by simpa [Tp] using h
  | .bool _, _, h => by simpa [Tp] using h
  | .int _, _, h => by simpa [Tp] using h
  | .str _, _, h => by simpa [Tp] using h
  | .list ds, v, h => by
    simp only [Tp] at h ⊢
    obtain ⟨a, vs, e, g, t⟩ := h
    exact ⟨a, vs, e, s _ _ g, TpL.mono s ds vs t⟩
  | .tuple ds, v, h => by
    simp only [Tp] at h ⊢
    obtain ⟨a, vs, e, g, t⟩ := h
    exact ⟨a, vs, e, s.sqt g, TpL.mono s ds vs t⟩
  | .dict _, _, h => by simp [Tp] at h
theorem TpL.mono (s : Sub G G') : ∀ (xs : List D) (vs : List V), TpL K G xs vs → TpL K G' xs vs
  | [], vs, h => by simpa [TpL] using h
  | d :: ds, vs, h => by
    simp only [TpL] at h ⊢
    obtain ⟨v, r, e, t, u⟩ := h
    exact ⟨v, r, e, Tp.mono s d v t, TpL.mono s ds r u⟩
end
theorem TpL.nil : TpL K G [] [] := by simp [TpL]
theorem TpL.cons {d : D} {v : V} {ds : List D} {vs : List V} (h : Tp K G d v) (t : TpL K G ds vs) : TpL K G (d :: ds) (v :: vs) := by
  simp only [TpL]; exact ⟨v, vs, rfl, h, t⟩
theorem TpL.length : ∀ {xs : List D} {vs : List V}, TpL K G xs vs → vs.length = xs.length
  | [], vs, h => by simp [TpL] at h; subst h; rfl
  | d :: ds, vs, h => by
    simp only [TpL] at h
    obtain ⟨v, r, rfl, _, u⟩ := h
    simp [u.length]
theorem TpL.append : ∀ {xs ys : List D} {vs ws : List V}, TpL K G xs vs → TpL K G ys ws → TpL K G (xs ++ ys) (vs ++ ws)
  | [], ys, vs, ws, h, k => by simp [TpL] at h; subst h; exact k
  | d :: ds, ys, vs, ws, h, k => by
    simp only [TpL] at h
    obtain ⟨v, r, rfl, t, u⟩ := h
    exact .cons t (u.append k)
theorem TpL.get : ∀ {xs : List D} {vs : List V} {i : Nat} {x : D}, TpL K G xs vs → xs[i]? = some x → ∃ v, vs[i]? = some v ∧ Tp K G x v
  | [], _, _, _, _, e => by simp at e
  | d :: ds, vs, 0, x, h, e => by
    simp only [TpL] at h
    obtain ⟨v, r, rfl, t, _⟩ := h
    simp at e; subst e
    exact ⟨v, rfl, t⟩
  | d :: ds, vs, i + 1, x, h, e => by
    simp only [TpL] at h
    obtain ⟨v, r, rfl, _, u⟩ := h
    simpa using u.get (by simpa using e)
theorem TpL.take : ∀ {xs : List D} {vs : List V} (n : Nat), TpL K G xs vs → TpL K G (xs.take n) (vs.take n)
  | _, _, 0, _ => by simp [TpL]
  | [], vs, n + 1, h => by simp [TpL] at h; subst h; simp [TpL]
  | d :: ds, vs, n + 1, h => by
    simp only [TpL] at h
    obtain ⟨v, r, rfl, t, u⟩ := h
    exact .cons t (u.take n)
theorem TpL.drop : ∀ {xs : List D} {vs : List V} (n : Nat), TpL K G xs vs → TpL K G (xs.drop n) (vs.drop n)
  | _, _, 0, h => h
  | [], vs, n + 1, h => by simp [TpL] at h; subst h; simp [TpL]
  | d :: ds, vs, n + 1, h => by
    simp only [TpL] at h
    obtain ⟨v, r, rfl, _, u⟩ := h
    exact u.drop n
theorem TpL.set {x : D} {y : V} (p : Tp K G x y) : ∀ {xs : List D} {vs : List V} (i : Nat), TpL K G xs vs → TpL K G (xs.set i x) (vs.set i y)
  | [], vs, i, h => by simp [TpL] at h; subst h; simp [TpL]
  | d :: ds, vs, 0, h => by
    simp only [TpL] at h
    obtain ⟨v, r, rfl, _, u⟩ := h
    exact .cons p u
  | d :: ds, vs, i + 1, h => by
    simp only [TpL] at h
    obtain ⟨v, r, rfl, t, u⟩ := h
    exact .cons t (u.set p i)
theorem TpL.reverse : ∀ {xs : List D} {vs : List V}, TpL K G xs vs → TpL K G xs.reverse vs.reverse
  | [], vs, h => by simp [TpL] at h; subst h; simp [TpL]
  | d :: ds, vs, h => by
    simp only [TpL] at h
    obtain ⟨v, r, rfl, t, u⟩ := h
    rw [List.reverse_cons, List.reverse_cons]
    exact u.reverse.append (.cons t .nil)
theorem TpL.dropLast {xs : List D} {vs : List V} (h : TpL K G xs vs) : TpL K G xs.dropLast vs.dropLast := by
  rw [List.dropLast_eq_take, List.dropLast_eq_take, h.length]
  exact h.take _
theorem TpL.eraseIdx {xs : List D} {vs : List V} (i : Nat) (h : TpL K G xs vs) : TpL K G (xs.eraseIdx i) (vs.eraseIdx i) := by
  rw [List.eraseIdx_eq_take_drop_succ, List.eraseIdx_eq_take_drop_succ]
  exact (h.take i).append (h.drop (i + 1))
theorem TpL.rep {xs : List D} {vs : List V} (h : TpL K G xs vs) : ∀ n : Nat, TpL K G (List.replicate n xs).flatten (List.replicate n vs).flatten
  | 0 => by simp [TpL]
  | n + 1 => by
    rw [List.replicate_succ, List.replicate_succ, List.flatten_cons, List.flatten_cons]
    exact h.append (TpL.rep h n)
theorem TpL.nil_iff {xs : List D} {vs : List V} (h : TpL K G xs vs) : vs = [] ↔ xs = [] := by
  have := h.length
  constructor
  · intro e; subst e; exact List.eq_nil_of_length_eq_zero this.symm
  · intro e; subst e; exact List.eq_nil_of_length_eq_zero this
theorem TpL.ints : ∀ ns : List Int, TpL K G (ns.map .int) (ns.map V.int)
  | [] => .nil
  | n :: r => .cons (by simp [Tp]) (TpL.ints r)
theorem TpL.of_ints : ∀ {ns : List Int} {vs : List V}, TpL K G (ns.map .int) vs → vs = ns.map V.int
  | [], vs, h => by simpa [TpL] using h
  | n :: r, vs, h => by
    simp only [List.map_cons, TpL] at h
    obtain ⟨v, w, rfl, t, u⟩ := h
    rw [TpL.of_ints u]
    simp [Tp] at t
    rw [t]; rfl
mutual
theorem Tp.dp : ∀ (x : D) (v : V), Tp K G x v → Dp K G v x
  | .none, _, h => by simp [Tp] at h; subst h; exact .non
  | .bool _, _, h => by simp [Tp] at h; subst h; exact .bl _
  | .int _, _, h => by simp [Tp] at h; subst h; exact .int _
  | .str _, _, h => by simp [Tp] at h; subst h; exact .str _
  | .list ds, v, h => by
    simp only [Tp] at h
    obtain ⟨a, vs, rfl, g, t⟩ := h
    exact .lst (.of g) (TpL.dp ds vs t)
  | .tuple ds, v, h => by
    simp only [Tp] at h
    obtain ⟨a, vs, rfl, g, t⟩ := h
    exact .tup g (TpL.dp ds vs t)
  | .dict _, _, h => by simp [Tp] at h
theorem TpL.dp : ∀ (xs : List D) (vs : List V), TpL K G xs vs → DpAll K G vs xs
  | [], vs, h => by simp [TpL] at h; subst h; exact .nil
  | d :: ds, vs, h => by
    simp only [TpL] at h
    obtain ⟨v, r, rfl, t, u⟩ := h
    exact .cons (Tp.dp d v t) (TpL.dp ds r u)
end
end

/-- the data grow: what is new was not protected -/
def Ext (P0 G G' : Hp) : Prop := Sub G G' ∧ ∀ a o, G' a = some o → G a = some o ∨ P0 a = none
theorem Ext.refl {P0 G : Hp} : Ext P0 G G := ⟨.refl _, fun _ _ h => .inl h⟩
theorem Ext.trans {P0 G G1 G2 : Hp} (a : Ext P0 G G1) (b : Ext P0 G1 G2) : Ext P0 G G2 :=
  ⟨a.1.trans b.1, fun x o h => (b.2 x o h).elim (a.2 x o) .inr⟩
theorem Ext.upd {P0 G : Hp} {p : Addr} {o : HO} (h : G p = none) (q : P0 p = none) : Ext P0 G (upd G p o) :=
  ⟨.new h, fun a u e => by
    unfold L2.upd at e
    split at e
    · next z => subst z; exact .inr q
    · exact .inl e⟩

/-- the frame s stands in the slots σ, its lists in H -/
structure Sim (K : PySem.W.Frag) (P0 G : Hp) (s : S) (σ : St) (H : Hp) : Prop where
  len : s.length ≤ σ.length
  prot : Sub P0 H
  fro : Sub G H
  dat : ∀ (i : Nat) x, s[i]? = some (some (.d x)) → ∃ v, σ[i]? = some (some v) ∧ Tp K G x v
  own : ∀ (i : Nat) xs, s[i]? = some (some (.own xs)) → ∃ a vs, σ[i]? = some (some (.ref a)) ∧ G a = none ∧ P0 a = none ∧ H a = some (.lst vs) ∧ TpL K G xs vs
  scr : ∀ (i : Nat) ns, s[i]? = some (some (.scr ns)) → ∃ a, σ[i]? = some (some (.ref a)) ∧ SqL K G a (ns.map V.int)
  sep : ∀ (i j : Nat) xs ys a, s[i]? = some (some (.own xs)) → s[j]? = some (some (.own ys)) → σ[i]? = some (some (.ref a)) → σ[j]? = some (some (.ref a)) → i = j

/-- a result stands as v -/
def RR (K : PySem.W.Frag) (P0 G : Hp) (s : S) (σ : St) (H : Hp) : R → V → Prop
  | .d x, v => Tp K G x v
  | .own xs, v => ∃ a vs, v = .ref a ∧ G a = none ∧ P0 a = none ∧ H a = some (.lst vs) ∧ TpL K G xs vs ∧ ∀ (i : Nat) ys, s[i]? = some (some (.own ys)) → σ[i]? ≠ some (some (.ref a))
  | .scr ns, v => ∃ a, v = .ref a ∧ SqL K G a (ns.map V.int)

/-- data whose outmost object is read in H -/
def Tq (K : PySem.W.Frag) (G H : Hp) : D → V → Prop
  | .list ds, v => ∃ a vs, v = .ref a ∧ H a = some (.lst vs) ∧ TpL K G ds vs
  | x, v => Tp K G x v

section
variable {K : PySem.W.Frag} {P0 G G' H : Hp} {s : S} {σ : St}
theorem Tp.tq (z : Sub G H) {x : D} {v : V} (h : Tp K G x v) : Tq K G H x v := by
  cases x with
  | list ds =>
    simp only [Tp] at h
    obtain ⟨a, vs, e, g, t⟩ := h
    exact ⟨a, vs, e, z _ _ g, t⟩
  | _ => exact h
theorem Tq.tp (z : Sub G H) {x : D} {v : V} (h : Tq K G H x v) : Tp K H x v := by
  cases x with
  | list ds =>
    obtain ⟨a, vs, e, g, t⟩ := h
    simp only [Tp]
    exact ⟨a, vs, e, g, TpL.mono z _ _ t⟩
  | _ => exact Tp.mono z _ _ h
theorem Sim.fresh (h : Sim K P0 G s σ H) {p : Addr} (hp : H p = none) : G p = none ∧ P0 p = none := ⟨h.fro.none hp, h.prot.none hp⟩
/-- a new object, not (yet) among the data -/
theorem Sim.alloc (h : Sim K P0 G s σ H) {p : Addr} {o : HO} (hp : H p = none) : Sim K P0 G s σ (upd H p o) where
  len := h.len
  prot := h.prot.over (h.prot.none hp)
  fro := h.fro.over (h.fro.none hp)
  dat := h.dat
  own := fun i xs e => by
    obtain ⟨a, vs, e1, g, q, hh, t⟩ := h.own i xs e
    refine ⟨a, vs, e1, g, q, ?_, t⟩
    rw [upd_ne (ne_of_none hh hp)]; exact hh
  scr := h.scr
  sep := h.sep
/-- a new object among the data -/
theorem Sim.data (h : Sim K P0 G s σ H) {p : Addr} {o : HO} (hp : H p = none) : Sim K P0 (upd G p o) s σ (upd H p o) where
  len := h.len
  prot := h.prot.over (h.prot.none hp)
  fro := h.fro.upd2
  dat := fun i x e => by
    obtain ⟨v, e1, t⟩ := h.dat i x e
    exact ⟨v, e1, Tp.mono (.new (h.fro.none hp)) _ _ t⟩
  own := fun i xs e => by
    obtain ⟨a, vs, e1, g, q, hh, t⟩ := h.own i xs e
    have ne := ne_of_none hh hp
    refine ⟨a, vs, e1, ?_, q, ?_, TpL.mono (.new (h.fro.none hp)) _ _ t⟩
    · rw [upd_ne ne]; exact g
    · rw [upd_ne ne]; exact hh
  scr := fun i ns e => by
    obtain ⟨a, e1, q⟩ := h.scr i ns e
    exact ⟨a, e1, (Sub.new (h.fro.none hp)).sql q⟩
  sep := h.sep
theorem Sim.ext_data (h : Sim K P0 G s σ H) {p : Addr} {o : HO} (hp : H p = none) : Ext P0 G (upd G p o) := .upd (h.fro.none hp) (h.prot.none hp)
theorem getElem?_set_some {α : Type} {l : List α} {i j : Nat} {x y : α} (h : (l.set i x)[j]? = some y) : (i = j ∧ y = x) ∨ (i ≠ j ∧ l[j]? = some y) := by
  by_cases e : i = j
  · subst e
    rw [List.getElem?_set] at h
    simp at h
    exact .inl ⟨rfl, h.2.symm⟩
  · rw [List.getElem?_set_ne e] at h
    exact .inr ⟨e, h⟩
/-- a list that stands alone in H becomes data -/
theorem Sim.froze (h : Sim K P0 G s σ H) {a : Addr} {vs : List V} (ha : H a = some (.lst vs)) (hG : G a = none) (hs : ∀ (i : Nat) ys, s[i]? = some (some (.own ys)) → σ[i]? ≠ some (some (.ref a))) :
    Sim K P0 (upd G a (.lst vs)) s σ H where
  len := h.len
  prot := h.prot
  fro := h.fro.at ha
  dat := fun i x e => by
    obtain ⟨v, e1, t⟩ := h.dat i x e
    exact ⟨v, e1, Tp.mono (.new hG) _ _ t⟩
  own := fun i xs e => by
    obtain ⟨b, ws, e1, g, q, hh, t⟩ := h.own i xs e
    refine ⟨b, ws, e1, ?_, q, hh, TpL.mono (.new hG) _ _ t⟩
    rw [upd_ne]
    · exact g
    · rintro rfl; exact hs i xs e e1
  scr := fun i ns e => by
    obtain ⟨a, e1, q⟩ := h.scr i ns e
    exact ⟨a, e1, (Sub.new hG).sql q⟩
  sep := h.sep
theorem RR.froze (h : Sim K P0 G s σ H) {xs : List D} {v : V} (r : RR K P0 G s σ H (.own xs) v) :
    ∃ G', Ext P0 G G' ∧ Sim K P0 G' s σ H ∧ Tp K G' (.list xs) v := by
  obtain ⟨a, vs, rfl, g, q, hh, t, n⟩ := r
  refine ⟨upd G a (.lst vs), .upd g q, h.froze hh g n, ?_⟩
  simp only [Tp]
  exact ⟨a, vs, rfl, upd_same, TpL.mono (.new g) _ _ t⟩
/-- a slot forgotten -/
theorem Sim.less {s' : S} (h : Sim K P0 G s σ H) (hl : s'.length ≤ s.length) (l : ∀ (i : Nat) r, s'[i]? = some (some r) → s[i]? = some (some r)) : Sim K P0 G s' σ H :=
  ⟨Nat.le_trans hl h.len, h.prot, h.fro, fun i x e => h.dat i x (l i _ e), fun i x e => h.own i x (l i _ e), fun i x e => h.scr i x (l i _ e), fun i j xs ys a e e' => h.sep i j xs ys a (l i _ e) (l j _ e')⟩
/-- a slot's own list becomes data -/
theorem Sim.frozeSlot (h : Sim K P0 G s σ H) {i : Nat} {xs : List D} (e : s[i]? = some (some (.own xs))) :
    ∃ v G', σ[i]? = some (some v) ∧ Ext P0 G G' ∧ Sim K P0 G' (s.set i (some (.d (.list xs)))) σ H ∧ Tp K G' (.list xs) v := by
  obtain ⟨a, vs, e1, g, q, hh, t⟩ := h.own i xs e
  have h0 : Sim K P0 G (s.set i none) σ H := h.less (by simp) fun j r ej => by
    rcases getElem?_set_some ej with ⟨_, z⟩ | ⟨_, z⟩
    · cases z
    · exact z
  have h1 : Sim K P0 (upd G a (.lst vs)) (s.set i none) σ H := h0.froze hh g fun j ys ej hj => by
    rcases getElem?_set_some ej with ⟨_, z⟩ | ⟨ne, z⟩
    · cases z
    · exact ne (h.sep i j xs ys a e z e1 hj)
  have t' : Tp K (upd G a (.lst vs)) (.list xs) (.ref a) := by
    simp only [Tp]
    exact ⟨a, vs, rfl, upd_same, TpL.mono (.new g) _ _ t⟩
  have get : ∀ (j : Nat) r, (s.set i (some (.d (.list xs))))[j]? = some (some r) → (j = i ∧ r = .d (.list xs)) ∨ (s.set i none)[j]? = some (some r) := fun j r ej => by
    rcases getElem?_set_some ej with ⟨z1, z⟩ | ⟨ne, z⟩
    · cases z; exact .inl ⟨z1.symm, rfl⟩
    · exact .inr (by rw [List.getElem?_set_ne ne]; exact z)
  refine ⟨.ref a, _, e1, .upd g q, ⟨by have := h.len; simpa using this, h1.prot, h1.fro, fun j x ej => ?_, fun j ys ej => ?_, fun j x ej => ?_, fun j k ys zs b ej ek => ?_⟩, t'⟩
  · rcases get j _ ej with ⟨rfl, z⟩ | z
    · cases z; exact ⟨_, e1, t'⟩
    · exact h1.dat j x z
  · rcases get j _ ej with ⟨_, z⟩ | z
    · cases z
    · exact h1.own j ys z
  · rcases get j _ ej with ⟨_, z⟩ | z
    · cases z
    · exact h1.scr j x z
  · rcases get j _ ej with ⟨_, z⟩ | z
    · cases z
    · rcases get k _ ek with ⟨_, z'⟩ | z'
      · cases z'
      · exact h1.sep j k ys zs b z z'
/-- a slot's own list is written -/
theorem Sim.write (h : Sim K P0 G s σ H) {i : Nat} {xs ys : List D} {a : Addr} {ws : List V} (e : s[i]? = some (some (.own xs))) (ea : σ[i]? = some (some (.ref a))) (t : TpL K G ys ws) :
    Sim K P0 G (s.set i (some (.own ys))) σ (upd H a (.lst ws)) := by
  obtain ⟨a', vs, e1, g, q, hh, t0⟩ := h.own i xs e
  rw [ea] at e1; cases e1
  have get : ∀ (j : Nat) r, (s.set i (some (.own ys)))[j]? = some (some r) → (j = i ∧ r = .own ys) ∨ (j ≠ i ∧ s[j]? = some (some r)) := fun j r ej => by
    rcases getElem?_set_some ej with ⟨z1, z⟩ | ⟨ne, z⟩
    · cases z; exact .inl ⟨z1.symm, rfl⟩
    · exact .inr ⟨fun z => ne z.symm, z⟩
  refine ⟨by have := h.len; simpa using this, h.prot.over q, h.fro.over g, fun j x ej => ?_, fun j zs ej => ?_, fun j x ej => ?_, fun j k ys' zs b ej ek f1 f2 => ?_⟩
  · rcases get j _ ej with ⟨_, z⟩ | ⟨_, z⟩
    · cases z
    · exact h.dat j x z
  · rcases get j _ ej with ⟨rfl, z⟩ | ⟨ne, z⟩
    · cases z
      exact ⟨a, ws, ea, g, q, upd_same, t⟩
    · obtain ⟨b, us, e2, g2, q2, h2, t2⟩ := h.own j zs z
      refine ⟨b, us, e2, g2, q2, ?_, t2⟩
      rw [upd_ne]
      · exact h2
      · rintro rfl; exact ne (h.sep j i zs xs b z e e2 ea)
  · rcases get j _ ej with ⟨_, z⟩ | ⟨_, z⟩
    · cases z
    · exact h.scr j x z
  · rcases get j _ ej with ⟨rfl, z⟩ | ⟨ne, z⟩
    · rcases get k _ ek with ⟨rfl, z'⟩ | ⟨ne', z'⟩
      · rfl
      · exact h.sep j k xs zs b e z' f1 f2
    · rcases get k _ ek with ⟨rfl, z'⟩ | ⟨ne', z'⟩
      · exact h.sep j k ys' xs b z e f1 f2
      · exact h.sep j k ys' zs b z z' f1 f2
/-- a result is stored in a slot -/
theorem Sim.store (h : Sim K P0 G s σ H) {r : R} {v : V} (i : Nat) (q : RR K P0 G s σ H r v) : Sim K P0 G (s.set i (some r)) (σ.set i (some v)) H := by
  have hl := h.len
  have get : ∀ (j : Nat) u, (s.set i (some r))[j]? = some (some u) → (j = i ∧ u = r ∧ (σ.set i (some v))[j]? = some (some v)) ∨ (j ≠ i ∧ s[j]? = some (some u) ∧ (σ.set i (some v))[j]? = σ[j]?) := fun j u ej => by
    rcases getElem?_set_some ej with ⟨z1, z⟩ | ⟨ne, z⟩
    · cases z
      subst z1
      have hi : i < s.length := by
        have := (List.getElem?_eq_some_iff.mp ej).1
        simpa using this
      refine .inl ⟨rfl, rfl, ?_⟩
      rw [List.getElem?_set_self (by omega)]
    · exact .inr ⟨fun z => ne z.symm, z, List.getElem?_set_ne ne⟩
  refine ⟨by simpa using hl, h.prot, h.fro, fun j x ej => ?_, fun j zs ej => ?_, fun j x ej => ?_, fun j k ys zs b ej ek f1 f2 => ?_⟩
  · rcases get j _ ej with ⟨_, z, f⟩ | ⟨_, z, f⟩
    · subst z; exact ⟨v, f, q⟩
    · rw [f]; exact h.dat j x z
  · rcases get j _ ej with ⟨_, z, f⟩ | ⟨_, z, f⟩
    · subst z
      obtain ⟨a, vs, rfl, g, p, hh, t, n⟩ := q
      exact ⟨a, vs, f, g, p, hh, t⟩
    · rw [f]; exact h.own j zs z
  · rcases get j _ ej with ⟨_, z, f⟩ | ⟨_, z, f⟩
    · subst z
      obtain ⟨a, rfl, g⟩ := q
      exact ⟨a, f, g⟩
    · rw [f]; exact h.scr j x z
  · rcases get j _ ej with ⟨z0, z, f⟩ | ⟨ne, z, f⟩
    · rcases get k _ ek with ⟨z0', z', f'⟩ | ⟨ne', z', f'⟩
      · rw [z0, z0']
      · subst z
        obtain ⟨a, vs, rfl, g, p, hh, t, n⟩ := q
        rw [f] at f1; cases f1
        rw [f'] at f2
        exact absurd f2 (n k zs z')
    · rcases get k _ ek with ⟨z0', z', f'⟩ | ⟨ne', z', f'⟩
      · subst z'
        obtain ⟨a, vs, rfl, g, p, hh, t, n⟩ := q
        rw [f'] at f2; cases f2
        rw [f] at f1
        exact absurd f1 (n j ys z)
      · rw [f] at f1; rw [f'] at f2
        exact h.sep j k ys zs b z z' f1 f2
/-- a temporary that is kept meanwhile -/
theorem Sim.protect (h : Sim K P0 G s σ H) {p : Addr} {o : HO} (hp : P0 p = none) (ho : H p = some o) (n : ∀ (i : Nat) ys, s[i]? = some (some (.own ys)) → σ[i]? ≠ some (some (.ref p))) : Sim K (upd P0 p o) G s σ H where
  len := h.len
  prot := h.prot.at ho
  fro := h.fro
  dat := h.dat
  own := fun i xs e => by
    obtain ⟨a, vs, e1, g, q, hh, t⟩ := h.own i xs e
    refine ⟨a, vs, e1, g, ?_, hh, t⟩
    rw [upd_ne]
    · exact q
    · rintro rfl; exact n i xs e e1
  scr := h.scr
  sep := h.sep
theorem Sim.unprotect {p : Addr} {o : HO} (h : Sim K (upd P0 p o) G s σ H) (hp : P0 p = none) : Sim K P0 G s σ H ∧ H p = some o ∧ ∀ (i : Nat) ys, s[i]? = some (some (.own ys)) → σ[i]? ≠ some (some (.ref p)) := by
  have pos : ∀ a, upd P0 p o a = none → P0 a = none ∧ a ≠ p := fun a e => by
    by_cases z : a = p
    · subst z; rw [upd_same] at e; cases e
    · rw [upd_ne z] at e; exact ⟨e, z⟩
  refine ⟨⟨h.len, fun a u e => h.prot a u ?_, h.fro, h.dat, fun i xs e => ?_, h.scr, h.sep⟩, h.prot p o upd_same, fun i ys e z => ?_⟩
  · rw [upd_ne]
    · exact e
    · rintro rfl; rw [hp] at e; cases e
  · obtain ⟨a, vs, e1, g, q, hh, t⟩ := h.own i xs e
    exact ⟨a, vs, e1, g, (pos a q).1, hh, t⟩
  · obtain ⟨a, vs, e1, g, q, hh, t⟩ := h.own i ys e
    rw [z] at e1; cases e1
    exact (pos _ q).2 rfl
theorem Ext.unprotect {p : Addr} {o : HO} (x : Ext (L2.upd P0 p o) G G') (hp : P0 p = none) : Ext P0 G G' ∧ (G p = none → G' p = none) := by
  refine ⟨⟨x.1, fun a u e => (x.2 a u e).imp id fun z => ?_⟩, fun g => ?_⟩
  · by_cases q : a = p
    · subst q; exact hp
    · rw [upd_ne q] at z; exact z
  · cases e : G' p with
    | none => rfl
    | some u =>
      rcases x.2 p u e with z | z
      · rw [g] at z; cases z
      · rw [upd_same] at z; cases z
end
end Ek

/-! ## B: what the text does to frames -/
namespace Ek
open PySem L2

/-- no answer | an answer | an exception of an own class with its value -/
inductive Rs (α : Type) where
  | bad | ok (a : α) | exc (c : Str) (x : D) (s : S)
def Rs.bind {α β : Type} : Rs α → (α → Rs β) → Rs β
  | .bad, _ => .bad
  | .ok a, f => f a
  | .exc c x s, _ => .exc c x s
theorem Rs.bind_ok {α β : Type} {a : α} {f : α → Rs β} : (Rs.ok a).bind f = f a := rfl
theorem Rs.bind_inv {α β : Type} {x : Rs α} {f : α → Rs β} {b : β} (h : x.bind f = .ok b) : ∃ a, x = .ok a ∧ f a = .ok b := by
  cases x with
  | ok a => exact ⟨a, rfl, h⟩
  | bad => cases h
  | exc c x s => cases h
def gv {α : Type} : Option α → Rs α
  | some a => .ok a
  | none => .bad
theorem gv_inv {α : Type} {o : Option α} {a : α} (h : gv o = .ok a) : o = some a := by
  cases o with
  | none => cases h
  | some b => cases h; rfl

/-- an operand: data, or a slot that is read when the operation is done -/
inductive O where
  | v (x : D) | sl (i : Nat)
abbrev XF := S → Rs (R × S)
abbrev OF := S → Rs (O × S)
abbrev TF := S → Rs (Bool × S)
abbrev AF := S → Rs (List D × S)
abbrev GF := D → S → Rs S
inductive Fl where
  | nx | bk | ct | rt (r : R) | rw (rs : List R)
abbrev SF := S → Rs (Fl × S)

def fz : R → Option D
  | .d x => some x
  | .own xs => some (.list xs)
  | .scr _ => none
def deref : O → S → Option D
  | .v x, _ => some x
  | .sl i, s => match s[i]? with
    | some (some (.d x)) => some x
    | some (some (.own xs)) => some (.list xs)
    | _ => none
/-- a function of the text: its parameters, the one whose list it changes, the orders of keywords that are used -/
structure FS where
  ps : List Str
  kl : List (List Str)
  io : Option Nat
  run : List D → Option (R × List D)
  sr : Option (List Int → Option R)
  rr : Option (List D → Option (List R))
structure En where
  fs : Str → Option FS
  cs : Str → Option D
  ds : Str → Option (List (Str × D))
  bi : Str → Bool
  fuel : Nat
  row : Bool

/-! ### values -/
def szMax : Nat := 1000000
def repS (a : Str) (n : Nat) : Str := ⟨(List.replicate n a.cps).foldl (· ++ ·) #[]⟩
def dBin : Operator → D → D → Option R
  | .Add, .int i, .int j => some (.d (.int (i + j)))
  | .Add, .str a, .str b => if a.length + b.length ≤ szMax then some (.d (.str (a ++ b))) else none
  | .Add, .list a, .list b => if a.length + b.length ≤ szMax then some (.own (a ++ b)) else none
  | .Add, .tuple a, .tuple b => if a.length + b.length ≤ szMax then some (.d (.tuple (a ++ b))) else none
  | .Sub, .int i, .int j => some (.d (.int (i - j)))
  | .Mult, .int i, .int j => if (i.natAbs < 2 ^ 64 ∨ j.natAbs < 2 ^ 64) ∨ i.natAbs.log2 + j.natAbs.log2 < 1000000 then some (.d (.int (i * j))) else none
  | .Mult, .list a, .int j => if j ≤ 1000000 ∧ -1000000 ≤ j ∧ a.length * j.toNat ≤ szMax then some (.own (List.replicate j.toNat a).flatten) else none
  | .Mult, .str a, .int j => if j ≤ 1000000 ∧ -1000000 ≤ j ∧ a.length * j.toNat ≤ szMax then some (.d (.str (repS a j.toNat))) else none
  | .Mult, .tuple a, .int j => if 0 ≤ j ∧ j ≤ 1000 ∧ a.isEmpty = false ∧ a.length ≤ 1000 then some (.d (.tuple (List.replicate j.toNat a).flatten)) else none
  | .FloorDiv, .int i, .int j => if 0 < j ∧ j.natAbs.log2 < 9000 then some (.d (.int (i / j))) else none
  | .Mod, .int i, .int j => if 0 < j then some (.d (.int (i % j))) else none
  | .Pow, .int i, .int j => if 0 ≤ j ∧ j ≤ 1000000 ∧ i.natAbs < 2 ^ 64 then some (.d (.int (i ^ j.toNat))) else none
  | .LShift, .int i, .int j => if 0 ≤ j ∧ j ≤ 1000000 ∧ i.natAbs < 2 ^ 64 then some (.d (.int (i * 2 ^ j.toNat))) else none
  | .RShift, .int i, .int j => if 0 ≤ j then some (.d (.int (i / 2 ^ j.toNat))) else none
  | .BitAnd, .int i, .int j => some (.d (.int (Builtin.bitAnd i j)))
  | .BitOr, .int i, .int j => some (.d (.int (Builtin.bitOr i j)))
  | .BitXor, .int i, .int j => some (.d (.int (Builtin.bitXor i j)))
  | _, _, _ => none
def dIop : Operator → D → D → Option R
  | .Add, .int i, .int j => some (.d (.int (i + j)))
  | .Sub, .int i, .int j => some (.d (.int (i - j)))
  | .LShift, .int i, .int j => if 0 ≤ j ∧ j ≤ 1000000 ∧ i.natAbs < 2 ^ 64 then some (.d (.int (i * 2 ^ j.toNat))) else none
  | .RShift, .int i, .int j => if 0 ≤ j then some (.d (.int (i / 2 ^ j.toNat))) else none
  | .BitAnd, .int i, .int j => some (.d (.int (Builtin.bitAnd i j)))
  | .BitOr, .int i, .int j => some (.d (.int (Builtin.bitOr i j)))
  | .BitXor, .int i, .int j => some (.d (.int (Builtin.bitXor i j)))
  | _, _, _ => none
def dUn : UnaryOp → D → Option R
  | .USub, .int i => some (.d (.int (-i)))
  | _, _ => none
/-- two plain values that == tells apart as data does -/
def scalD : D → D → Bool
  | .none, .none => true | .none, .int _ => true | .int _, .none => true | .none, .bool _ => true | .bool _, .none => true | .none, .str _ => true | .str _, .none => true
  | .int _, .int _ => true | .bool _, .bool _ => true | .str _, .str _ => true
  | .int _, .str _ => true | .str _, .int _ => true | .bool _, .str _ => true | .str _, .bool _ => true
  | _, _ => false
def eqScal : D → D → Bool
  | .none, .none => true
  | .int i, .int j => decide (i = j)
  | .bool i, .bool j => i == j
  | .str i, .str j => decide (i = j)
  | _, _ => false
def dEq (x y : D) : Option Bool :=
  if scalD x y = true then some (eqScal x y)
  else if SeqAt.shaped x = true ∧ SeqAt.shaped y = true then some (PyData.eqv x y) else none
def flatD : D → Bool
  | .none => true | .bool _ => true | .int _ => true | .str _ => true | _ => false
def dIn (x : D) : D → Option Bool
  | .list ys => if flatD x = true ∧ ys.all flatD = true then some (ys.any fun y => PyData.eqv y x)
    else if SeqAt.shaped x = true ∧ SeqAt.shaped (.list ys) = true then some (ys.any fun y => PyData.eqv y x) else none
  | .tuple ys => if flatD x = true ∧ ys.all flatD = true then some (ys.any fun y => PyData.eqv y x)
    else if SeqAt.shaped x = true ∧ SeqAt.shaped (.list ys) = true then some (ys.any fun y => PyData.eqv y x) else none
  | .str z => match x with
    | .str c => if c.cps.size = 1 then some (decide (c.cps.getD 0 0 ∈ z.cps.toList)) else none
    | _ => none
  | _ => none
def ints? : List D → Option (List Int)
  | [] => some []
  | .int i :: r => (ints? r).map (i :: ·)
  | _ :: _ => none
def isNon : D → Bool
  | .none => true | _ => false
def dCmp : CmpOp → D → D → Option Bool
  | .Eq, x, y => dEq x y
  | .NotEq, x, y => (dEq x y).map (!·)
  | .Lt, .int i, .int j => some (decide (i < j))
  | .Lt, .str a, .str b => some (decide (a.cps.toList < b.cps.toList))
  | .Lt, .tuple a, .tuple b => (match ints? a, ints? b with
    | some ns, some ms => some (HT.lexLt ns ms)
    | _, _ => none)
  | .LtE, .int i, .int j => some (decide (i ≤ j))
  | .Gt, .int i, .int j => some (decide (j < i))
  | .GtE, .int i, .int j => some (decide (j ≤ i))
  | .Is, x, .none => some (isNon x)
  | .IsNot, x, .none => some (!isNon x)
  | .In, x, y => dIn x y
  | .NotIn, x, y => (dIn x y).map (!·)
  | _, _, _ => none
def dTru : D → Option Bool
  | .none => some false
  | .bool b => some b
  | .int i => some (i != 0)
  | .str y => if y.length ≤ szMax then some ((y.length : Int) != 0) else none
  | .list xs => some (!xs.isEmpty)
  | .tuple xs => some (!xs.isEmpty)
  | .dict _ => none
def dIx : D → D → Option R
  | .list xs, .int i => (atI xs i).map .d
  | .tuple xs, .int i => (atI xs i).map .d
  | .str z, .int i => if z.length ≤ szMax then (atI z.cps.toList i).map fun c => .d (.str ⟨#[c]⟩) else none
  | _, _ => none
def cutD {α : Type} (xs : List α) (lo hi : Option Int) : List α := (xs.drop (HT.sIx xs.length 0 lo)).take (HT.sIx xs.length xs.length hi - HT.sIx xs.length 0 lo)
def dSl (x : D) (lo hi : Option Int) : Option R := match x with
  | .list xs => some (.own (cutD xs lo hi))
  | .tuple xs => some (.d (.tuple (cutD xs lo hi)))
  | .str z => if z.length ≤ szMax then some (.d (.str (cutS z lo hi))) else none
  | _ => none
def dLen : D → Option Nat
  | .str y => if y.length ≤ szMax then some y.length else none
  | .list xs => some xs.length
  | .tuple xs => some xs.length
  | _ => none
def bls? : List D → Option (List Bool)
  | [] => some []
  | .bool i :: r => (bls? r).map (i :: ·)
  | _ :: _ => none
def strs? : List D → Option (List Str)
  | [] => some []
  | .str i :: r => (strs? r).map (i :: ·)
  | _ :: _ => none
/-- a built-in called with one thing that is read -/
def dB1 (f : String) (x : D) : Option R :=
  if f = "len" then (dLen x).map fun n => .d (.int n)
  else if f = "int" then (match x with | .int i => some (.d (.int i)) | .bool b => some (.d (.int (if b then 1 else 0))) | _ => none)
  else if f = "abs" then (match x with | .int i => some (.d (.int (if i < 0 then -i else i))) | _ => none)
  else if f = "list" then (match x with | .list xs => some (.own xs) | .tuple xs => some (.own xs) | .str z => if z.length ≤ szMax then some (.own (z.cps.toList.map fun c => .str ⟨#[c]⟩)) else none | _ => none)
  else if f = "tuple" then (match x with | .list xs => some (.d (.tuple xs)) | .tuple xs => some (.d (.tuple xs)) | _ => none)
  else if f = "sum" then (match x with | .list xs => (ints? xs).map fun ns => .d (.int ns.sum) | _ => none)
  else if f = "all" then (match x with | .list xs => (bls? xs).map fun bs => .d (.bool (bs.all id)) | _ => none)
  else if f = "any" then (match x with | .list xs => (bls? xs).map fun bs => .d (.bool (bs.any id)) | _ => none)
  else if f = "str" then (match x with | .int i => if i.natAbs.log2 < 1920 then some (.d (.str (toString i))) else none | _ => none)
  else none
def dB2 (f : String) (x y : D) : Option R :=
  if f = "max" then (match x, y with | .int i, .int j => some (.d (.int (if j > i then j else i))) | _, _ => none)
  else if f = "min" then (match x, y with | .int i, .int j => some (.d (.int (if j < i then j else i))) | _, _ => none)
  else none
def typD : D → Option String
  | .none => some "NoneType" | .bool _ => some "bool" | .int _ => some "int" | .str _ => some "str" | .list _ => some "list" | .tuple _ => some "tuple" | .dict _ => none
/-- is a value of the type t one of the class c -/
def isTy (t c : String) : Bool := t == c || (t == "bool" && c == "int")
def tyNames : List String := ["int", "bool", "str", "tuple", "list"]

/-! ### the ways of expressions -/
def oName (i : Nat) : OF := fun s => match s[i]? with
  | some (some _) => .ok (.sl i, s)
  | _ => .bad
def oX (f : XF) : OF := fun s => (f s).bind fun p => (gv (fz p.1)).bind fun x => .ok (.v x, p.2)
def cC (x : D) : XF := fun s => .ok (.d x, s)
def cName (i : Nat) : XF := fun s => match s[i]? with
  | some (some (.d x)) => .ok (.d x, s)
  | some (some (.own xs)) => .ok (.d (.list xs), s.set i (some (.d (.list xs))))
  | some (some (.scr ns)) => .ok (.scr ns, s)
  | _ => .bad
def cFz (f : XF) : S → Rs (D × S) := fun s => (f s).bind fun p => (gv (fz p.1)).bind fun x => .ok (x, p.2)
def cArgs : List XF → AF
  | [] => fun s => .ok ([], s)
  | f :: r => fun s => (cFz f s).bind fun p => (cArgs r p.2).bind fun q => .ok (p.1 :: q.1, q.2)
def cTup (fs : List XF) : XF := fun s => (cArgs fs s).bind fun p => .ok (.d (.tuple p.1), p.2)
def cLst (fs : List XF) : XF := fun s => (cArgs fs s).bind fun p => .ok (.own p.1, p.2)
def cBin (g : D → D → Option R) (a b : OF) : XF := fun s => (a s).bind fun p => (b p.2).bind fun q =>
  (gv (deref p.1 q.2)).bind fun x => (gv (deref q.1 q.2)).bind fun y => (gv (g x y)).bind fun r => .ok (r, q.2)
def cUn (g : D → Option R) (a : OF) : XF := fun s => (a s).bind fun p => (gv (deref p.1 p.2)).bind fun x => (gv (g x)).bind fun r => .ok (r, p.2)
def bR (g : D → D → Option Bool) : D → D → Option R := fun x y => (g x y).map fun b => .d (.bool b)
def cCmp (op : CmpOp) (a b : OF) : XF := cBin (bR (dCmp op)) a b
/-- a op1 b op2 c -/
def cChain (op op' : CmpOp) (a b c : OF) : XF := fun s => (a s).bind fun p => (b p.2).bind fun q =>
  (gv (deref p.1 q.2)).bind fun x => (gv (deref q.1 q.2)).bind fun y => (gv (dCmp op x y)).bind fun k =>
    if k = true then (c q.2).bind fun r => (gv (deref q.1 r.2)).bind fun y' => (gv (deref r.1 r.2)).bind fun z => (gv (dCmp op' y' z)).bind fun k' => .ok (.d (.bool k'), r.2)
    else .ok (.d (.bool false), q.2)
def cAnd (a b : XF) : XF := fun s => (a s).bind fun p => match p.1 with
  | .d (.bool true) => b p.2
  | .d (.bool false) => .ok (.d (.bool false), p.2)
  | _ => .bad
def cOr (a b : XF) : XF := fun s => (a s).bind fun p => match p.1 with
  | .d (.bool true) => .ok (.d (.bool true), p.2)
  | .d (.bool false) => b p.2
  | _ => .bad
def cNot (a : TF) : XF := fun s => (a s).bind fun p => .ok (.d (.bool (!p.1)), p.2)
def cIf (t : TF) (a b : XF) : XF := fun s => (t s).bind fun p => if p.1 = true then a p.2 else b p.2
def tTru (a : OF) : TF := fun s => (a s).bind fun p => (gv (deref p.1 p.2)).bind fun x => (gv (dTru x)).bind fun b => .ok (b, p.2)
def tBl (a : XF) : TF := fun s => (a s).bind fun p => match p.1 with
  | .d (.bool b) => .ok (b, p.2)
  | _ => .bad
def tAndF (a b : TF) : TF := fun s => (a s).bind fun p => if p.1 = true then b p.2 else .ok (false, p.2)
def tOrF (a b : TF) : TF := fun s => (a s).bind fun p => if p.1 = true then .ok (true, p.2) else b p.2
def tNotF (a : TF) : TF := fun s => (a s).bind fun p => .ok (!p.1, p.2)
/-- a slice's bound -/
abbrev PF := S → Rs (Option Int × S)
def pNo : PF := fun s => .ok (none, s)
def pAt (f : XF) : PF := fun s => (f s).bind fun p => match p.1 with
  | .d (.int i) => .ok (some i, p.2)
  | _ => .bad
def cSl (a : OF) (lo hi : PF) : XF := fun s => (a s).bind fun p => (lo p.2).bind fun q => (hi q.2).bind fun r =>
  (gv (deref p.1 r.2)).bind fun x => (gv (dSl x q.1 r.1)).bind fun y => .ok (y, r.2)
/-- list(x), len(x) of the script too -/
def cListOf (a : OF) : XF := fun s => (a s).bind fun p => match p.1 with
  | .sl i => (match p.2[i]? with
    | some (some (.scr ns)) => .ok (.own (ns.map .int), p.2)
    | _ => (gv (deref p.1 p.2)).bind fun x => (gv (dB1 "list" x)).bind fun r => .ok (r, p.2))
  | o => (gv (deref o p.2)).bind fun x => (gv (dB1 "list" x)).bind fun r => .ok (r, p.2)
def cLenOf (a : OF) : XF := fun s => (a s).bind fun p => match p.1 with
  | .sl i => (match p.2[i]? with
    | some (some (.scr ns)) => .ok (.d (.int ns.length), p.2)
    | _ => (gv (deref p.1 p.2)).bind fun x => (gv (dB1 "len" x)).bind fun r => .ok (r, p.2))
  | o => (gv (deref o p.2)).bind fun x => (gv (dB1 "len" x)).bind fun r => .ok (r, p.2)
def cIsi (a : OF) (cs : List String) : XF := fun s => (a s).bind fun p => (gv (deref p.1 p.2)).bind fun x => (gv (typD x)).bind fun t => .ok (.d (.bool (cs.any (isTy t))), p.2)
/-- a call of the text's own function; at io stands the slot whose list it changes -/
def oArgs : List OF → S → Rs (List O × S)
  | [] => fun s => .ok ([], s)
  | f :: r => fun s => (f s).bind fun p => (oArgs r p.2).bind fun q => .ok (p.1 :: q.1, q.2)
/-- what stands for an argument: data; at io a slot's own list -/
def derefD : O → S → Option D
  | .v x, _ => some x
  | .sl i, s => match s[i]? with
    | some (some (.d x)) => some x
    | _ => none
def derefs (io : Option Nat) : Nat → List O → S → Option (List D)
  | _, [], _ => some []
  | k, o :: r, s => match (if io = some k then deref o s else derefD o s), derefs io (k + 1) r s with
    | some x, some xs => some (x :: xs)
    | _, _ => none
/-- the slot at io, as it must be -/
def ioSlot (io : Option Nat) (os : List O) (s : S) : Option (Option Nat) := match io with
  | none => some none
  | some k => match os[k]? with
    | some (.sl i) => (match s[i]? with | some (some (.own _)) => some (some i) | _ => none)
    | _ => none
def putIo (io : Option Nat) (s : S) (ys : List D) : S := match io with
  | some i => s.set i (some (.own ys))
  | none => s
def doCall (f : FS) (os : List O) (s : S) : Rs (R × S) :=
  (gv (ioSlot f.io os s)).bind fun io => (gv (derefs f.io 0 os s)).bind fun xs => (gv (f.run xs)).bind fun r =>
    .ok (r.1, putIo io s r.2)
def cCall (f : FS) (as : List OF) : XF := fun s => (oArgs as s).bind fun p => doCall f p.1 p.2
/-- a call that hands on the script -/
def cCallS (f : FS) (i : Nat) : XF := fun s => match s[i]? with
  | some (some (.scr ns)) => (gv f.sr).bind fun g => (gv (g ns)).bind fun r => .ok (r, s)
  | _ => .bad
/-- the arguments in the parameters' order -/
def pickAt {α : Type} (ks : List Str) (us ws : List α) (k : Nat) (x : Str) : Option α := if k < us.length then us[k]? else (ks.idxOf? x).bind fun j => ws[j]?
def pickL {α : Type} (ks : List Str) (us ws : List α) : Nat → List Str → Option (List α)
  | _, [] => some []
  | k, x :: r => match pickAt ks us ws k x, pickL ks us ws (k + 1) r with
    | some a, some l => some (a :: l)
    | _, _ => none
def pick {α : Type} (ps ks : List Str) (us ws : List α) : Option (List α) := if us.length + ws.length = ps.length ∧ ks.length = ws.length then pickL ks us ws 0 ps else none
def cCallK (f : FS) (ks : List Str) (as kws : List OF) : XF := fun s => (oArgs as s).bind fun p => (oArgs kws p.2).bind fun q =>
  (gv (pick f.ps ks p.1 q.1)).bind fun os => doCall f os q.2
/-- x.append(e) and its like: at slot i a list of one's own -/
def cMut (i : Nat) (g : List D → List D → Option (R × List D)) (as : List XF) : XF := fun s => match s[i]? with
  | some (some (.own _)) => (cArgs as s).bind fun p => (match p.2[i]? with
    | some (some (.own xs)) => (gv (g xs p.1)).bind fun r => .ok (r.1, p.2.set i (some (.own r.2)))
    | _ => .bad)
  | _ => .bad
def mApp (xs ys : List D) : Option (R × List D) := match ys with
  | [y] => if xs.length < szMax then some (.d .none, xs ++ [y]) else none
  | _ => none
def mExt (xs ys : List D) : Option (R × List D) := match ys with
  | [.list zs] => if xs.length + zs.length ≤ szMax then some (.d .none, xs ++ zs) else none
  | _ => none
def mPop (xs ys : List D) : Option (R × List D) := match ys with
  | [] => (xs[xs.length - 1]?).map fun y => (.d y, xs.dropLast)
  | [.int i] => if xs.length ≤ szMax then (match ixN xs.length i with
    | some k => (xs[k]?).map fun y => (.d y, xs.eraseIdx k)
    | none => none) else none
  | _ => none
def dMut (m : String) : List D → List D → Option (R × List D) :=
  if m = "append" then mApp else if m = "extend" then mExt else if m = "pop" then mPop else fun _ _ => none
/-- o.m(e, ..) of a text -/
def dMeth (m : String) (x : D) (ys : List D) : Option R :=
  if m = "join" then (match x, ys with
    | .str a, [.list zs] => (match strs? zs with
      | some ts => if (ts.map Str.length).sum + a.length * ts.length ≤ szMax then some (.d (.str (Txt.join a ts))) else none
      | none => none)
    | _, _ => none)
  else if m = "count" then (match x, ys with
    | .str a, [.str b] => some (.d (.int (Txt.count a b)))
    | _, _ => none)
  else none
def cMeth (m : String) (a : OF) (as : List XF) : XF := fun s => (a s).bind fun p => (gv (derefD p.1 p.2)).bind fun x => (cArgs as p.2).bind fun q =>
  (gv (dMeth m x q.1)).bind fun r => .ok (r, q.2)
/-- d[k], d.get(k, e), k in d of a dict of the module -/
def cDix (kvs : List (Str × D)) (a : OF) : XF := fun s => (a s).bind fun p => (gv (deref p.1 p.2)).bind fun x => match x with
  | .str k => (gv (kvs.lookup k)).bind fun r => .ok (.d r, p.2)
  | _ => .bad

/-- x[::-1] -/
def dRev : D → Option R
  | .list xs => some (.own xs.reverse)
  | .tuple xs => some (.d (.tuple xs.reverse))
  | _ => none
/-- x.m() of a plain value -/
def dMeth0 (m : String) (x : D) : Option R :=
  if m = "bit_length" then (match x with | .int i => some (.d (.int (Builtin.Int.intBits i : Nat))) | _ => none) else none
def cMeth0 (m : String) (a : OF) : XF := fun s => (a s).bind fun p => (gv (derefD p.1 p.2)).bind fun x => (gv (dMeth0 m x)).bind fun r => .ok (r, p.2)
/-- k in d, d.get(k), d.get(k, e) of a dict of the module -/
def cDin (neg : Bool) (kvs : List (Str × D)) (a : OF) : XF := fun s => (a s).bind fun p => (gv (deref p.1 p.2)).bind fun x => match x with
  | .str k => .ok (.d (.bool (cond neg (!(kvs.lookup k).isSome) (kvs.lookup k).isSome)), p.2)
  | _ => .bad
def cDget (kvs : List (Str × D)) (as : List XF) : XF := fun s => (cArgs as s).bind fun p => match p.1 with
  | [.str k] => .ok (.d ((kvs.lookup k).getD .none), p.2)
  | [.str k, e] => .ok (.d ((kvs.lookup k).getD e), p.2)
  | _ => .bad

/-! ### what is walked -/
def chars (z : Str) : List D := z.cps.toList.map fun c => .str ⟨#[c]⟩
def itOf : D → Option (List D)
  | .list xs => some xs
  | .tuple xs => some xs
  | .str z => if z.length ≤ szMax then some (chars z) else none
  | _ => none
def rangeD (lo hi : Int) : List D := (List.range (hi - lo).toNat).map fun (k : Nat) => .int (lo + k)
def wIt (f : XF) : AF := fun s => (cFz f s).bind fun p => (gv (itOf p.1)).bind fun xs => .ok (xs, p.2)
def okR (i : Int) : Bool := decide (-1000000 ≤ i) && decide (i ≤ 1000000)
def wR1 (f : XF) : AF := fun s => (f s).bind fun p => match p.1 with
  | .d (.int n) => if okR n = true then .ok (rangeD 0 n, p.2) else .bad
  | _ => .bad
def wR2 (f g : XF) : AF := fun s => (f s).bind fun p => (g p.2).bind fun q => match p.1, q.1 with
  | .d (.int m), .d (.int n) => if okR m = true ∧ okR n = true then .ok (rangeD m n, q.2) else .bad
  | _, _ => .bad

/-- zip of two -/
def zipD (xs ys : List D) : List D := List.zipWith (fun x y => .tuple [x, y]) xs ys
def wZip (f g : XF) : AF := fun s => (cArgs [f, g] s).bind fun p => match p.1 with
  | [x, y] => (gv (itOf x)).bind fun xs => (gv (itOf y)).bind fun ys => .ok (zipD xs ys, p.2)
  | _ => .bad

/-- enumerate -/
def enumD : Int → List D → List D
  | _, [] => []
  | k, x :: xs => .tuple [.int k, x] :: enumD (k + 1) xs
def wEnum (f : XF) : AF := fun s => (cFz f s).bind fun p => (gv (itOf p.1)).bind fun xs => .ok (enumD 0 xs, p.2)

/-! ### targets -/
def gSet (i : Nat) : GF := fun x s => .ok (s.set i (some (.d x)))
def gPut (i : Nat) (ix : XF) : GF := fun x s => match s[i]? with
  | some (some (.own _)) => (ix s).bind fun p => (match p.1, p.2[i]? with
    | .d (.int k), some (some (.own xs)) => (gv (ixN xs.length k)).bind fun j => .ok (p.2.set i (some (.own (xs.set j x))))
    | _, _ => .bad)
  | _ => .bad
def gAll : List GF → List D → S → Rs S
  | [], [], s => .ok s
  | g :: gs, x :: xs, s => (g x s).bind fun s' => gAll gs xs s'
  | _, _, _ => .bad
def gUnp (gs : List GF) : GF := fun x s => match x with
  | .tuple xs => if xs.length = gs.length then gAll gs xs s else .bad
  | .list xs => if xs.length = gs.length then gAll gs xs s else .bad
  | _ => .bad

/-! ### comprehensions -/
def wipeS (s : S) : List Nat → S
  | [] => s
  | v :: vs => (wipeS s vs).set v none
def backS (s0 s : S) : List Nat → S
  | [] => s
  | v :: vs => (backS s0 s vs).set v (match s0[v]? with
    | some (some (.d x)) => some (.d x)
    | some (some (.scr x)) => some (.scr x)
    | _ => none)
def lcL (tg : GF) (t : TF) (elt : XF) (own : List Nat) : List D → List D → S → Rs (List D × S)
  | [], acc, s => .ok (acc, s)
  | x :: r, acc, s => (tg x (wipeS s own)).bind fun s1 => (t s1).bind fun p =>
    if p.1 = true then (cFz elt p.2).bind fun q => if acc.length < szMax then lcL tg t elt own r (acc ++ [q.1]) q.2 else .bad
    else lcL tg t elt own r acc p.2
def lc2L (tg : GF) (t : TF) (it1 : AF) (own1 : List Nat) (tg1 : GF) (t1 : TF) (elt : XF) (own : List Nat) : List D → List D → S → Rs (List D × S)
  | [], acc, s => .ok (acc, s)
  | x :: r, acc, s => (tg x (wipeS s own)).bind fun s1 => (t s1).bind fun p =>
    if p.1 = true then (it1 p.2).bind fun q => (lcL tg1 t1 elt own1 q.1 acc q.2).bind fun w => lc2L tg t it1 own1 tg1 t1 elt own r w.1 w.2
    else lc2L tg t it1 own1 tg1 t1 elt own r acc p.2
def cLc2 (it : AF) (own : List Nat) (tg : GF) (t : TF) (it1 : AF) (own1 : List Nat) (tg1 : GF) (t1 : TF) (elt : XF) : XF := fun s => (it s).bind fun p =>
  (lc2L tg t it1 own1 tg1 t1 elt own p.1 [] p.2).bind fun q => .ok (.own q.1, backS p.2 q.2 own)
def cLc (it : AF) (own : List Nat) (tg : GF) (t : TF) (elt : XF) : XF := fun s => (it s).bind fun p =>
  (lcL tg t elt own p.1 [] p.2).bind fun q => .ok (.own q.1, backS p.2 q.2 own)
def tTrue : TF := fun s => .ok (true, s)

/-! ### statements -/
def sSkip : SF := fun s => .ok (.nx, s)
def sSeq (a b : SF) : SF := fun s => (a s).bind fun p => match p.1 with
  | .nx => b p.2
  | f => .ok (f, p.2)
def sSet (i : Nat) (f : XF) : SF := fun s => (f s).bind fun p => .ok (.nx, p.2.set i (some p.1))
def sTg (g : GF) (f : XF) : SF := fun s => (cFz f s).bind fun p => (g p.1 p.2).bind fun s' => .ok (.nx, s')
/-- x, y = e, e' with plain names -/
def rArgs : List XF → S → Rs (List R × S)
  | [] => fun s => .ok ([], s)
  | f :: r => fun s => (f s).bind fun p => (rArgs r p.2).bind fun q => .ok (p.1 :: q.1, q.2)
def putAll : List Nat → List R → S → S
  | i :: is, r :: rs, s => putAll is rs (s.set i (some r))
  | _, _, s => s
def sPar (is : List Nat) (fs : List XF) : SF := fun s => (rArgs fs s).bind fun q => .ok (.nx, putAll is q.1 q.2)
/-- a row of results: lists of one's own are handed on -/
def cMv (i : Nat) : XF := fun s => match s[i]? with
  | some (some (.d x)) => .ok (.d x, s)
  | some (some (.own xs)) => .ok (.own xs, s.set i none)
  | _ => .bad
def sRow (fs : List XF) : SF := fun s => (rArgs fs s).bind fun p => .ok (.rw p.1, p.2)
def doCallR (f : FS) (os : List O) (s : S) : Rs (List R) := (gv f.rr).bind fun g => (gv (derefs none 0 os s)).bind fun xs => gv (g xs)
def sUnR (is : List Nat) (f : FS) (as : List OF) : SF := fun s => (oArgs as s).bind fun p => (doCallR f p.1 p.2).bind fun rs =>
  if is.length = rs.length then .ok (.nx, putAll is rs p.2) else .bad
def sIf (t : TF) (a b : SF) : SF := fun s => (t s).bind fun p => if p.1 = true then a p.2 else b p.2
def sRet (f : XF) : SF := fun s => (f s).bind fun p => .ok (.rt p.1, p.2)
def sRetN (i : Nat) : SF := fun s => match s[i]? with
  | some (some r) => .ok (.rt r, match r with | .own _ => s.set i none | _ => s)
  | _ => .bad
def sRet0 : SF := fun s => .ok (.rt (.d .none), s)
def sDrop (f : XF) : SF := fun s => (f s).bind fun p => .ok (.nx, p.2)
def sBrk : SF := fun s => .ok (.bk, s)
def sCnt : SF := fun s => .ok (.ct, s)
/-- x op= e -/
def sAug (i : Nat) (g : D → D → Option R) (a : OF) : SF := fun s => (oName i s).bind fun p => (a p.2).bind fun q =>
  (gv (deref p.1 q.2)).bind fun x => (gv (deref q.1 q.2)).bind fun y => (gv (g x y)).bind fun r => .ok (.nx, q.2.set i (some r))
/-- x[e] = e' -/
def ownAt (s : S) (i : Nat) : Rs (List D) := match s[i]? with
  | some (some (.own xs)) => .ok xs
  | _ => .bad
def intR : R → Rs Int
  | .d (.int k) => .ok k
  | _ => .bad
def sPut (i : Nat) (ix val : XF) : SF := fun s => (cFz val s).bind fun v => (ownAt v.2 i).bind fun _ => (ix v.2).bind fun p => (intR p.1).bind fun k =>
  (ownAt p.2 i).bind fun xs => (gv (ixN xs.length k)).bind fun j => .ok (.nx, p.2.set i (some (.own (xs.set j v.1))))
/-- x[e] op= e' -/
def sPutOp (i : Nat) (ix : XF) (g : D → D → Option R) (val : XF) : SF := fun s => (ownAt s i).bind fun _ => (ix s).bind fun p => (intR p.1).bind fun k =>
  (ownAt p.2 i).bind fun xs => if k < 0 ∨ szMax < k then .bad else (gv (xs[k.toNat]?)).bind fun x => (cFz val p.2).bind fun v => (gv (g x v.1)).bind fun r => (gv (fz r)).bind fun z =>
  (ownAt v.2 i).bind fun ys => (gv (ixN ys.length k)).bind fun j => .ok (.nx, v.2.set i (some (.own (ys.set j z))))
/-- the slots that were not set ahead of the loop are forgotten -/
def mask : S → S → S
  | none :: r, _ :: q => none :: mask r q
  | some _ :: r, x :: q => x :: mask r q
  | _, _ => []
def forL (s0 : S) (tg : GF) (body : SF) : List D → S → Rs (Fl × S)
  | [], s => .ok (.nx, mask s0 s)
  | x :: r, s => (tg x (mask s0 s)).bind fun s1 => (body s1).bind fun p => match p.1 with
    | .nx => forL s0 tg body r p.2
    | .ct => forL s0 tg body r p.2
    | .bk => .ok (.nx, mask s0 p.2)
    | .rt u => .ok (.rt u, p.2)
    | .rw _ => .bad
def sFor (it : AF) (tg : GF) (body : SF) : SF := fun s => (it s).bind fun p => forL p.2 tg body p.1 p.2
def whL (s0 : S) (t : TF) (body : SF) : Nat → S → Rs (Fl × S)
  | 0, _ => .bad
  | n + 1, s => (t (mask s0 s)).bind fun p => if p.1 = true then (body p.2).bind fun q => (match q.1 with
      | .nx => whL s0 t body n q.2
      | .ct => whL s0 t body n q.2
      | .bk => .ok (.nx, mask s0 q.2)
      | .rt u => .ok (.rt u, q.2)
      | .rw _ => .bad)
    else .ok (.nx, p.2)
def sWh (n : Nat) (t : TF) (body : SF) : SF := fun s => whL s t body n s

/-- a def's own frame -/
def entL (io : Option Nat) : Nat → List D → S
  | _, [] => []
  | k, x :: r => (if io = some k then (match x with | .list ys => some (.own ys) | x => some (.d x)) else some (.d x)) :: entL io (k + 1) r
def entry (n : Nat) (io : Option Nat) (xs : List D) : S := entL io 0 xs ++ List.replicate (n - xs.length) none
def outOf (io : Option Nat) (s : S) : Option (List D) := match io with
  | none => some []
  | some k => (match s[k]? with | some (some (.own ys)) => some ys | _ => none)
/-- what a def hands back, and what its list has become -/
def fnRun (n : Nat) (io : Option Nat) (body : SF) (xs : List D) : Rs (R × List D) := (body (entry n io xs)).bind fun p => match p.1 with
  | .nx => (gv (outOf io p.2)).bind fun o => .ok (.d .none, o)
  | .rt (.d x) => (gv (outOf io p.2)).bind fun o => .ok (.d x, o)
  | .rt (.own x) => (gv (outOf io p.2)).bind fun o => .ok (.own x, o)
  | _ => .bad
/-- a def that hands back a row -/
def fnRunR (n : Nat) (body : SF) (xs : List D) : Rs (List R) := (body (entry n none xs)).bind fun p => match p.1 with
  | .rw rs => .ok rs
  | _ => .bad
/-- a def that takes the script -/
def fnRunS (n : Nat) (body : SF) (ns : List Int) : Rs R := (body (some (.scr ns) :: List.replicate (n - 1) none)).bind fun p => match p.1 with
  | .rt (.d x) => .ok (.d x)
  | .rt (.own x) => .ok (.own x)
  | _ => .bad
end Ek

/-! ## C: readings of expressions -/
namespace Ek
open PySem L2 PySem.Spec PyProof.Rows

/-- an operand stands as v -/
def OR (K : PySem.W.Frag) (G : Hp) (σ : L2.St) : O → V → Prop
  | .v x, v => Tp K G x v
  | .sl i, v => σ[i]? = some (some v)
theorem OR.mono {K : PySem.W.Frag} {P0 G G' : Hp} {σ : L2.St} {o : O} {v : V} (x : Ext P0 G G') (h : OR K G σ o v) : OR K G' σ o v := by
  cases o with
  | v d => exact Tp.mono x.1 _ _ h
  | sl i => exact h
section
variable {K : PySem.W.Frag} {P0 G H : Hp} {s : S} {σ : L2.St}
theorem deref_tq (m : Sim K P0 G s σ H) {o : O} {v : V} {x : D} (h : OR K G σ o v) (e : deref o s = some x) : Tq K G H x v := by
  cases o with
  | v d =>
    have e' : d = x := Option.some.inj e
    subst e'
    exact Tp.tq m.fro h
  | sl i =>
    have h' : σ[i]? = some (some v) := h
    unfold deref at e
    cases hs : s[i]? with
    | none => simp [hs] at e
    | some w =>
      cases w with
      | none => simp [hs] at e
      | some r =>
        cases r with
        | d y =>
          simp [hs] at e; subst e
          obtain ⟨u, e1, t⟩ := m.dat i y hs
          rw [h'] at e1; cases e1
          exact Tp.tq m.fro t
        | own xs =>
          simp [hs] at e; subst e
          obtain ⟨a, vs, e1, g, q, hh, t⟩ := m.own i xs hs
          rw [h'] at e1; cases e1
          exact ⟨a, vs, rfl, hh, t⟩
        | scr ns => simp [hs] at e
end

def tXF (K : PySem.W.Frag) (f : XF) : TE := fun σ H Q => ∃ P0 G s r s', Sim K P0 G s σ H ∧ f s = .ok (r, s') ∧
  ∀ v H' G', Ext P0 G G' → Sim K P0 G' s' σ H' → RR K P0 G' s' σ H' r v → Q v H'
def tOF (K : PySem.W.Frag) (f : OF) : TE := fun σ H Q => ∃ P0 G s o s', Sim K P0 G s σ H ∧ f s = .ok (o, s') ∧
  ∀ v H' G', Ext P0 G G' → Sim K P0 G' s' σ H' → OR K G' σ o v → Q v H'
/-- frozen -/
def tZF (K : PySem.W.Frag) (f : XF) : TE := fun σ H Q => ∃ P0 G s x s', Sim K P0 G s σ H ∧ cFz f s = .ok (x, s') ∧
  ∀ v H' G', Ext P0 G G' → Sim K P0 G' s' σ H' → Tp K G' x v → Q v H'
def tTF (K : PySem.W.Frag) (f : TF) : TT := fun σ H Q => ∃ P0 G s b s', Sim K P0 G s σ H ∧ f s = .ok (b, s') ∧
  ∀ H' G', Ext P0 G G' → Sim K P0 G' s' σ H' → Q b H'
def tAF (K : PySem.W.Frag) (f : AF) : TA := fun σ H Q => ∃ P0 G s xs s', Sim K P0 G s σ H ∧ f s = .ok (xs, s') ∧
  ∀ vs H' G', Ext P0 G G' → Sim K P0 G' s' σ H' → TpL K G' xs vs → Q vs H'
def tOA (K : PySem.W.Frag) (f : S → Rs (List O × S)) : TA := fun σ H Q => ∃ P0 G s os s', Sim K P0 G s σ H ∧ f s = .ok (os, s') ∧
  ∀ vs H' G', Ext P0 G G' → Sim K P0 G' s' σ H' → (vs.length = os.length ∧ ∀ (k : Nat) o v, os[k]? = some o → vs[k]? = some v → OR K G' σ o v) → Q vs H'
def tPF (K : PySem.W.Frag) (f : PF) : TO := fun σ H Q => ∃ P0 G s o s', Sim K P0 G s σ H ∧ f s = .ok (o, s') ∧
  ∀ H' G', Ext P0 G G' → Sim K P0 G' s' σ H' → Q o H'

theorem pe_imp {X : Cx} {e : Expr} {t t' : TE} (h : PE X e t) (i : ∀ σ H Q, t' σ H Q → t σ H Q) : PE X e t' :=
  ⟨fun pins s σ H Q I q => h.run pins s σ H Q I (i σ H Q q)⟩
theorem pt_imp {X : Cx} {e : Expr} {t t' : TT} (h : PT X e t) (i : ∀ σ H Q, t' σ H Q → t σ H Q) : PT X e t' :=
  ⟨fun pins s σ H Q I q => h.run pins s σ H Q I (i σ H Q q)⟩
theorem pw_imp {X : Cx} {e : Expr} {t t' : TT} (h : PW X e t) (i : ∀ σ H Q, t' σ H Q → t σ H Q) : PW X e t' :=
  ⟨fun whole pins s σ H Q I q => h.run whole pins s σ H Q I (i σ H Q q)⟩
theorem pa_imp {X : Cx} {e : List Expr} {t t' : TA} (h : PA X e t) (i : ∀ σ H Q, t' σ H Q → t σ H Q) : PA X e t' :=
  ⟨fun pos pins s σ H Q I q => h.run pos pins s σ H Q I (i σ H Q q)⟩
theorem po_imp {X : Cx} {e : Option Expr} {t t' : TO} (h : PO X e t) (i : ∀ σ H Q, t' σ H Q → t σ H Q) : PO X e t' :=
  ⟨fun pins s σ H Q I q => h.run pins s σ H Q I (i σ H Q q)⟩

/-- what is wanted of a result -/
def Post (K : PySem.W.Frag) (P0 G : Hp) (s : S) (σ : L2.St) (Q : VK) (r : R) : Prop := ∀ v H' G', Ext P0 G G' → Sim K P0 G' s σ H' → RR K P0 G' s σ H' r v → Q v H'
section
variable {K : PySem.W.Frag} {P0 G H : Hp} {s : S} {σ : L2.St} {Q : VK}
theorem Post.now {x : D} {v : V} (m : Sim K P0 G s σ H) (t : Tp K G x v) (p : Post K P0 G s σ Q (.d x)) : Q v H := p v H G .refl m t
theorem Post.tup {xs : List D} {vs : List V} {p : Addr} (m : Sim K P0 G s σ H) (t : TpL K G xs vs) (q : Post K P0 G s σ Q (.d (.tuple xs))) (hp : H p = none) : Q (.ref p) (upd H p (.tup vs)) := by
  refine q _ _ (upd G p (.tup vs)) (m.ext_data hp) (m.data hp) ?_
  show Tp _ _ _ _
  simp only [Tp]
  exact ⟨p, vs, rfl, .of upd_same, TpL.mono (.new (m.fro.none hp)) _ _ t⟩
theorem Post.lst {xs : List D} {vs : List V} {p : Addr} (m : Sim K P0 G s σ H) (t : TpL K G xs vs) (q : Post K P0 G s σ Q (.own xs)) (hp : H p = none) : Q (.ref p) (upd H p (.lst vs)) := by
  refine q _ _ G .refl (m.alloc hp) ⟨p, vs, rfl, m.fro.none hp, m.prot.none hp, upd_same, t, fun i ys e z => ?_⟩
  obtain ⟨a, ws, e1, _, _, hh, _⟩ := m.own i ys e
  rw [z] at e1; cases e1
  rw [hp] at hh; cases hh
end

/-- an operation on values -/
def VOp (K : PySem.W.Frag) (r : R2) (x y : D) (res : R) : Prop := ∀ P0 G s σ H v u Q, Sim K P0 G s σ H → Tq K G H x v → Tq K G H y u → Post K P0 G s σ Q res → r v u H Q
section
variable {X : Cx} {a b c : Expr} {fa fb fc : OF} {pos : Pos} {g : D → D → Option R}
theorem bin_read {r : R2} {x y : D} {res : R} {P0 G H : Hp} {s : S} {σ : L2.St} {Q : VK} {p q : O × S} (m : Sim X.K P0 G s σ H) (e1 : fa s = .ok p) (e2 : fb p.2 = .ok q) (d1 : deref p.1 q.2 = some x) (d2 : deref q.1 q.2 = some y)
    (hr : VOp X.K r x y res) (k : ∀ v H' G', Ext P0 G G' → Sim X.K P0 G' q.2 σ H' → RR X.K P0 G' q.2 σ H' res v → Q v H') :
    tOp r (tOF X.K fa) (tOF X.K fb) σ H Q :=
  ⟨P0, G, s, p.1, p.2, m, e1, fun v1 H1 G1 x1 m1 o1 => ⟨P0, G1, p.2, q.1, q.2, m1, e2, fun v2 H2 G2 x2 m2 o2 =>
    hr P0 G2 q.2 σ H2 v1 v2 Q m2 (deref_tq m2 (o1.mono x2) d1) (deref_tq m2 o2 d2) fun v H' G' x3 m3 r3 => k v H' G' (x1.trans (x2.trans x3)) m3 r3⟩⟩
theorem cBin_inv {s : S} {r : R × S} (h : cBin g fa fb s = .ok r) : ∃ p q x y, fa s = .ok p ∧ fb p.2 = .ok q ∧ deref p.1 q.2 = some x ∧ deref q.1 q.2 = some y ∧ g x y = some r.1 ∧ r.2 = q.2 := by
  obtain ⟨p, e1, h⟩ := Rs.bind_inv h
  obtain ⟨q, e2, h⟩ := Rs.bind_inv h
  obtain ⟨x, e3, h⟩ := Rs.bind_inv h
  obtain ⟨y, e4, h⟩ := Rs.bind_inv h
  obtain ⟨z, e5, h⟩ := Rs.bind_inv h
  cases h
  exact ⟨p, q, x, y, e1, e2, gv_inv e3, gv_inv e4, gv_inv e5, rfl⟩
theorem px_bin {op : Operator} (ha : PE X a (tOF X.K fa)) (hb : PE X b (tOF X.K fb)) (hg : ∀ x y r, g x y = some r → ∃ rr, OpR X (binaryOp op) rr ∧ VOp X.K rr x y r) : PE X (.BinOp a op b pos) (tXF X.K (cBin g fa fb)) := by
  refine ⟨fun pins s σ H Q I h => ?_⟩
  obtain ⟨P0, G, st, r, st', m, e, k⟩ := h
  obtain ⟨p, q, x, y, e1, e2, d1, d2, e5, rfl⟩ := cBin_inv e
  obtain ⟨rr, ho, hv⟩ := hg x y _ e5
  exact (pe_op ho ha hb).run pins s σ H Q I (bin_read m e1 e2 d1 d2 hv k)
theorem px_cmp {op : CmpOp} (ha : PE X a (tOF X.K fa)) (hb : PE X b (tOF X.K fb)) (hm : behindInMarks op b = false) (hg : ∀ x y k, dCmp op x y = some k → ∃ rr, OpR X (compareOp op) rr ∧ VOp X.K rr x y (.d (.bool k))) :
    PE X (.Compare a [op] [b] pos) (tXF X.K (cCmp op fa fb)) := by
  refine ⟨fun pins s σ H Q I h => ?_⟩
  obtain ⟨P0, G, st, r, st', m, e, k⟩ := h
  obtain ⟨p, q, x, y, e1, e2, d1, d2, e5, rfl⟩ := cBin_inv e
  unfold bR at e5
  cases hk : dCmp op x y with
  | none => rw [hk] at e5; cases e5
  | some b' =>
    rw [hk] at e5
    obtain ⟨rr, ho, hv⟩ := hg x y b' hk
    have e6 : r = .d (.bool b') := by cases e5; rfl
    subst e6
    exact (pe_cmpR ho ha hb hm).run pins s σ H Q I (bin_read m e1 e2 d1 d2 hv k)
theorem px_ix (ha : PE X a (tOF X.K fa)) (hb : PE X b (tOF X.K fb)) (hs : PlainIx b) (hg : ∀ x y r, g x y = some r → ∃ rr, IxR X rr ∧ VOp X.K rr x y r) : PE X (.Subscript a b pos) (tXF X.K (cBin g fa fb)) := by
  refine ⟨fun pins s σ H Q I h => ?_⟩
  obtain ⟨P0, G, st, r, st', m, e, k⟩ := h
  obtain ⟨p, q, x, y, e1, e2, d1, d2, e5, rfl⟩ := cBin_inv e
  obtain ⟨rr, ho, hv⟩ := hg x y _ e5
  exact (pe_ix ho ha hb hs).run pins s σ H Q I (bin_read m e1 e2 d1 d2 hv k)
/-- names -/
theorem po_name {i : Nat} {x : Str} (hN : X.N[i]? = some x) (hv : Vis X.env.scope x) (hd : (x == ("__debug__" : Str)) = false) (hcd : (x == ("__classdict__" : Str)) = false) : PE X (.Name x pos) (tOF X.K (oName i)) := by
  refine pe_imp (pe_var hN hv hd hcd) fun σ H Q h => ?_
  obtain ⟨P0, G, s, o, s', m, e, k⟩ := h
  unfold oName at e
  cases hs : s[i]? with
  | none => simp [hs] at e
  | some w =>
    cases w with
    | none => simp [hs] at e
    | some r =>
      simp [hs] at e
      obtain ⟨rfl, rfl⟩ := e
      have : ∃ v, σ[i]? = some (some v) := by
        cases r with
        | d x => obtain ⟨v, e, _⟩ := m.dat i x hs; exact ⟨v, e⟩
        | own x => obtain ⟨v, _, e, _⟩ := m.own i x hs; exact ⟨_, e⟩
        | scr x => obtain ⟨v, e, _⟩ := m.scr i x hs; exact ⟨_, e⟩
      obtain ⟨v, e⟩ := this
      exact ⟨v, e, k v H G .refl m e⟩
theorem px_name {i : Nat} {x : Str} (hN : X.N[i]? = some x) (hv : Vis X.env.scope x) (hd : (x == ("__debug__" : Str)) = false) (hcd : (x == ("__classdict__" : Str)) = false) : PE X (.Name x pos) (tXF X.K (cName i)) := by
  refine pe_imp (pe_var hN hv hd hcd) fun σ H Q h => ?_
  obtain ⟨P0, G, s, o, s', m, e, k⟩ := h
  unfold cName at e
  cases hs : s[i]? with
  | none => simp [hs] at e
  | some w =>
    cases w with
    | none => simp [hs] at e
    | some r =>
      cases r with
      | d x =>
        simp [hs] at e
        obtain ⟨rfl, rfl⟩ := e
        obtain ⟨v, e, t⟩ := m.dat i x hs
        exact ⟨v, e, k v H G .refl m t⟩
      | own xs =>
        simp [hs] at e
        obtain ⟨rfl, rfl⟩ := e
        obtain ⟨v, G', e, x, m', t⟩ := m.frozeSlot hs
        exact ⟨v, e, k v H G' x m' t⟩
      | scr ns =>
        simp [hs] at e
        obtain ⟨rfl, rfl⟩ := e
        obtain ⟨a, e, t⟩ := m.scr i ns hs
        exact ⟨.ref a, e, k (.ref a) H G .refl m ⟨a, rfl, t⟩⟩
theorem fz_post {P0 G H : Hp} {s : S} {σ : L2.St} {r : R} {v : V} {x : D} {K : PySem.W.Frag} (m : Sim K P0 G s σ H) (q : RR K P0 G s σ H r v) (e : fz r = some x) : ∃ G', Ext P0 G G' ∧ Sim K P0 G' s σ H ∧ Tp K G' x v := by
  cases r with
  | d y => cases e; exact ⟨G, .refl, m, q⟩
  | own xs => cases e; exact q.froze m
  | scr ns => cases e
theorem cFz_inv {f : XF} {s : S} {p : D × S} (h : cFz f s = .ok p) : ∃ r, f s = .ok (r, p.2) ∧ fz r = some p.1 := by
  obtain ⟨q, e1, h⟩ := Rs.bind_inv h
  obtain ⟨x, e2, h⟩ := Rs.bind_inv h
  cases h
  exact ⟨q.1, e1, gv_inv e2⟩
theorem pz_of {e : Expr} {f : XF} (h : PE X e (tXF X.K f)) : PE X e (tZF X.K f) := pe_imp h fun σ H Q q => by
  obtain ⟨P0, G, s, x, s', m, e, k⟩ := q
  obtain ⟨r, e1, e2⟩ := cFz_inv e
  refine ⟨P0, G, s, r, s', m, e1, fun v H' G' x1 m1 r1 => ?_⟩
  obtain ⟨G2, x2, m2, t⟩ := fz_post m1 r1 e2
  exact k v H' G2 (x1.trans x2) m2 t
theorem po_of {e : Expr} {f : XF} (h : PE X e (tXF X.K f)) : PE X e (tOF X.K (oX f)) := pe_imp (pz_of h) fun σ H Q q => by
  obtain ⟨P0, G, s, o, s', m, e, k⟩ := q
  obtain ⟨p, e1, e⟩ := Rs.bind_inv e
  obtain ⟨x, e2, e⟩ := Rs.bind_inv e
  cases e
  exact ⟨P0, G, s, x, _, m, by unfold cFz; rw [e1, Rs.bind_ok, e2]; rfl, fun v H' G' x1 m1 t => k v H' G' x1 m1 t⟩
theorem px_c {e : Expr} {v : V} {x : D} (h : PE X e (tC v)) (t : Tp X.K (fun _ => none) x v) : PE X e (tXF X.K (cC x)) := pe_imp h fun σ H Q q => by
  obtain ⟨P0, G, s, o, s', m, e, k⟩ := q
  cases e
  exact k v H G .refl m (Tp.mono (fun _ _ h => by cases h) _ _ t)
/-! ### argument lists, displays -/
theorem pa_args : ∀ {es : List Expr} {fs : List XF}, Paired (fun e f => PE X e (tXF X.K f) ∧ ∀ es, starEach (e :: es) X.env = (false, eval e X.env) :: starEach es X.env) es fs → PA X es (tAF X.K (cArgs fs))
  | [], _, .nil => pa_imp pa_nil fun σ H Q q => by
    obtain ⟨P0, G, s, o, s', m, e, k⟩ := q
    cases e
    exact k [] H G .refl m .nil
  | e :: es, _, @Paired.cons _ _ _ _ f _ fs h t => pa_imp (pa_cons (pz_of h.1) (pa_args t) (h.2 es)) fun σ H Q q => by
    obtain ⟨P0, G, s, o, s', m, e, k⟩ := q
    obtain ⟨p, e1, e⟩ := Rs.bind_inv e
    obtain ⟨q, e2, e⟩ := Rs.bind_inv e
    cases e
    exact ⟨P0, G, s, p.1, p.2, m, e1, fun v H1 G1 x1 m1 t1 => ⟨P0, G1, p.2, q.1, q.2, m1, e2, fun vs H2 G2 x2 m2 t2 =>
      k _ H2 G2 (x1.trans x2) m2 (.cons (Tp.mono x2.1 _ _ t1) t2)⟩⟩
theorem pa_oargs : ∀ {es : List Expr} {fs : List OF}, Paired (fun e f => PE X e (tOF X.K f) ∧ ∀ es, starEach (e :: es) X.env = (false, eval e X.env) :: starEach es X.env) es fs → PA X es (tOA X.K (oArgs fs))
  | [], _, .nil => pa_imp pa_nil fun σ H Q q => by
    obtain ⟨P0, G, s, o, s', m, e, k⟩ := q
    cases e
    exact k [] H G .refl m ⟨rfl, fun k o v h => by simp at h⟩
  | e :: es, _, @Paired.cons _ _ _ _ f _ fs h t => pa_imp (pa_cons h.1 (pa_oargs t) (h.2 es)) fun σ H Q q => by
    obtain ⟨P0, G, s, o, s', m, e, k⟩ := q
    obtain ⟨p, e1, e⟩ := Rs.bind_inv e
    obtain ⟨q, e2, e⟩ := Rs.bind_inv e
    cases e
    refine ⟨P0, G, s, p.1, p.2, m, e1, fun v H1 G1 x1 m1 t1 => ⟨P0, G1, p.2, q.1, q.2, m1, e2, fun vs H2 G2 x2 m2 t2 =>
      k _ H2 G2 (x1.trans x2) m2 ⟨by simp [t2.1], fun j o w ho hw => ?_⟩⟩⟩
    cases j with
    | zero => simp at ho hw; subst ho hw; exact t1.mono x2
    | succ j => exact t2.2 j o w (by simpa using ho) (by simpa using hw)
theorem size_ok {n : Nat} (h : n ≤ szMax) : n ≤ sizeLine := Nat.le_trans h (by decide)
theorem size_lt {n : Nat} (h : n < szMax) : n < sizeLine := Nat.lt_of_lt_of_le h (by decide)
theorem cArgs_len : ∀ {fs : List XF} {s : S} {p : List D × S}, cArgs fs s = .ok p → p.1.length = fs.length
  | [], s, p, h => by cases h; rfl
  | f :: fs, s, p, h => by
    obtain ⟨q, e1, h⟩ := Rs.bind_inv h
    obtain ⟨r, e2, h⟩ := Rs.bind_inv h
    cases h
    simp [cArgs_len e2]
theorem px_tup {es : List Expr} {fs : List XF} {k : Nat} (h : PA X es (tAF X.K (cArgs fs))) (hl : fs.length ≤ szMax) : PE X (.Tuple es k pos) (tXF X.K (cTup fs)) := pe_imp (pe_tup h) fun σ H Q q => by
  obtain ⟨P0, G, s, o, s', m, e, k⟩ := q
  obtain ⟨p, e1, e⟩ := Rs.bind_inv e
  cases e
  refine ⟨P0, G, s, p.1, p.2, m, e1, fun vs H1 G1 x1 m1 t1 => ⟨by rw [t1.length, cArgs_len e1]; exact size_ok hl, fun a ha => ?_⟩⟩
  exact Post.tup m1 t1 (fun v H' G' x2 m2 r2 => k v H' G' (x1.trans x2) m2 r2) ha
theorem px_lst {es : List Expr} {fs : List XF} (h : PA X es (tAF X.K (cArgs fs))) (hl : fs.length ≤ szMax) : PE X (.List es pos) (tXF X.K (cLst fs)) := pe_imp (pe_lst h) fun σ H Q q => by
  obtain ⟨P0, G, s, o, s', m, e, k⟩ := q
  obtain ⟨p, e1, e⟩ := Rs.bind_inv e
  cases e
  refine ⟨P0, G, s, p.1, p.2, m, e1, fun vs H1 G1 x1 m1 t1 => ⟨by rw [t1.length, cArgs_len e1]; exact size_ok hl, fun a ha => ?_⟩⟩
  exact Post.lst m1 t1 (fun v H' G' x2 m2 r2 => k v H' G' (x1.trans x2) m2 r2) ha
end
end Ek

/-! ## D: operations on values -/
namespace Ek
open PySem L2 PySem.Spec PyProof.Rows
section
variable {X : Cx}
theorem op_mulC : OpR X (binaryOp .Mult) (rI (fun i j => CMul i j ∨ CMulW i j) fun i j => .int (i * j)) := by
  intro pins s σ H x y v u Q I rx ry h
  obtain ⟨i, j, rfl, rfl, hc, q⟩ := h
  rcases hc with hc | hc
  · exact op_mul pins s σ H _ _ v u Q I rx ry ⟨i, j, rfl, rfl, hc, q⟩
  · exact op_mulW pins s σ H _ _ v u Q I rx ry ⟨i, j, rfl, rfl, hc, q⟩
theorem tq_int {K : PySem.W.Frag} {G H : Hp} {i : Int} {v : V} (h : Tq K G H (.int i) v) : v = .int i := by
  have h' : Tp K G (.int i) v := h
  simpa [Tp] using h'
theorem tq_str {K : PySem.W.Frag} {G H : Hp} {i : Str} {v : V} (h : Tq K G H (.str i) v) : v = .str i := by
  have h' : Tp K G (.str i) v := h
  simpa [Tp] using h'
theorem tq_bool {K : PySem.W.Frag} {G H : Hp} {i : Bool} {v : V} (h : Tq K G H (.bool i) v) : v = .bl i := by
  have h' : Tp K G (.bool i) v := h
  simpa [Tp] using h'
theorem tq_none {K : PySem.W.Frag} {G H : Hp} {v : V} (h : Tq K G H .none v) : v = .non := by
  have h' : Tp K G .none v := h
  simpa [Tp] using h'
theorem tq_tup {K : PySem.W.Frag} {G H : Hp} {ds : List D} {v : V} (h : Tq K G H (.tuple ds) v) : ∃ a vs, v = .ref a ∧ SqT K G a vs ∧ TpL K G ds vs := by
  have h' : Tp K G (.tuple ds) v := h
  simpa [Tp] using h'
theorem tp_int {K : PySem.W.Frag} {G : Hp} {i : Int} : Tp K G (.int i) (.int i) := by simp [Tp]
theorem tp_str {K : PySem.W.Frag} {G : Hp} {i : Str} : Tp K G (.str i) (.str i) := by simp [Tp]
theorem tp_bool {K : PySem.W.Frag} {G : Hp} {i : Bool} : Tp K G (.bool i) (.bl i) := by simp [Tp]
theorem tp_none {K : PySem.W.Frag} {G : Hp} : Tp K G .none .non := by simp [Tp]
theorem vop_I {K : PySem.W.Frag} {C : Int → Int → Prop} {i j k : Int} {g : Int → Int → Int} (hc : C i j) (hk : k = g i j) : VOp K (rI C fun i j => .int (g i j)) (.int i) (.int j) (.d (.int k)) := by
  intro P0 G s σ H v u Q m hx hy p
  cases tq_int hx; cases tq_int hy
  subst hk
  exact ⟨i, j, rfl, rfl, hc, p.now m tp_int⟩
theorem vop_I0 {K : PySem.W.Frag} {i j k : Int} {g : Int → Int → Int} (hk : k = g i j) : VOp K (rI0 fun i j => .int (g i j)) (.int i) (.int j) (.d (.int k)) := by
  intro P0 G s σ H v u Q m hx hy p
  cases tq_int hx; cases tq_int hy
  subst hk
  exact ⟨i, j, rfl, rfl, p.now m tp_int⟩
theorem vop_B0 {K : PySem.W.Frag} {i j : Int} {k : Bool} {g : Int → Int → Bool} (hk : k = g i j) : VOp K (rI0 fun i j => .bl (g i j)) (.int i) (.int j) (.d (.bool k)) := by
  intro P0 G s σ H v u Q m hx hy p
  cases tq_int hx; cases tq_int hy
  subst hk
  exact ⟨i, j, rfl, rfl, p.now m tp_bool⟩
theorem repS_one (a : Str) : repS a 1 = a := by
  unfold repS; simp
theorem repS_nil {a : Str} (h : a.length = 0) (n : Nat) : repS a n = a := by
  have e : a.cps = #[] := Array.eq_empty_of_size_eq_zero h
  have : ∀ n : Nat, (List.replicate n (#[] : Array Nat)).foldl (· ++ ·) #[] = #[] := fun n => by
    induction n with
    | zero => rfl
    | succ n ih => simpa [List.replicate_succ] using ih
  unfold repS
  rw [e, this]
  cases a
  simp only at e
  rw [e]
theorem fold_size {x : Array Nat} : ∀ (n : Nat) (acc : Array Nat), ((List.replicate n x).foldl (· ++ ·) acc).size = acc.size + x.size * n
  | 0, acc => by simp
  | n + 1, acc => by
    rw [List.replicate_succ, List.foldl_cons, fold_size n, Array.size_append, Nat.mul_succ]
    omega
theorem repS_len (a : Str) (n : Nat) : (repS a n).length = a.length * n := by
  unfold repS Str.length
  have := fold_size (x := a.cps) n #[]
  simpa using this
theorem op_mul_str : OpR X (binaryOp .Mult) (fun x y H Q => ∃ a j, x = .str a ∧ y = .int j ∧ -(2 ^ 62) ≤ j ∧ j < 2 ^ 62 ∧ a.length * j.toNat ≤ sizeLine ∧ Q (.str (repS a j.toNat)) H) := by
  intro pins s σ H x y v u Q I rx ry h
  obtain ⟨a, j, rfl, rfl, h1, h2, hz, q⟩ := h
  obtain ⟨t, rfl⟩ := rx
  obtain ⟨t', rfl⟩ := ry
  refine P.mul_str (by simp; omega) (fun e1 e2 => ?_) (fun e1 e2 => ?_) ?_
  · have hj : 0 < j := by omega
    have : (a.length : Int) * j ≤ 2 ^ 63 - 1 := by
      have e : ((a.length * j.toNat : Nat) : Int) = (a.length : Int) * j := by
        rw [Int.natCast_mul, Int.toNat_of_nonneg (by omega)]
      rw [← e]
      have : sizeLine = 16777216 := rfl
      omega
    have := Int.le_ediv_of_mul_le hj this
    omega
  · unfold Builtin.Str.tooLong
    simpa using hz
  · split
    · next h0 =>
      have e : j.toNat = 0 := by omega
      rw [e] at q
      exact ⟨by decide, ⟨.str Str.empty, H, I.tok _, ⟨_, rfl⟩, q⟩⟩
    · split
      · next h0 h3 =>
        have e : repS a j.toNat = a := by
          simp only [Bool.or_eq_true, beq_iff_eq] at h3
          rcases h3 with h3 | h3
          · rw [h3]; exact repS_one a
          · exact repS_nil h3 _
        rw [e] at q
        exact ⟨.str a, H, I.tok _, ⟨_, rfl⟩, q⟩
      · exact ⟨by rw [show (⟨(List.replicate j.toNat a.cps).foldl (· ++ ·) #[]⟩ : Str) = repS a j.toNat from rfl]; exact Nat.le_trans (Nat.le_of_eq (repS_len a _)) hz, ⟨.str _, H, I.tok _, ⟨_, rfl⟩, q⟩⟩
theorem tup_mul1 (l : Addr) (items : Array Value) (n : Nat) (dd : Option Addr) (sl : Array (Option Value)) (u : Tok) :
    Meets (Builtin.«tuple.__mul__» ⟨[.ref l, .int 1 u], []⟩) (fun _ R s => s.heap.get? l = some { cls := .type "tuple", dict := dd, data := .seq items n, slots := sl } ∧
      R (.ok (.ret (Value.ref l))) s) :=
  .of_wp fun prog w A R s h => by
    obtain ⟨hp, g, d, tk, os⟩ := s
    obtain ⟨hl, h⟩ := h
    have f1 := AutoSeq1.idx_int
    have c1 : (items.isEmpty || (1 : Int) == 1) = true := by simp
    wp_walk using wpAny_loadPart' hl
    repeat (first
      | (refine wpAny_ite_false (decide_eq_false (by decide)) ?_; wp_walk using wpAny_loadPart' hl)
      | (refine wpAny_ite_true (decide_eq_true c1) ?_; wp_walk using wpAny_loadPart' hl))
    exact ⟨_, rfl, h⟩
theorem tup_mul0 (l : Addr) (items : Array Value) (n : Nat) (dd : Option Addr) (sl : Array (Option Value)) (u : Tok) (c1 : (items.isEmpty || (0 : Int) == 1) = false) :
    Meets (Builtin.«tuple.__mul__» ⟨[.ref l, .int 0 u], []⟩) (fun _ R s => s.heap.get? l = some { cls := .type "tuple", dict := dd, data := .seq items n, slots := sl } ∧
      R (.ok (.ret (Value.ref s.heap.objs.size))) { s with heap := s.heap.push { cls := Value.type "tuple", data := Data.seq #[] }, toks := s.toks }) :=
  .of_wp fun prog w A R s h => by
    obtain ⟨hp, g, d, tk, os⟩ := s
    obtain ⟨hl, h⟩ := h
    have f1 := AutoSeq1.idx_int
    have c2 : (decide ((0 : Int) ≤ 0) || items.isEmpty) = true := by simp
    wp_walk using wpAny_loadPart' hl
    repeat (first
      | (refine wpAny_ite_false (decide_eq_false (by decide)) ?_; wp_walk using wpAny_loadPart' hl)
      | (refine wpAny_ite_false (decide_eq_false (by rw [c1]; exact Bool.false_ne_true)) ?_; wp_walk using wpAny_loadPart' hl)
      | (refine wpAny_ite_true (decide_eq_true c2) ?_; wp_walk using wpAny_loadPart' hl))
    exact ⟨_, rfl, h⟩
def rRep3 (K : PySem.W.Frag) : R2 := fun x y H Q => ∃ l k xs, x = .ref l ∧ y = .int k ∧ SqT K H l xs ∧ xs ≠ [] ∧ 0 ≤ k ∧ k ≤ 1000 ∧ xs.length ≤ 1000 ∧ (k = 1 → Q (.ref l) H) ∧ (k ≠ 1 → ∀ p, H p = none → Q (.ref p) (upd H p (.tup (List.replicate k.toNat xs).flatten)))
theorem op_rep3 : OpR X (binaryOp .Mult) (rRep3 X.K) := by
  intro pins s σ H x y v u Q I rx ry h
  obtain ⟨l, k, xs, rfl, rfl, hT, hne, h1, h2, hz, q1, q2⟩ := h
  by_cases hk : 2 ≤ k
  · exact op_repT pins s σ H _ _ v u Q I rx ry ⟨l, k, xs, rfl, rfl, hT, hne, hk, h2, hz, q2 (by omega)⟩
  cases rx
  obtain ⟨t, rfl⟩ := ry
  obtain ⟨its, r, ⟨⟨cls, dd, data, sl⟩, ho, hc, n, hd⟩, hs⟩ := I.tuple hT
  simp only at hc hd
  subst hc hd
  have hle : its.length = xs.length := r.length.symm
  have hn : its ≠ [] := fun e => hne (by
    rw [e] at hle
    exact List.eq_nil_of_length_eq_zero hle.symm)
  have hi : its.toArray.isEmpty = false := by
    cases its with
    | nil => exact absurd rfl hn
    | cons a b => rfl
  have hk01 : k = 1 ∨ k = 0 := by omega
  rcases hk01 with rfl | rfl
  · refine wpAny_binaryOp_repeat_ref (T := "tuple") (U := "int") (by decide) ⟨_, ho, rfl⟩ (fun s' => typeIs_int s' 1 t) noFill_tuple_mul F.fills_int_mul F.slot_int_rmul repeat_tuple F.slot_int_index.lookup
      (call_meets F.slot_int_rmul (typeIs_int s 1 t) F.entry_int_rmul (F.args_int_rmul_2 _ _) (int_rmul_tuple 1 t l its.toArray n dd sl)
        ⟨ho, rfl, ⟨_, ho, rfl⟩, call_meets F.slot_tuple_mul ⟨_, ho, rfl⟩ F.entry_tuple_mul (F.args_tuple_mul_2 _ _) (tup_mul1 l its.toArray n dd sl t) ⟨ho, ?_⟩⟩)
    exact ⟨.ref l, H, I, rfl, q1 rfl⟩
  · refine wpAny_binaryOp_repeat_ref (T := "tuple") (U := "int") (by decide) ⟨_, ho, rfl⟩ (fun s' => typeIs_int s' 0 t) noFill_tuple_mul F.fills_int_mul F.slot_int_rmul repeat_tuple F.slot_int_index.lookup
      (call_meets F.slot_int_rmul (typeIs_int s 0 t) F.entry_int_rmul (F.args_int_rmul_2 _ _) (int_rmul_tuple 0 t l its.toArray n dd sl)
        ⟨ho, rfl, ⟨_, ho, rfl⟩, call_meets F.slot_tuple_mul ⟨_, ho, rfl⟩ F.entry_tuple_mul (F.args_tuple_mul_2 _ _) (tup_mul0 l its.toArray n dd sl t (by rw [hi]; rfl)) ⟨ho, ?_⟩⟩)
    refine ⟨.ref s.heap.objs.size, _, I.laid (t' := s.toks) (o := .tup []) (fun b ob q => Heap.get?_push_of_some _ q) (Nat.le_refl _) ?_, rfl, q2 (by omega) _ (I.hok.fresh (Nat.le_refl _))⟩
    exact ⟨by simp, [], .nil, IsTup.new _ _⟩
theorem bin_ok {op : Operator} {x y : D} {r : R} (h : dBin op x y = some r) : ∃ rr, OpR X (binaryOp op) rr ∧ VOp X.K rr x y r := by
  unfold dBin at h
  split at h
  · cases h; exact ⟨_, op_add, vop_I0 rfl⟩
  · split at h
    · next hz =>
      cases h
      refine ⟨_, op_add_str, fun P0 G s σ H v u Q m hx hy p => ?_⟩
      cases tq_str hx; cases tq_str hy
      exact ⟨_, _, rfl, rfl, size_ok hz, p.now m tp_str⟩
    · cases h
  · split at h
    · next hz =>
      cases h
      refine ⟨_, op_cat, fun P0 G s σ H v u Q m hx hy p => ?_⟩
      obtain ⟨a, vs, rfl, ha, ta⟩ := hx
      obtain ⟨b, ws, rfl, hb, tb⟩ := hy
      exact ⟨a, b, vs, ws, rfl, rfl, ha, hb, by rw [ta.length, tb.length]; exact size_ok hz, fun p' hp => Post.lst m (ta.append tb) p hp⟩
    · cases h
  · split at h
    · next hz =>
      cases h
      refine ⟨_, op_catA, fun P0 G s σ H v u Q m hx hy p => ?_⟩
      obtain ⟨a, vs, rfl, ha, ta⟩ := tq_tup hx
      obtain ⟨b, ws, rfl, hb, tb⟩ := tq_tup hy
      refine ⟨a, b, vs, ws, rfl, rfl, m.fro.sqt ha, m.fro.sqt hb, by rw [ta.length, tb.length]; exact size_ok hz, fun e => ?_, fun _ e => ?_, fun _ _ p' hp => Post.tup m (ta.append tb) p hp⟩
      · refine p.now m ?_
        rw [ta.nil_iff.mp e, List.nil_append]
        simp only [Tp]; exact ⟨b, ws, rfl, hb, tb⟩
      · refine p.now m ?_
        rw [tb.nil_iff.mp e, List.append_nil]
        simp only [Tp]; exact ⟨a, vs, rfl, ha, ta⟩
    · cases h
  · cases h; exact ⟨_, op_sub, vop_I0 rfl⟩
  · split at h
    · next hz =>
      cases h
      refine ⟨_, op_mulC, vop_I ?_ rfl⟩
      rcases hz with hz | hz
      · refine .inl ?_
        unfold CMul
        rcases hz with hz | hz
        · exact .inl (by omega)
        · exact .inr (by omega)
      · exact .inr hz
    · cases h
  · split at h
    · next hz =>
      cases h
      refine ⟨_, op_rep, fun P0 G s σ H v u Q m hx hy p => ?_⟩
      obtain ⟨a, vs, rfl, ha, ta⟩ := hx
      cases tq_int hy
      refine ⟨a, _, vs, rfl, rfl, ha, by omega, by omega, by rw [ta.length]; exact size_ok hz.2.2, fun p' hp => Post.lst m (ta.rep _) p hp⟩
    · cases h
  · split at h
    · next hz =>
      cases h
      refine ⟨_, op_mul_str, fun P0 G s σ H v u Q m hx hy p => ?_⟩
      cases tq_str hx; cases tq_int hy
      exact ⟨_, _, rfl, rfl, by omega, by omega, size_ok hz.2.2, p.now m tp_str⟩
    · cases h
  · split at h
    · next hz =>
      cases h
      refine ⟨_, op_rep3, fun P0 G s σ H v u Q m hx hy p => ?_⟩
      obtain ⟨a, vs, rfl, ha, ta⟩ := tq_tup hx
      cases tq_int hy
      refine ⟨a, _, vs, rfl, rfl, m.fro.sqt ha, fun e => ?_, hz.1, hz.2.1, by rw [ta.length]; exact hz.2.2.2, fun e => ?_, fun _ p' hp => Post.tup m (ta.rep _) p hp⟩
      · have := hz.2.2.1
        rw [ta.nil_iff.mp e] at this
        cases this
      · subst e
        refine p.now m ?_
        rw [show (1 : Int).toNat = 1 from rfl, List.replicate_one, List.flatten_singleton]
        simp only [Tp]; exact ⟨a, vs, rfl, ha, ta⟩
    · cases h
  · split at h
    · next hz => cases h; exact ⟨_, op_fdivW, vop_I hz rfl⟩
    · cases h
  · split at h
    · next hz => cases h; exact ⟨_, op_mod, vop_I (C := fun _ j => 0 < j) hz rfl⟩
    · cases h
  · split at h
    · next hz => cases h; exact ⟨_, op_pow, vop_I hz rfl⟩
    · cases h
  · split at h
    · next hz => cases h; exact ⟨_, op_shl, vop_I hz rfl⟩
    · cases h
  · split at h
    · next hz => cases h; exact ⟨_, op_shr, vop_I (C := fun _ j => 0 ≤ j) hz rfl⟩
    · cases h
  · cases h; exact ⟨_, op_and, vop_I0 rfl⟩
  · cases h; exact ⟨_, op_or, vop_I0 rfl⟩
  · cases h; exact ⟨_, op_xor, vop_I0 rfl⟩
  · cases h
theorem iop_ok {op : Operator} {x y : D} {r : R} (h : dIop op x y = some r) : ∃ rr, OpR X (inplaceOp op) rr ∧ VOp X.K rr x y r := by
  unfold dIop at h
  split at h
  · cases h; exact ⟨_, iop_add, vop_I0 rfl⟩
  · cases h; exact ⟨_, iop_sub, vop_I0 rfl⟩
  · split at h
    · next hz => cases h; exact ⟨_, iop_shl, vop_I hz rfl⟩
    · cases h
  · split at h
    · next hz => cases h; exact ⟨_, iop_shr, vop_I (C := fun _ j => 0 ≤ j) hz rfl⟩
    · cases h
  · cases h; exact ⟨_, iop_and, vop_I0 rfl⟩
  · cases h; exact ⟨_, iop_or, vop_I0 rfl⟩
  · cases h; exact ⟨_, iop_xor, vop_I0 rfl⟩
  · cases h
/-! ### comparisons -/
theorem tq_scal {K : PySem.W.Frag} {G H : Hp} {x y : D} {v u : V} (hs : scalD x y = true) (hx : Tq K G H x v) (hy : Tq K G H y u) : scal v u = true ∧ decide (v = u) = eqScal x y := by
  unfold scalD at hs
  split at hs <;> first
    | (cases hs; done)
    | (first | cases tq_none hx | cases tq_int hx | cases tq_bool hx | cases tq_str hx) <;> (first | cases tq_none hy | cases tq_int hy | cases tq_bool hy | cases tq_str hy) <;> (refine ⟨rfl, ?_⟩; simp [eqScal]; try (first | rfl | (rename_i a b; cases a <;> cases b <;> rfl)))
theorem eq_ok {x y : D} {k : Bool} (hu : X.A.units + 64 < cLine) (h : dEq x y = some k) : (∃ rr, OpR X (compareOp .Eq) rr ∧ VOp X.K rr x y (.d (.bool k))) ∧ ∃ rr, OpR X (compareOp .NotEq) rr ∧ VOp X.K rr x y (.d (.bool (!k))) := by
  unfold dEq at h
  split at h
  · next hs =>
    cases h
    refine ⟨⟨_, op_eq, fun P0 G s σ H v u Q m hx hy p => ?_⟩, ⟨_, op_ne, fun P0 G s σ H v u Q m hx hy p => ?_⟩⟩
    · obtain ⟨h1, h2⟩ := tq_scal hs hx hy
      exact ⟨h1, by rw [h2]; exact p.now m tp_bool⟩
    · obtain ⟨h1, h2⟩ := tq_scal hs hx hy
      exact ⟨h1, by rw [h2]; exact p.now m tp_bool⟩
  · split at h
    · next hz =>
      cases h
      refine ⟨⟨_, op_eqD hu, fun P0 G s σ H v u Q m hx hy p => ?_⟩, ⟨_, op_neD hu, fun P0 G s σ H v u Q m hx hy p => ?_⟩⟩
      · exact ⟨x, y, Tp.dp _ _ (hx.tp m.fro), Tp.dp _ _ (hy.tp m.fro), hz.1, hz.2, p.now m tp_bool⟩
      · exact ⟨x, y, Tp.dp _ _ (hx.tp m.fro), Tp.dp _ _ (hy.tp m.fro), hz.1, hz.2, p.now m tp_bool⟩
    · cases h
theorem flat_V {K : PySem.W.Frag} {G : Hp} {x : D} {v : V} (f : flatD x = true) (h : Tp K G x v) : flatV v = true := by
  cases x <;> simp [Tp] at h <;> first | (subst h; rfl) | (cases f)
theorem flat_eq {K : PySem.W.Frag} {G : Hp} {x y : D} {v u : V} (f : flatD x = true) (h : Tp K G x v) (f' : flatD y = true) (h' : Tp K G y u) : eqV u v = PyData.eqv y x := by
  cases x <;> simp [Tp] at h <;> cases y <;> simp [Tp] at h' <;> first | (subst h h'; first | rfl | (simp [eqV, PyData.eqv]; done)) | (cases f; done) | (cases f'; done)
theorem flat_all {K : PySem.W.Frag} {G : Hp} : ∀ {xs : List D} {vs : List V}, xs.all flatD = true → TpL K G xs vs → vs.all flatV = true
  | [], vs, _, h => by simp [TpL] at h; subst h; rfl
  | x :: xs, vs, f, h => by
    simp only [TpL] at h
    obtain ⟨v, r, rfl, t, u⟩ := h
    simp only [List.all_cons, Bool.and_eq_true] at f ⊢
    exact ⟨flat_V f.1 t, flat_all f.2 u⟩
theorem flat_any {K : PySem.W.Frag} {G : Hp} {x : D} {v : V} (f : flatD x = true) (h : Tp K G x v) : ∀ {xs : List D} {vs : List V}, xs.all flatD = true → TpL K G xs vs → inV v vs = xs.any fun y => PyData.eqv y x
  | [], vs, _, h => by simp [TpL] at h; subst h; rfl
  | y :: xs, vs, f', h' => by
    simp only [TpL] at h'
    obtain ⟨u, r, rfl, t, w⟩ := h'
    simp only [List.all_cons, Bool.and_eq_true] at f'
    have ih := flat_any f h f'.2 w
    unfold inV at ih ⊢
    rw [List.any_cons, List.any_cons, ih, flat_eq f h f'.1 t]
def rInT (K : PySem.W.Frag) : R2 := fun x y H Q => ∃ d ds, Dp K H x d ∧ Dp K H y (.tuple ds) ∧ SeqAt.shaped d = true ∧ SeqAt.shaped (.list ds) = true ∧ Q (.bl (ds.any fun z => PyData.eqv z d)) H
def rNotInT (K : PySem.W.Frag) : R2 := fun x y H Q => ∃ d ds, Dp K H x d ∧ Dp K H y (.tuple ds) ∧ SeqAt.shaped d = true ∧ SeqAt.shaped (.list ds) = true ∧ Q (.bl (!ds.any fun z => PyData.eqv z d)) H
theorem op_inT (hu : X.A.units + 65 < cLine) : OpR X (compareOp .In) (rInT X.K) := by
  intro pins s σ H x y v u Q I rx ry h
  obtain ⟨d, ds, hd, he, sd, se, q⟩ := h
  obtain ⟨as, r1⟩ := Dp.reads I d x v hd rx
  obtain ⟨bs, r2⟩ := Dp.reads I (.tuple ds) y u he ry
  exact SeqAt.in_tuple_reads r2 r1 (SeqAt.canLay_of_shaped se) (SeqAt.canLay_of_shaped sd) (room_in_shaped sd hu) ⟨.bl _, H, I, rfl, q⟩
theorem op_notInT (hu : X.A.units + 65 < cLine) : OpR X (compareOp .NotIn) (rNotInT X.K) := by
  intro pins s σ H x y v u Q I rx ry h
  obtain ⟨d, ds, hd, he, sd, se, q⟩ := h
  obtain ⟨as, r1⟩ := Dp.reads I d x v hd rx
  obtain ⟨bs, r2⟩ := Dp.reads I (.tuple ds) y u he ry
  exact SeqAt.notIn_tuple_reads r2 r1 (SeqAt.canLay_of_shaped se) (SeqAt.canLay_of_shaped sd) (room_in_shaped sd hu) ⟨.bl _, H, I, rfl, q⟩
theorem in_ok {x y : D} {k : Bool} (hu : X.A.units + 65 < cLine) (h : dIn x y = some k) : (∃ rr, OpR X (compareOp .In) rr ∧ VOp X.K rr x y (.d (.bool k))) ∧ ∃ rr, OpR X (compareOp .NotIn) rr ∧ VOp X.K rr x y (.d (.bool (!k))) := by
  unfold dIn at h
  split at h
  · next ys =>
    split at h
    · next hz =>
      cases h
      have fx : ∀ {G H : Hp} {v : V}, Tq X.K G H x v → Tp X.K G x v := fun {G H v} hx => by
        cases x with
        | list _ => cases hz.1
        | _ => exact hx
      refine ⟨⟨_, op_in_seq, fun P0 G s σ H v u Q m hx hy p => ?_⟩, ⟨_, op_notIn_seq, fun P0 G s σ H v u Q m hx hy p => ?_⟩⟩
      · obtain ⟨a, vs, rfl, ha, ta⟩ := hy
        refine ⟨a, vs, rfl, .inl (.of ha), flat_V hz.1 (fx hx), flat_all hz.2 ta, ?_⟩
        rw [flat_any hz.1 (fx hx) hz.2 ta]
        exact p.now m tp_bool
      · obtain ⟨a, vs, rfl, ha, ta⟩ := hy
        refine ⟨a, vs, rfl, .inl (.of ha), flat_V hz.1 (fx hx), flat_all hz.2 ta, ?_⟩
        rw [flat_any hz.1 (fx hx) hz.2 ta]
        exact p.now m tp_bool
    · split at h
      · next hz =>
        cases h
        refine ⟨⟨_, op_inD hu, fun P0 G s σ H v u Q m hx hy p => ?_⟩, ⟨_, op_notInD hu, fun P0 G s σ H v u Q m hx hy p => ?_⟩⟩
        · exact ⟨x, ys, Tp.dp _ _ (hx.tp m.fro), Tp.dp _ _ (hy.tp m.fro), hz.1, hz.2, p.now m tp_bool⟩
        · exact ⟨x, ys, Tp.dp _ _ (hx.tp m.fro), Tp.dp _ _ (hy.tp m.fro), hz.1, hz.2, p.now m tp_bool⟩
      · cases h
  · next ys =>
    split at h
    · next hz =>
      cases h
      have fx : ∀ {G H : Hp} {v : V}, Tq X.K G H x v → Tp X.K G x v := fun {G H v} hx => by
        cases x with
        | list _ => cases hz.1
        | _ => exact hx
      refine ⟨⟨_, op_in_seq, fun P0 G s σ H v u Q m hx hy p => ?_⟩, ⟨_, op_notIn_seq, fun P0 G s σ H v u Q m hx hy p => ?_⟩⟩
      · obtain ⟨a, vs, rfl, ha, ta⟩ := tq_tup hy
        refine ⟨a, vs, rfl, .inr (m.fro.sqt ha), flat_V hz.1 (fx hx), flat_all hz.2 ta, ?_⟩
        rw [flat_any hz.1 (fx hx) hz.2 ta]
        exact p.now m tp_bool
      · obtain ⟨a, vs, rfl, ha, ta⟩ := tq_tup hy
        refine ⟨a, vs, rfl, .inr (m.fro.sqt ha), flat_V hz.1 (fx hx), flat_all hz.2 ta, ?_⟩
        rw [flat_any hz.1 (fx hx) hz.2 ta]
        exact p.now m tp_bool
    · split at h
      · next hz =>
        cases h
        refine ⟨⟨_, op_inT hu, fun P0 G s σ H v u Q m hx hy p => ?_⟩, ⟨_, op_notInT hu, fun P0 G s σ H v u Q m hx hy p => ?_⟩⟩
        · exact ⟨x, ys, Tp.dp _ _ (hx.tp m.fro), Tp.dp _ _ (hy.tp m.fro), hz.1, hz.2, p.now m tp_bool⟩
        · exact ⟨x, ys, Tp.dp _ _ (hx.tp m.fro), Tp.dp _ _ (hy.tp m.fro), hz.1, hz.2, p.now m tp_bool⟩
      · cases h
  · next z =>
    split at h
    · next c =>
      split at h
      · next hc =>
        cases h
        have e : c = ⟨#[c.cps.getD 0 0]⟩ := by
          obtain ⟨a⟩ := c
          obtain ⟨l⟩ := a
          match l, hc with
          | [x], _ => rfl
        refine ⟨⟨_, op_in_sign, fun P0 G s σ H v u Q m hx hy p => ?_⟩, ⟨_, op_notIn_sign, fun P0 G s σ H v u Q m hx hy p => ?_⟩⟩
        · exact ⟨_, z, by rw [tq_str hx]; exact congrArg V.str e, tq_str hy, p.now m tp_bool⟩
        · exact ⟨_, z, by rw [tq_str hx]; exact congrArg V.str e, tq_str hy, p.now m tp_bool⟩
      · cases h
    · cases h
  · cases h
theorem tq_isN {K : PySem.W.Frag} {G H : Hp} {x : D} {v : V} (h : Tq K G H x v) : decide (v = .non) = isNon x := by
  cases x with
  | none => cases tq_none h; rfl
  | bool b => cases tq_bool h; rfl
  | int b => cases tq_int h; rfl
  | str b => cases tq_str h; rfl
  | list b => obtain ⟨a, vs, rfl, _⟩ := h; rfl
  | tuple b => obtain ⟨a, vs, rfl, _⟩ := tq_tup h; rfl
  | dict b =>
    have h' : Tp K G (.dict b) v := h
    simp [Tp] at h'
theorem ints_ofD {K : PySem.W.Frag} {G : Hp} : ∀ {xs : List D} {ns : List Int} {vs : List V}, ints? xs = some ns → TpL K G xs vs → vs = ns.map V.int
  | [], ns, vs, e, t => by cases e; simpa [TpL] using t
  | x :: xs, ns, vs, e, t => by
    cases x with
    | int i =>
      simp only [ints?] at e
      cases h : ints? xs with
      | none => rw [h] at e; cases e
      | some ms =>
        rw [h] at e; cases e
        simp only [TpL] at t
        obtain ⟨v, r, rfl, t1, t2⟩ := t
        simp [Tp] at t1
        rw [t1, ints_ofD h t2]; rfl
    | _ => cases e
theorem cmp_ok {op : CmpOp} {x y : D} {k : Bool} (hu : X.A.units + 65 < cLine) (h : dCmp op x y = some k) : ∃ rr, OpR X (compareOp op) rr ∧ VOp X.K rr x y (.d (.bool k)) := by
  unfold dCmp at h
  split at h
  · exact (eq_ok (by omega) h).1
  · cases he : dEq x y with
    | none => rw [he] at h; cases h
    | some k' => rw [he] at h; cases h; exact (eq_ok (by omega) he).2
  · cases h; exact ⟨_, op_lt, vop_B0 rfl⟩
  · cases h
    refine ⟨_, op_lt_str, fun P0 G s σ H v u Q m hx hy p => ?_⟩
    exact ⟨_, _, tq_str hx, tq_str hy, p.now m tp_bool⟩
  · split at h
    · next ns ms h1 h2 =>
      cases h
      refine ⟨_, op_ltT (by omega), fun P0 G s σ H v u Q m hx hy p => ?_⟩
      obtain ⟨a, vs, rfl, ha, ta⟩ := tq_tup hx
      obtain ⟨b, ws, rfl, hb, tb⟩ := tq_tup hy
      rw [ints_ofD h1 ta] at ha
      rw [ints_ofD h2 tb] at hb
      exact ⟨a, b, ns, ms, rfl, rfl, m.fro.sqt ha, m.fro.sqt hb, p.now m tp_bool⟩
    · cases h
  · cases h; exact ⟨_, op_le, vop_B0 rfl⟩
  · cases h; exact ⟨_, op_gt, vop_B0 rfl⟩
  · cases h; exact ⟨_, op_ge, vop_B0 rfl⟩
  · cases h
    refine ⟨_, op_isN, fun P0 G s σ H v u Q m hx hy p => ⟨tq_none hy, ?_⟩⟩
    rw [tq_isN hx]
    exact p.now m tp_bool
  · cases h
    refine ⟨_, op_notN, fun P0 G s σ H v u Q m hx hy p => ⟨tq_none hy, ?_⟩⟩
    rw [tq_isN hx]
    exact p.now m tp_bool
  · exact (in_ok hu h).1
  · cases he : dIn x y with
    | none => rw [he] at h; cases h
    | some k' => rw [he] at h; cases h; exact (in_ok hu he).2
  · cases h
/-! ### truth, length, places, slices -/
theorem tru_D {K : PySem.W.Frag} {G H : Hp} {x : D} {v : V} {k : Bool} (z : Sub G H) (h : Tq K G H x v) (e : dTru x = some k) : TruV K v H k := by
  cases x with
  | none => cases tq_none h; cases e; rfl
  | bool b => cases tq_bool h; cases e; rfl
  | int i => cases tq_int h; cases e; rfl
  | str y =>
    cases tq_str h
    have e' : (if y.length ≤ szMax then some ((y.length : Int) != 0) else none) = some k := e
    split at e'
    · next hz => cases e'; exact ⟨size_ok hz, rfl⟩
    · cases e'
  | list xs =>
    obtain ⟨a, vs, rfl, ha, t⟩ := h
    cases e
    refine .inl ⟨vs, .of ha, ?_⟩
    have := t.length
    cases xs <;> cases vs <;> simp at this ⊢
  | tuple xs =>
    obtain ⟨a, vs, rfl, ha, t⟩ := tq_tup h
    cases e
    refine .inr (.inl ⟨vs, z.sqt ha, ?_⟩)
    have := t.length
    cases xs <;> cases vs <;> simp at this ⊢
  | dict b => cases e
theorem TpL.at {K : PySem.W.Frag} {G : Hp} {xs : List D} {vs : List V} {i : Int} {x : D} (t : TpL K G xs vs) (e : atI xs i = some x) : ∃ v, atI vs i = some v ∧ Tp K G x v := by
  unfold atI at e ⊢
  rw [t.length]
  cases h : ixN xs.length i with
  | none => rw [h] at e; cases e
  | some j =>
    rw [h] at e
    exact t.get e
theorem ix_ok {x y : D} {r : R} (h : dIx x y = some r) : ∃ rr, IxR X rr ∧ VOp X.K rr x y r := by
  unfold dIx at h
  split at h
  · next xs i =>
    cases hx : atI xs i with
    | none => rw [hx] at h; cases h
    | some d =>
      rw [hx] at h; cases h
      refine ⟨_, ix_list, fun P0 G s σ H v u Q m hv hu p => ?_⟩
      obtain ⟨a, vs, rfl, ha, t⟩ := hv
      cases tq_int hu
      obtain ⟨w, e, tw⟩ := t.at hx
      exact ⟨a, vs, i, w, rfl, rfl, .of ha, e, p.now m tw⟩
  · next xs i =>
    cases hx : atI xs i with
    | none => rw [hx] at h; cases h
    | some d =>
      rw [hx] at h; cases h
      refine ⟨_, ix_tup, fun P0 G s σ H v u Q m hv hu p => ?_⟩
      obtain ⟨a, vs, rfl, ha, t⟩ := tq_tup hv
      cases tq_int hu
      obtain ⟨w, e, tw⟩ := t.at hx
      exact ⟨a, vs, i, w, rfl, rfl, m.fro.sqt ha, e, p.now m tw⟩
  · next z i =>
    split at h
    · next hz =>
      cases hx : atI z.cps.toList i with
      | none => rw [hx] at h; cases h
      | some c =>
        rw [hx] at h; cases h
        refine ⟨_, ix_str, fun P0 G s σ H v u Q m hv hu p => ?_⟩
        cases tq_str hv; cases tq_int hu
        exact ⟨z, i, c, rfl, rfl, size_ok hz, hx, p.now m tp_str⟩
    · cases h
  · cases h
/-- a slice, by values -/
def VSl (K : PySem.W.Frag) (r : V → Option Int → Option Int → Hp → VK → Prop) (x : D) (lo hi : Option Int) (res : R) : Prop := ∀ P0 G s σ H v Q, Sim K P0 G s σ H → Tq K G H x v → Post K P0 G s σ Q res → r v lo hi H Q
theorem TpL.cut {K : PySem.W.Frag} {G : Hp} {xs : List D} {vs : List V} (t : TpL K G xs vs) (lo hi : Option Int) : TpL K G (cutD xs lo hi) (cutV vs lo hi) := by
  unfold cutD cutV
  rw [t.length]
  exact (t.drop _).take _
theorem sl_ok {x : D} {lo hi : Option Int} {r : R} (h : dSl x lo hi = some r) : ∃ rr, SlR X rr ∧ VSl X.K rr x lo hi r := by
  unfold dSl at h
  split at h
  · cases h
    refine ⟨_, sl_list, fun P0 G s σ H v Q m hv p => ?_⟩
    obtain ⟨a, vs, rfl, ha, t⟩ := hv
    exact ⟨a, vs, rfl, .of ha, fun p' hp => Post.lst m (t.cut lo hi) p hp⟩
  · next xs =>
    cases h
    refine ⟨_, sl_tupA, fun P0 G s σ H v Q m hv p => ?_⟩
    obtain ⟨a, vs, rfl, ha, t⟩ := tq_tup hv
    refine ⟨a, vs, rfl, m.fro.sqt ha, fun e => ?_, fun _ p' hp => Post.tup m (t.cut lo hi) p hp⟩
    refine p.now m ?_
    have : cutD xs lo hi = xs := by
      unfold cutD
      rw [t.length] at e
      rw [e.1, e.2]
      simp
    rw [this]
    simp only [Tp]; exact ⟨a, vs, rfl, ha, t⟩
  · next z =>
    split at h
    · next hz =>
      cases h
      refine ⟨_, sl_str, fun P0 G s σ H v Q m hv p => ?_⟩
      cases tq_str hv
      exact ⟨z, rfl, size_ok hz, p.now m tp_str⟩
    · cases h
  · cases h
end
end Ek

/-! ## E: tests, slices, calls, comprehensions -/
namespace Ek
open PySem L2 PySem.Spec PyProof.Rows
section
variable {X : Cx} {a b c e : Expr} {fa fb fc : OF} {f f' : XF} {ft ft' : TF} {pos : Pos}
/-! ### tests -/
theorem pt_tru (ha : PE X a (tOF X.K fa)) (he : ∀ whole, isTrue a X.env whole = (do let v ← whole; standAt a.pos; holding [v] (truthy v))) : PT X a (tTF X.K (tTru fa)) := pt_imp (pt_truth ha he) fun σ H Q q => by
  obtain ⟨P0, G, s, o, s', m, e, k⟩ := q
  obtain ⟨p, e1, e⟩ := Rs.bind_inv e
  obtain ⟨x, e2, e⟩ := Rs.bind_inv e
  obtain ⟨bb, e3, e⟩ := Rs.bind_inv e
  cases e
  exact ⟨P0, G, s, p.1, p.2, m, e1, fun v H1 G1 x1 m1 o1 => ⟨_, tru_D m1.fro (deref_tq m1 o1 (gv_inv e2)) (gv_inv e3), k H1 G1 x1 m1⟩⟩
theorem tBl_inv {f : XF} {s : S} {p : Bool × S} (h : tBl f s = .ok p) : f s = .ok (.d (.bool p.1), p.2) := by
  obtain ⟨q, e1, h⟩ := Rs.bind_inv h
  obtain ⟨r, s'⟩ := q
  cases r with
  | d x =>
    cases x with
    | bool b => cases h; exact e1
    | _ => cases h
  | own _ => cases h
  | scr _ => cases h
theorem pt_cmp {op : CmpOp} (hu : X.A.units + 65 < cLine) (ha : PE X a (tOF X.K fa)) (hb : PE X b (tOF X.K fb)) (hm : behindInMarks op b = false) : PT X (.Compare a [op] [b] pos) (tTF X.K (tBl (cCmp op fa fb))) := by
  refine ⟨fun pins s σ H Q I h => ?_⟩
  obtain ⟨P0, G, st, k, st', m, e, q⟩ := h
  have e' := tBl_inv e
  obtain ⟨p, q', x, y, e1, e2, d1, d2, e5, e6⟩ := cBin_inv e'
  unfold bR at e5
  cases hk : dCmp op x y with
  | none => rw [hk] at e5; cases e5
  | some b' =>
    rw [hk] at e5
    obtain ⟨rr, ho, hv⟩ := cmp_ok (X := X) hu hk
    have e7 : k = b' := by cases e5; rfl
    subst e7
    have e8 : st' = q'.2 := e6
    subst e8
    refine (pt_cmpR ho ha hb hm).run pins s σ H Q I (bin_read m e1 e2 d1 d2 hv fun v H' G' x3 m3 r3 => ?_)
    have r3' : v = .bl k := by
      have r4 : Tp X.K G' (.bool k) v := r3
      simpa [Tp] using r4
    exact ⟨k, r3', q H' G' x3 m3⟩
theorem bl_of {K : PySem.W.Frag} {P0 G H : Hp} {s : S} {σ : L2.St} {k : Bool} {v : V} (h : RR K P0 G s σ H (.d (.bool k)) v) : v = .bl k := by
  have h' : Tp K G (.bool k) v := h
  simpa [Tp] using h'
theorem rr_bool {K : PySem.W.Frag} {P0 G H : Hp} {s : S} {σ : L2.St} {k : Bool} : RR K P0 G s σ H (.d (.bool k)) (.bl k) := tp_bool (K := K) (G := G)
theorem rr_int {K : PySem.W.Frag} {P0 G H : Hp} {s : S} {σ : L2.St} {k : Int} : RR K P0 G s σ H (.d (.int k)) (.int k) := tp_int (K := K) (G := G)
theorem chain_read {op op' : CmpOp} {P0 G H : Hp} {s : S} {σ : L2.St} {Q : VK} {r : R × S} (hu : X.A.units + 65 < cLine) (m : Sim X.K P0 G s σ H) (e : cChain op op' fa fb fc s = .ok r)
    (k : ∀ v H' G', Ext P0 G G' → Sim X.K P0 G' r.2 σ H' → RR X.K P0 G' r.2 σ H' r.1 v → Q v H') :
    ∃ rr rr', OpR X (compareOp op) rr ∧ OpR X (compareOp op') rr' ∧ tChain rr rr' (tOF X.K fa) (tOF X.K fb) (tOF X.K fc) σ H Q := by
  obtain ⟨p, e1, e⟩ := Rs.bind_inv e
  obtain ⟨q, e2, e⟩ := Rs.bind_inv e
  obtain ⟨x, d1, e⟩ := Rs.bind_inv e
  obtain ⟨y, d2, e⟩ := Rs.bind_inv e
  obtain ⟨b, h1, e⟩ := Rs.bind_inv e
  obtain ⟨rr, ho, hv⟩ := cmp_ok (X := X) hu (gv_inv h1)
  cases b with
  | false =>
    rw [if_neg (by decide)] at e
    cases e
    refine ⟨rr, fun _ _ _ _ => False, ho, fun _ _ _ _ _ _ _ _ _ _ _ _ h => h.elim, P0, G, s, p.1, p.2, m, e1, fun v1 H1 G1 x1 m1 o1 => ⟨P0, G1, p.2, q.1, q.2, m1, e2, fun v2 H2 G2 x2 m2 o2 => ?_⟩⟩
    refine hv P0 G2 q.2 σ H2 v1 v2 _ m2 (deref_tq m2 (o1.mono x2) (gv_inv d1)) (deref_tq m2 o2 (gv_inv d2)) fun v H' G' x3 m3 r3 => ⟨false, bl_of r3, ?_⟩
    rw [if_neg (by decide)]
    exact k _ H' G' (x1.trans (x2.trans x3)) m3 rr_bool
  | true =>
    rw [if_pos rfl] at e
    obtain ⟨w, e3, e⟩ := Rs.bind_inv e
    obtain ⟨y', d3, e⟩ := Rs.bind_inv e
    obtain ⟨z, d4, e⟩ := Rs.bind_inv e
    obtain ⟨b', h2, e⟩ := Rs.bind_inv e
    cases e
    obtain ⟨rr', ho', hv'⟩ := cmp_ok (X := X) hu (gv_inv h2)
    refine ⟨rr, rr', ho, ho', P0, G, s, p.1, p.2, m, e1, fun v1 H1 G1 x1 m1 o1 => ⟨P0, G1, p.2, q.1, q.2, m1, e2, fun v2 H2 G2 x2 m2 o2 => ?_⟩⟩
    refine hv P0 G2 q.2 σ H2 v1 v2 _ m2 (deref_tq m2 (o1.mono x2) (gv_inv d1)) (deref_tq m2 o2 (gv_inv d2)) fun v H' G' x3 m3 r3 => ⟨true, bl_of r3, ?_⟩
    rw [if_pos rfl]
    refine ⟨P0, G', q.2, w.1, w.2, m3, e3, fun v4 H4 G4 x4 m4 o4 => ?_⟩
    refine hv' P0 G4 w.2 σ H4 v2 v4 _ m4 (deref_tq m4 (o2.mono (x3.trans x4)) (gv_inv d3)) (deref_tq m4 o4 (gv_inv d4)) fun v H' G' x5 m5 r5 => k _ _ _ (x1.trans (x2.trans (x3.trans (x4.trans x5)))) m5 r5
theorem px_chain {op op' : CmpOp} (hu : X.A.units + 65 < cLine) (ha : PE X a (tOF X.K fa)) (hb : PE X b (tOF X.K fb)) (hc : PE X c (tOF X.K fc)) (hm : lastMarks [op, op'] [b, c] = false) :
    PE X (.Compare a [op, op'] [b, c] pos) (tXF X.K (cChain op op' fa fb fc)) := by
  refine ⟨fun pins s σ H Q I h => ?_⟩
  obtain ⟨P0, G, st, r, st', m, e, k⟩ := h
  obtain ⟨rr, rr', ho, ho', q⟩ := chain_read hu m e k
  exact (pe_chain ho ho' ha hb hc hm).run pins s σ H Q I q
theorem cChain_bool {op op' : CmpOp} {s : S} {r : R × S} (e : cChain op op' fa fb fc s = .ok r) : ∃ b, r.1 = .d (.bool b) := by
  obtain ⟨p, e1, e⟩ := Rs.bind_inv e
  obtain ⟨q, e2, e⟩ := Rs.bind_inv e
  obtain ⟨x, d1, e⟩ := Rs.bind_inv e
  obtain ⟨y, d2, e⟩ := Rs.bind_inv e
  obtain ⟨b, h1, e⟩ := Rs.bind_inv e
  cases b with
  | false =>
    rw [if_neg (by decide)] at e
    cases e
    exact ⟨_, rfl⟩
  | true =>
    rw [if_pos rfl] at e
    obtain ⟨w, e3, e⟩ := Rs.bind_inv e
    obtain ⟨y', d3, e⟩ := Rs.bind_inv e
    obtain ⟨z, d4, e⟩ := Rs.bind_inv e
    obtain ⟨b', h2, e⟩ := Rs.bind_inv e
    cases e
    exact ⟨_, rfl⟩
theorem pt_chainF {op op' : CmpOp} (hu : X.A.units + 65 < cLine) (ha : PE X a (tOF X.K fa)) (hb : PE X b (tOF X.K fb)) (hc : PE X c (tOF X.K fc)) (hm : lastMarks [op, op'] [b, c] = false) :
    PT X (.Compare a [op, op'] [b, c] pos) (tTF X.K (tBl (cChain op op' fa fb fc))) := by
  refine ⟨fun pins s σ H Q I h => ?_⟩
  obtain ⟨P0, G, st, k, st', m, e, q⟩ := h
  obtain ⟨rr, rr', ho, ho', q'⟩ := chain_read (Q := fun x H' => ∃ k, x = .bl k ∧ Q k H') hu m (tBl_inv e) fun v H' G' x m' r => ⟨k, bl_of r, q H' G' x m'⟩
  exact (pt_chain ho ho' ha hb hc hm).run pins s σ H Q I q'
theorem pt_notF (h : PT X a (tTF X.K ft)) : PT X (.UnaryOp .Not a pos) (tTF X.K (tNotF ft)) := pt_imp (pt_not h) fun σ H Q q => by
  obtain ⟨P0, G, s, o, s', m, e, k⟩ := q
  obtain ⟨p, e1, e⟩ := Rs.bind_inv e
  cases e
  exact ⟨P0, G, s, p.1, p.2, m, e1, fun H1 G1 x1 m1 => k H1 G1 x1 m1⟩
def tAnds : List TF → TF
  | [] => fun _ => .bad
  | [t] => t
  | t :: u :: r => tAndF t (tAnds (u :: r))
def tOrs : List TF → TF
  | [] => fun _ => .bad
  | [t] => t
  | t :: u :: r => tOrF t (tOrs (u :: r))
theorem and_read {K : PySem.W.Frag} {ft ft' : TF} {σ : L2.St} {H : Hp} {Q : Bool → Hp → Prop} (h : tTF K (tAndF ft ft') σ H Q) : tAnd (tTF K ft) (tTF K ft') σ H Q := by
  obtain ⟨P0, G, s, o, s', m, e, k⟩ := h
  obtain ⟨p, e1, e⟩ := Rs.bind_inv e
  refine ⟨P0, G, s, p.1, p.2, m, e1, fun H1 G1 x1 m1 => ?_⟩
  cases hb : p.1 with
  | true =>
    rw [hb, if_pos rfl] at e
    rw [if_pos rfl]
    exact ⟨P0, G1, p.2, o, s', m1, e, fun H2 G2 x2 m2 => k H2 G2 (x1.trans x2) m2⟩
  | false =>
    rw [hb, if_neg (by decide)] at e
    rw [if_neg (by decide)]
    cases e
    exact k H1 G1 x1 m1
theorem or_read {K : PySem.W.Frag} {ft ft' : TF} {σ : L2.St} {H : Hp} {Q : Bool → Hp → Prop} (h : tTF K (tOrF ft ft') σ H Q) : tOr (tTF K ft) (tTF K ft') σ H Q := by
  obtain ⟨P0, G, s, o, s', m, e, k⟩ := h
  obtain ⟨p, e1, e⟩ := Rs.bind_inv e
  refine ⟨P0, G, s, p.1, p.2, m, e1, fun H1 G1 x1 m1 => ?_⟩
  cases hb : p.1 with
  | true =>
    rw [hb, if_pos rfl] at e
    rw [if_pos rfl]
    cases e
    exact k H1 G1 x1 m1
  | false =>
    rw [hb, if_neg (by decide)] at e
    rw [if_neg (by decide)]
    exact ⟨P0, G1, p.2, o, s', m1, e, fun H2 G2 x2 m2 => k H2 G2 (x1.trans x2) m2⟩
theorem pw_ands : ∀ {es : List Expr} {fs : List TF}, Paired (fun e f => PT X e (tTF X.K f)) es fs → es ≠ [] → PW X (.BoolOp .And es pos) (tTF X.K (tAnds fs))
  | [], _, .nil, h => absurd rfl h
  | [e], _, @Paired.cons _ _ _ _ f _ _ h .nil, _ => pw_and1 h
  | e :: e' :: es, _, @Paired.cons _ _ _ _ f _ _ h (@Paired.cons _ _ _ _ f' _ fs h' t), _ =>
    pw_imp (pw_and h (pw_ands (.cons h' t) (by simp))) fun σ H Q q => and_read q
theorem pw_ors : ∀ {es : List Expr} {fs : List TF}, Paired (fun e f => PT X e (tTF X.K f)) es fs → es ≠ [] → PW X (.BoolOp .Or es pos) (tTF X.K (tOrs fs))
  | [], _, .nil, h => absurd rfl h
  | [e], _, @Paired.cons _ _ _ _ f _ _ h .nil, _ => pw_or1 h
  | e :: e' :: es, _, @Paired.cons _ _ _ _ f _ _ h (@Paired.cons _ _ _ _ f' _ fs h' t), _ =>
    pw_imp (pw_or h (pw_ors (.cons h' t) (by simp))) fun σ H Q q => or_read q
/-! ### and, or, not, if as values -/
def cAnds : List XF → XF
  | [] => fun _ => .bad
  | [t] => t
  | t :: u :: r => cAnd t (cAnds (u :: r))
def cOrs : List XF → XF
  | [] => fun _ => .bad
  | [t] => t
  | t :: u :: r => cOr t (cOrs (u :: r))
theorem andV_read {K : PySem.W.Frag} {f f' : XF} {σ : L2.St} {H : Hp} {Q : VK} (h : tXF K (cAnd f f') σ H Q) : tAndV (tXF K f) (tXF K f') σ H Q := by
  obtain ⟨P0, G, s, o, s', m, e, k⟩ := h
  obtain ⟨p, e1, e⟩ := Rs.bind_inv e
  obtain ⟨r, s1⟩ := p
  refine ⟨P0, G, s, r, s1, m, e1, fun v H1 G1 x1 m1 r1 => ?_⟩
  cases r with
  | d x =>
    cases x with
    | bool b =>
      refine ⟨b, bl_of r1, ?_⟩
      cases b with
      | true =>
        rw [if_pos rfl]
        exact ⟨P0, G1, s1, o, s', m1, e, fun v2 H2 G2 x2 m2 r2 => k v2 H2 G2 (x1.trans x2) m2 r2⟩
      | false =>
        rw [if_neg (by decide)]
        cases e
        exact k _ H1 G1 x1 m1 rr_bool
    | _ => cases e
  | own _ => cases e
  | scr _ => cases e
theorem orV_read {K : PySem.W.Frag} {f f' : XF} {σ : L2.St} {H : Hp} {Q : VK} (h : tXF K (cOr f f') σ H Q) : tOrV (tXF K f) (tXF K f') σ H Q := by
  obtain ⟨P0, G, s, o, s', m, e, k⟩ := h
  obtain ⟨p, e1, e⟩ := Rs.bind_inv e
  obtain ⟨r, s1⟩ := p
  refine ⟨P0, G, s, r, s1, m, e1, fun v H1 G1 x1 m1 r1 => ?_⟩
  cases r with
  | d x =>
    cases x with
    | bool b =>
      refine ⟨b, bl_of r1, ?_⟩
      cases b with
      | true =>
        rw [if_pos rfl]
        cases e
        exact k _ H1 G1 x1 m1 rr_bool
      | false =>
        rw [if_neg (by decide)]
        exact ⟨P0, G1, s1, o, s', m1, e, fun v2 H2 G2 x2 m2 r2 => k v2 H2 G2 (x1.trans x2) m2 r2⟩
    | _ => cases e
  | own _ => cases e
  | scr _ => cases e
theorem px_ands : ∀ {es : List Expr} {fs : List XF}, Paired (fun e f => PE X e (tXF X.K f)) es fs → es ≠ [] → PE X (.BoolOp .And es pos) (tXF X.K (cAnds fs))
  | [], _, .nil, h => absurd rfl h
  | [e], _, @Paired.cons _ _ _ _ f _ _ h .nil, _ => pe_one h
  | e :: e' :: es, _, @Paired.cons _ _ _ _ f _ _ h (@Paired.cons _ _ _ _ f' _ fs h' t), _ =>
    pe_imp (pe_and h (px_ands (.cons h' t) (by simp))) fun σ H Q q => andV_read q
theorem px_ors : ∀ {es : List Expr} {fs : List XF}, Paired (fun e f => PE X e (tXF X.K f)) es fs → es ≠ [] → PE X (.BoolOp .Or es pos) (tXF X.K (cOrs fs))
  | [], _, .nil, h => absurd rfl h
  | [e], _, @Paired.cons _ _ _ _ f _ _ h .nil, _ => pe_one h
  | e :: e' :: es, _, @Paired.cons _ _ _ _ f _ _ h (@Paired.cons _ _ _ _ f' _ fs h' t), _ =>
    pe_imp (pe_or h (px_ors (.cons h' t) (by simp))) fun σ H Q q => orV_read q
theorem px_not (ha : PE X a (tOF X.K fa)) : PE X (.UnaryOp .Not a pos) (tXF X.K (cNot (tTru fa))) := pe_imp (pe_notT ha) fun σ H Q q => by
  obtain ⟨P0, G, s, o, s', m, e, k⟩ := q
  obtain ⟨p, e1, e⟩ := Rs.bind_inv e
  obtain ⟨q, e2, e3⟩ := Rs.bind_inv e1
  obtain ⟨x, e4, e5⟩ := Rs.bind_inv e3
  obtain ⟨b, e6, e7⟩ := Rs.bind_inv e5
  cases e; cases e7
  exact ⟨P0, G, s, q.1, q.2, m, e2, fun v H1 G1 x1 m1 o1 => ⟨b, tru_D m1.fro (deref_tq m1 o1 (gv_inv e4)) (gv_inv e6), k _ H1 G1 x1 m1 rr_bool⟩⟩
theorem px_if (hc : PT X c (tTF X.K ft)) (ha : PE X a (tXF X.K f)) (hb : PE X b (tXF X.K f')) : PE X (.IfExp c a b pos) (tXF X.K (cIf ft f f')) := pe_imp (pe_ifExp hc ha hb) fun σ H Q q => by
  obtain ⟨P0, G, s, o, s', m, e, k⟩ := q
  obtain ⟨p, e1, e⟩ := Rs.bind_inv e
  refine ⟨P0, G, s, p.1, p.2, m, e1, fun H1 G1 x1 m1 => ?_⟩
  cases hb : p.1 with
  | true =>
    rw [hb, if_pos rfl] at e
    rw [if_pos rfl]
    exact ⟨P0, G1, p.2, o, s', m1, e, fun v2 H2 G2 x2 m2 r2 => k v2 H2 G2 (x1.trans x2) m2 r2⟩
  | false =>
    rw [hb, if_neg (by decide)] at e
    rw [if_neg (by decide)]
    exact ⟨P0, G1, p.2, o, s', m1, e, fun v2 H2 G2 x2 m2 r2 => k v2 H2 G2 (x1.trans x2) m2 r2⟩
theorem px_neg (ha : PE X a (tOF X.K fa)) : PE X (.UnaryOp .USub a pos) (tXF X.K (cUn (dUn .USub) fa)) := pe_imp (pe_un un_neg ha) fun σ H Q q => by
  obtain ⟨P0, G, s, o, s', m, e, k⟩ := q
  obtain ⟨p, e1, e⟩ := Rs.bind_inv e
  obtain ⟨x, e2, e⟩ := Rs.bind_inv e
  obtain ⟨r, e3, e⟩ := Rs.bind_inv e
  cases e
  refine ⟨P0, G, s, p.1, p.2, m, e1, fun v H1 G1 x1 m1 o1 => ?_⟩
  have t := deref_tq m1 o1 (gv_inv e2)
  have e4 := gv_inv e3
  cases x with
  | int i =>
    cases e4
    cases tq_int t
    exact ⟨i, rfl, k _ H1 G1 x1 m1 rr_int⟩
  | _ => cases e4
/-! ### slices -/
theorem po_no : PO X none (tPF X.K pNo) := po_imp po_none fun σ H Q q => by
  obtain ⟨P0, G, s, o, s', m, e, k⟩ := q
  cases e
  exact k H G .refl m
theorem po_at (h : PE X e (tXF X.K f)) : PO X (some e) (tPF X.K (pAt f)) := po_imp (po_some h) fun σ H Q q => by
  obtain ⟨P0, G, s, o, s', m, e, k⟩ := q
  obtain ⟨p, e1, e⟩ := Rs.bind_inv e
  obtain ⟨r, s1⟩ := p
  refine ⟨P0, G, s, r, s1, m, e1, fun v H1 G1 x1 m1 r1 => ?_⟩
  cases r with
  | d x =>
    cases x with
    | int i =>
      cases e
      refine ⟨i, ?_, k H1 G1 x1 m1⟩
      have r2 : Tp X.K G1 (.int i) v := r1
      simpa [Tp] using r2
    | _ => cases e
  | own _ => cases e
  | scr _ => cases e
theorem px_sl {lo hi : Option Expr} {fl fh : PF} {p2 : Pos} (ha : PE X a (tOF X.K fa)) (hl : PO X lo (tPF X.K fl)) (hh : PO X hi (tPF X.K fh)) : PE X (.Subscript a (.Slice lo hi none p2) pos) (tXF X.K (cSl fa fl fh)) := by
  refine ⟨fun pins s σ H Q I h => ?_⟩
  obtain ⟨P0, G, st, r, st', m, e, k⟩ := h
  obtain ⟨p, e1, e⟩ := Rs.bind_inv e
  obtain ⟨q, e2, e⟩ := Rs.bind_inv e
  obtain ⟨w, e3, e⟩ := Rs.bind_inv e
  obtain ⟨x, d1, e⟩ := Rs.bind_inv e
  obtain ⟨y, d2, e⟩ := Rs.bind_inv e
  cases e
  obtain ⟨rr, hr, hv⟩ := sl_ok (X := X) (gv_inv d2)
  refine (pe_slice hr ha hl hh).run pins s σ H Q I ⟨P0, G, st, p.1, p.2, m, e1, fun v1 H1 G1 x1 m1 o1 => ⟨P0, G1, p.2, q.1, q.2, m1, e2, fun H2 G2 x2 m2 => ⟨P0, G2, q.2, w.1, w.2, m2, e3, fun H3 G3 x3 m3 => ?_⟩⟩⟩
  exact hv P0 G3 w.2 σ H3 v1 Q m3 (deref_tq m3 ((o1.mono x2).mono x3) (gv_inv d1)) fun v H' G' x4 m4 r4 => k v H' G' (x1.trans (x2.trans (x3.trans x4))) m4 r4
/-! ### built-ins of one thing -/
def VC1 (K : PySem.W.Frag) (r : List V → Hp → VK → Prop) (x : D) (res : R) : Prop := ∀ P0 G s σ H v Q, Sim K P0 G s σ H → Tq K G H x v → Post K P0 G s σ Q res → r [v] H Q
theorem ints_of {K : PySem.W.Frag} {G : Hp} : ∀ {xs : List D} {ns : List Int} {vs : List V}, ints? xs = some ns → TpL K G xs vs → vs = ns.map V.int
  | [], ns, vs, e, t => by cases e; simpa [TpL] using t
  | x :: xs, ns, vs, e, t => by
    cases x with
    | int i =>
      simp only [ints?] at e
      cases h : ints? xs with
      | none => rw [h] at e; cases e
      | some ms =>
        rw [h] at e; cases e
        simp only [TpL] at t
        obtain ⟨v, r, rfl, t1, t2⟩ := t
        simp [Tp] at t1
        rw [t1, ints_of h t2]; rfl
    | _ => cases e
theorem bls_of {K : PySem.W.Frag} {G : Hp} : ∀ {xs : List D} {ns : List Bool} {vs : List V}, bls? xs = some ns → TpL K G xs vs → vs = ns.map V.bl
  | [], ns, vs, e, t => by cases e; simpa [TpL] using t
  | x :: xs, ns, vs, e, t => by
    cases x with
    | bool i =>
      simp only [bls?] at e
      cases h : bls? xs with
      | none => rw [h] at e; cases e
      | some ms =>
        rw [h] at e; cases e
        simp only [TpL] at t
        obtain ⟨v, r, rfl, t1, t2⟩ := t
        simp [Tp] at t1
        rw [t1, bls_of h t2]; rfl
    | _ => cases e
theorem strs_of {K : PySem.W.Frag} {G : Hp} : ∀ {xs : List D} {ns : List Str} {vs : List V}, strs? xs = some ns → TpL K G xs vs → vs = ns.map V.str
  | [], ns, vs, e, t => by cases e; simpa [TpL] using t
  | x :: xs, ns, vs, e, t => by
    cases x with
    | str i =>
      simp only [strs?] at e
      cases h : strs? xs with
      | none => rw [h] at e; cases e
      | some ms =>
        rw [h] at e; cases e
        simp only [TpL] at t
        obtain ⟨v, r, rfl, t1, t2⟩ := t
        simp [Tp] at t1
        rw [t1, strs_of h t2]; rfl
    | _ => cases e
/-- how a built-in's name is called -/
inductive BI : String → Value → Prop where
  | len : BI "len" (.builtin "len") | abs : BI "abs" (.builtin "abs") | sum : BI "sum" (.builtin "sum") | all : BI "all" (.builtin "all") | any : BI "any" (.builtin "any")
  | int : BI "int" (.type "int") | list : BI "list" (.type "list") | tuple : BI "tuple" (.type "tuple") | str : BI "str" (.type "str")
  | max : BI "max" (.builtin "max") | min : BI "min" (.builtin "min")
theorem valsE : ∀ {vs : List V} {us : List Value}, vs.length = us.length → (∀ (k : Nat) v u, vs[k]? = some v → us[k]? = some u → RelV v u) → Vals vs us
  | [], [], _, _ => .nil
  | v :: vs, u :: us, hl, h => .cons (h 0 v u rfl rfl) (valsE (by simpa using hl) fun k v u e e' => h (k + 1) v u (by simpa using e) (by simpa using e'))
theorem tpl_chars {K : PySem.W.Frag} {G : Hp} : ∀ cs : List Nat, TpL K G (cs.map fun c => .str ⟨#[c]⟩) (cs.map fun c => V.str ⟨#[c]⟩)
  | [] => .nil
  | _ :: r => .cons tp_str (tpl_chars r)
def vchars (z : Str) : List V := z.cps.toList.map fun c => .str ⟨#[c]⟩
theorem call_list_s (hc : X.calm = true) : CallR X (.type "list") (fun xs H Q => ∃ z : Str, xs = [.str z] ∧ z.cps.size ≤ sizeLine ∧ ∀ l, H l = none → Q (.ref l) (upd H l (.lst (vchars z)))) := by
  intro pins s σ H xs us Q I r h
  obtain ⟨z, rfl, hz, q⟩ := h
  obtain ⟨u, rfl, rx⟩ := vals1 r
  obtain ⟨t, rfl⟩ := rx
  refine call_list_str (I.ok.hd hc) z t (fun h' tk acc' c' kp e hi => ?_) hz
  have rv : Vals (vchars z) acc'.toList := by
    refine valsE (by simp [vchars, hi.1]) fun k v u e1 e2 => ?_
    obtain ⟨c, t2, h1, rfl⟩ := hi.2 k u (by simpa using e2)
    unfold vchars at e1
    rw [List.getElem?_map, Array.getElem?_toList, h1] at e1
    cases e1
    exact ⟨t2, rfl⟩
  exact ⟨.ref s.heap.objs.size, _, I.laid (t' := tk) kp (Nat.le_refl _) (show ObjOk X.prog X.w _ h' _ (.lst (vchars z)) from ⟨by simpa [vchars] using hz, acc'.toList, c', rv, by simpa using e⟩), rfl, q _ (I.hok.fresh (Nat.le_refl _))⟩
theorem b1_ok (hc : X.calm = true) {n : String} {x : D} {r : R} (h : dB1 n x = some r) : ∃ f rr, BI n f ∧ CallR X f rr ∧ VC1 X.K rr x r := by
  unfold dB1 at h
  split at h
  · next e =>
    subst e
    refine ⟨_, _, .len, call_len, fun P0 G s σ H v Q m hv p => ?_⟩
    cases x with
    | str y =>
      have h' : (if y.length ≤ szMax then some y.length else none).map (fun n => R.d (.int n)) = some r := h
      split at h'
      · next hz =>
        cases h'
        cases tq_str hv
        exact ⟨_, y.length, rfl, ⟨size_ok hz, rfl⟩, p.now m tp_int⟩
      · cases h'
    | list xs =>
      cases h
      obtain ⟨a, vs, rfl, ha, t⟩ := hv
      exact ⟨_, xs.length, rfl, .inl ⟨vs, .of ha, t.length.symm⟩, p.now m tp_int⟩
    | tuple xs =>
      cases h
      obtain ⟨a, vs, rfl, ha, t⟩ := tq_tup hv
      exact ⟨_, xs.length, rfl, .inr ⟨vs, m.fro.sqt ha, t.length.symm⟩, p.now m tp_int⟩
    | _ => cases h
  split at h
  · next e =>
    subst e
    refine ⟨_, _, .int, call_int1, fun P0 G s σ H v Q m hv p => ?_⟩
    cases x with
    | int i => cases h; cases tq_int hv; exact .inl ⟨i, rfl, p.now m tp_int⟩
    | bool b => cases h; cases tq_bool hv; exact .inr ⟨b, rfl, p.now m tp_int⟩
    | _ => cases h
  split at h
  · next e =>
    subst e
    refine ⟨_, _, .abs, call_abs, fun P0 G s σ H v Q m hv p => ?_⟩
    cases x with
    | int i => cases h; cases tq_int hv; exact ⟨i, rfl, p.now m tp_int⟩
    | _ => cases h
  split at h
  · next e =>
    subst e
    refine ⟨_, _, .list, CallR.or call_list_of (call_list_s hc), fun P0 G s σ H v Q m hv p => ?_⟩
    cases x with
    | list xs =>
      cases h
      obtain ⟨a, vs, rfl, ha, t⟩ := hv
      exact .inl ⟨a, vs, rfl, .inl (.of ha), fun l hl => Post.lst m t p hl⟩
    | tuple xs =>
      cases h
      obtain ⟨a, vs, rfl, ha, t⟩ := tq_tup hv
      exact .inl ⟨a, vs, rfl, .inr (m.fro.sqt ha), fun l hl => Post.lst m t p hl⟩
    | str z =>
      have h' : (if z.length ≤ szMax then some (R.own (z.cps.toList.map fun c => .str ⟨#[c]⟩)) else none) = some r := h
      split at h'
      · next hz =>
        cases h'
        cases tq_str hv
        exact .inr ⟨z, rfl, size_ok hz, fun l hl => Post.lst m (tpl_chars _) p hl⟩
      · cases h'
    | _ => cases h
  split at h
  · next e =>
    subst e
    refine ⟨_, _, .tuple, call_tuple_of, fun P0 G s σ H v Q m hv p => ?_⟩
    cases x with
    | list xs =>
      cases h
      obtain ⟨a, vs, rfl, ha, t⟩ := hv
      exact ⟨a, vs, rfl, .inl ⟨.of ha, fun l hl => Post.tup m t p hl⟩⟩
    | tuple xs =>
      cases h
      obtain ⟨a, vs, rfl, ha, t⟩ := tq_tup hv
      refine ⟨a, vs, rfl, .inr ⟨m.fro.sqt ha, p.now m ?_⟩⟩
      simp only [Tp]; exact ⟨a, vs, rfl, ha, t⟩
    | _ => cases h
  split at h
  · next e =>
    subst e
    refine ⟨_, _, .sum, cr_sum hc, fun P0 G s σ H v Q m hv p => ?_⟩
    cases x with
    | list xs =>
      cases hi : ints? xs with
      | none => simp [hi] at h
      | some ns =>
        simp [hi] at h; subst h
        obtain ⟨a, vs, rfl, ha, t⟩ := hv
        rw [ints_of hi t] at ha
        exact ⟨a, ns, rfl, .of ha, p.now m tp_int⟩
    | _ => cases h
  split at h
  · next e =>
    subst e
    refine ⟨_, _, .all, cr_all hc, fun P0 G s σ H v Q m hv p => ?_⟩
    cases x with
    | list xs =>
      cases hi : bls? xs with
      | none => simp [hi] at h
      | some ns =>
        simp [hi] at h; subst h
        obtain ⟨a, vs, rfl, ha, t⟩ := hv
        rw [bls_of hi t] at ha
        exact ⟨a, ns, rfl, .of ha, p.now m tp_bool⟩
    | _ => cases h
  split at h
  · next e =>
    subst e
    refine ⟨_, _, .any, cr_any hc, fun P0 G s σ H v Q m hv p => ?_⟩
    cases x with
    | list xs =>
      cases hi : bls? xs with
      | none => simp [hi] at h
      | some ns =>
        simp [hi] at h; subst h
        obtain ⟨a, vs, rfl, ha, t⟩ := hv
        rw [bls_of hi t] at ha
        exact ⟨a, ns, rfl, .of ha, p.now m tp_bool⟩
    | _ => cases h
  split at h
  · next e =>
    subst e
    refine ⟨_, _, .str, call_str_int, fun P0 G s σ H v Q m hv p => ?_⟩
    cases x with
    | int i =>
      have h' : (if i.natAbs.log2 < 1920 then some (R.d (.str (toString i))) else none) = some r := h
      split at h'
      · next hz => cases h'; cases tq_int hv; exact ⟨i, rfl, hz, p.now m tp_str⟩
      · cases h'
    | _ => cases h
  · cases h
end
end Ek

/-! ## F: calls -/
namespace Ek
open PySem L2 PySem.Spec PyProof.Rows
def notStar : Expr → Bool
  | .Starred _ _ => false
  | _ => true
theorem star_of {e : Expr} (h : notStar e = true) (es : List Expr) (env : Env) : starEach (e :: es) env = (false, eval e env) :: starEach es env := by
  cases e <;> first | (cases h; done) | rfl
theorem noStars {pos : Pos} {env : Env} : ∀ {es : List Expr}, es.all notStar = true → (backTo pos (starEach es env)).any (·.1) = false
  | [], _ => rfl
  | e :: es, h => by
    simp only [List.all_cons, Bool.and_eq_true] at h
    have ih := noStars (pos := pos) (env := env) h.2
    rw [star_of h.1]
    unfold backTo at ih ⊢
    rw [List.map_cons, List.any_cons, ih]
    rfl
theorem bi_boot {n : String} {f : Value} (h : BI n f) : bootBuiltins (Str.ofString n) = some f := by
  cases h <;> decide +kernel
theorem bi_plain {n : String} {f : Value} (h : BI n f) : Str.ofString n ≠ "__name__" ∧ ((Str.ofString n) == ("__debug__" : Str)) = false ∧ ((∃ id, f = .builtin id) ∨ ∃ T, f = .type T) := by
  cases h <;> (refine ⟨by decide +kernel, by decide +kernel, ?_⟩) <;> first | exact .inl ⟨_, rfl⟩ | exact .inr ⟨_, rfl⟩
section
variable {X : Cx} {a b c e : Expr} {fa fb fc : OF} {f f' : XF} {ft ft' : TF} {pos p : Pos}
theorem pe_bi {n : String} {g : Value} {r : List V → Hp → VK → Prop} {es : List Expr} {t : TA} (h : BI n g) (hc : CallR X g r) (hg : Gl X (Str.ofString n)) (hm : X.mg (Str.ofString n) = none) (ha : PA X (e :: es) t) (hs : (e :: es).all notStar = true) :
    PE X (.Call (.Name (Str.ofString n) p) (e :: es) [] pos) (tCB r t) := by
  obtain ⟨h1, h2, h3⟩ := bi_plain h
  simp only [List.all_cons, Bool.and_eq_true] at hs
  have hb := bi_boot h
  rcases h3 with ⟨id, rfl⟩ | ⟨T, rfl⟩
  · exact pe_callB hc hg hm hb ha h1 h2 (star_of hs.1 _ _) (noStars hs.2)
  · exact pe_callTy hc hg hm hb ha h1 h2 (star_of hs.1 _ _) (noStars hs.2)
theorem px_b1 {n : String} (hc : X.calm = true) (hg : Gl X (Str.ofString n)) (hm : X.mg (Str.ofString n) = none) (ha : PE X a (tOF X.K fa)) (hs : notStar a = true) : PE X (.Call (.Name (Str.ofString n) p) [a] [] pos) (tXF X.K (cUn (dB1 n) fa)) := by
  refine ⟨fun pins s σ H Q I h => ?_⟩
  obtain ⟨P0, G, st, r, st', m, e, k⟩ := h
  obtain ⟨q, e1, e⟩ := Rs.bind_inv e
  obtain ⟨x, e2, e⟩ := Rs.bind_inv e
  obtain ⟨y, e3, e⟩ := Rs.bind_inv e
  cases e
  obtain ⟨g, rr, hb, hr, hv⟩ := b1_ok (X := X) hc (gv_inv e3)
  refine (pe_bi hb hr hg hm (pa_cons ha pa_nil (star_of hs _ _)) (by simp [hs])).run pins s σ H Q I ⟨P0, G, st, q.1, q.2, m, e1, fun v H1 G1 x1 m1 o1 => ?_⟩
  exact hv P0 G1 q.2 σ H1 v Q m1 (deref_tq m1 o1 (gv_inv e2)) fun v' H' G' x2 m2 r2 => k v' H' G' (x1.trans x2) m2 r2
/-- list(x), len(x): the script's too -/
theorem px_list (hc : X.calm = true) (hg : Gl X (Str.ofString "list")) (hm : X.mg (Str.ofString "list") = none) (ha : PE X a (tOF X.K fa)) (hs : notStar a = true) : PE X (.Call (.Name (Str.ofString "list") p) [a] [] pos) (tXF X.K (cListOf fa)) := by
  refine ⟨fun pins s σ H Q I h => ?_⟩
  obtain ⟨P0, G, st, r, st', m, e, k⟩ := h
  obtain ⟨q, e1, e⟩ := Rs.bind_inv e
  have gen : ((gv (deref q.1 q.2)).bind fun x => (gv (dB1 "list" x)).bind fun r => .ok (r, q.2)) = Rs.ok (r, st') → wpAny (model X.prog X.w) X.A (eval (.Call (.Name (Str.ofString "list") p) [a] [] pos) X.env) (EP X pins σ Q) X.xe s := fun e =>
    (px_b1 (n := "list") hc hg hm ha hs).run pins s σ H Q I ⟨P0, G, st, r, st', m, by unfold cUn; rw [e1, Rs.bind_ok]; exact e, k⟩
  obtain ⟨o, s1⟩ := q
  cases o with
  | v x => exact gen e
  | sl i =>
    cases hs1 : s1[i]? with
    | none => simp only [hs1] at e; exact gen e
    | some w =>
      cases w with
      | none => simp only [hs1] at e; exact gen e
      | some r1 =>
        cases r1 with
        | d _ => simp only [hs1] at e; exact gen e
        | own _ => simp only [hs1] at e; exact gen e
        | scr ns =>
          simp only [hs1] at e
          cases e
          refine (pe_bi .list call_list_of hg hm (pa_cons ha pa_nil (star_of hs _ _)) (by simp [hs])).run pins s σ H Q I ⟨P0, G, st, .sl i, _, m, e1, fun v H1 G1 x1 m1 o1 => ?_⟩
          obtain ⟨a', e2, q2⟩ := m1.scr i ns hs1
          have o2 : σ[i]? = some (some v) := o1
          rw [o2] at e2; cases e2
          refine ⟨a', _, rfl, .inl (m1.fro.sql q2), fun l hl => Post.lst m1 (TpL.ints ns) (fun v' H' G' x2 m2 r2 => k v' H' G' (x1.trans x2) m2 r2) hl⟩
theorem px_len (hc : X.calm = true) (hg : Gl X (Str.ofString "len")) (hm : X.mg (Str.ofString "len") = none) (ha : PE X a (tOF X.K fa)) (hs : notStar a = true) : PE X (.Call (.Name (Str.ofString "len") p) [a] [] pos) (tXF X.K (cLenOf fa)) := by
  refine ⟨fun pins s σ H Q I h => ?_⟩
  obtain ⟨P0, G, st, r, st', m, e, k⟩ := h
  obtain ⟨q, e1, e⟩ := Rs.bind_inv e
  have gen : ((gv (deref q.1 q.2)).bind fun x => (gv (dB1 "len" x)).bind fun r => .ok (r, q.2)) = Rs.ok (r, st') → wpAny (model X.prog X.w) X.A (eval (.Call (.Name (Str.ofString "len") p) [a] [] pos) X.env) (EP X pins σ Q) X.xe s := fun e =>
    (px_b1 (n := "len") hc hg hm ha hs).run pins s σ H Q I ⟨P0, G, st, r, st', m, by unfold cUn; rw [e1, Rs.bind_ok]; exact e, k⟩
  obtain ⟨o, s1⟩ := q
  cases o with
  | v x => exact gen e
  | sl i =>
    cases hs1 : s1[i]? with
    | none => simp only [hs1] at e; exact gen e
    | some w =>
      cases w with
      | none => simp only [hs1] at e; exact gen e
      | some r1 =>
        cases r1 with
        | d _ => simp only [hs1] at e; exact gen e
        | own _ => simp only [hs1] at e; exact gen e
        | scr ns =>
          simp only [hs1] at e
          cases e
          refine (pe_bi .len call_len_seq hg hm (pa_cons ha pa_nil (star_of hs _ _)) (by simp [hs])).run pins s σ H Q I ⟨P0, G, st, .sl i, _, m, e1, fun v H1 G1 x1 m1 o1 => ?_⟩
          obtain ⟨a', e2, q2⟩ := m1.scr i ns hs1
          have o2 : σ[i]? = some (some v) := o1
          rw [o2] at e2; cases e2
          refine ⟨a', _, rfl, .inl (m1.fro.sql q2), ?_⟩
          rw [List.length_map]
          exact k _ H1 G1 x1 m1 rr_int
theorem px_b2 {n : String} (hc : X.calm = true) (hg : Gl X (Str.ofString n)) (hm : X.mg (Str.ofString n) = none) (ha : PE X a (tOF X.K fa)) (hb : PE X b (tOF X.K fb)) (hs : notStar a = true) (hs2 : notStar b = true) :
    PE X (.Call (.Name (Str.ofString n) p) [a, b] [] pos) (tXF X.K (cBin (dB2 n) fa fb)) := by
  refine ⟨fun pins s σ H Q I h => ?_⟩
  obtain ⟨P0, G, st, r, st', m, e, k⟩ := h
  obtain ⟨q, w, x, y, e1, e2, d1, d2, e5, rfl⟩ := cBin_inv e
  have key : ∀ (g : Value) (rr : List V → Hp → VK → Prop), BI n g → CallR X g rr → (∀ v u H' Q', Tq X.K H' H' x v → Tq X.K H' H' y u → (∀ z, r = .d (.int z) → Q' (.int z) H') → rr [v, u] H' Q') → (∃ z, r = .d (.int z)) →
      wpAny (model X.prog X.w) X.A (eval (.Call (.Name (Str.ofString n) p) [a, b] [] pos) X.env) (EP X pins σ Q) X.xe s := fun g rr hbi hr hv hz => by
    refine (pe_bi hbi hr hg hm (pa_cons ha (pa_cons hb pa_nil (star_of hs2 _ _)) (star_of hs _ _)) (by simp [hs, hs2])).run pins s σ H Q I ⟨P0, G, st, q.1, q.2, m, e1, fun v H1 G1 x1 m1 o1 => ⟨P0, G1, q.2, w.1, w.2, m1, e2, fun u H2 G2 x2 m2 o2 => ?_⟩⟩
    have t1 := deref_tq m2 (o1.mono x2) d1
    have t2 := deref_tq m2 o2 d2
    refine hv v u H2 Q ((t1.tp m2.fro).tq (.refl _)) ((t2.tp m2.fro).tq (.refl _)) fun z hz => ?_
    subst hz
    exact k _ H2 G2 (x1.trans x2) m2 rr_int
  unfold dB2 at e5
  split at e5
  · next en =>
    subst en
    cases x with
    | int i =>
      cases y with
      | int j =>
        cases e5
        refine key _ _ .max (call_max2 hc) (fun v u H' Q' t1 t2 q => ?_) ⟨_, rfl⟩
        cases tq_int t1; cases tq_int t2
        exact ⟨i, j, rfl, q _ rfl⟩
      | _ => cases e5
    | _ => cases e5
  · split at e5
    · next en =>
      subst en
      cases x with
      | int i =>
        cases y with
        | int j =>
          cases e5
          refine key _ _ .min (call_min2 hc) (fun v u H' Q' t1 t2 q => ?_) ⟨_, rfl⟩
          cases tq_int t1; cases tq_int t2
          exact ⟨i, j, rfl, q _ rfl⟩
        | _ => cases e5
      | _ => cases e5
    · cases e5
/-! ### isinstance -/
theorem ty_X {K : PySem.W.Frag} {G H : Hp} {x : D} {v : V} {t : String} (z : Sub G H) (h : Tq K G H x v) (e : typD x = some t) : TyX K H v (.type t) := by
  cases x with
  | none => cases e; cases tq_none h; exact .base .non
  | bool b => cases e; cases tq_bool h; exact .base (.bl b)
  | int b => cases e; cases tq_int h; exact .base (.int b)
  | str b => cases e; cases tq_str h; exact .base (.str b)
  | list b => cases e; obtain ⟨a, vs, rfl, ha, _⟩ := h; exact .base (.lst ha)
  | tuple b =>
    cases e
    obtain ⟨a, vs, rfl, ha, _⟩ := tq_tup h
    rcases z.sqt ha with (ha | ⟨o, ha⟩) | ⟨o, its, n, h1, h2, _⟩
    · exact .base (.tup ha)
    · exact .fTuple ha
    · exact .kTuple h1 h2
  | dict b => cases e
theorem ty_mono {K : PySem.W.Frag} {H : Hp} {v : V} {t : Value} {q : Addr} {o : HO} (hq : H q = none) (h : TyX K H v t) : TyX K (upd H q o) v t := by
  have keep : ∀ {a : Addr} {u : HO}, H a = some u → upd H q o a = some u := fun {a u} e => by rw [upd_ne (ne_of_none e hq)]; exact e
  cases h with
  | base h =>
    refine .base ?_
    cases h with
    | non => exact .non
    | bl x => exact .bl x
    | int i => exact .int i
    | str x => exact .str x
    | flt x => exact .flt x
    | lst e => exact .lst (keep e)
    | frz e => exact .frz (keep e)
    | tup e => exact .tup (keep e)
    | dK e => exact .dK (keep e)
    | dT e => exact .dT (keep e)
    | ins e cl ha hn htk hm => exact .ins (keep e) cl ha hn htk hm
  | byt b => exact .byt b
  | set e => exact .set (keep e)
  | kList e c => exact .kList e c
  | kTuple e c => exact .kTuple e c
  | kDict e c => exact .kDict e c
  | fTuple e => exact .fTuple (keep e)
  | fDict e => exact .fDict (keep e)
def tysD : List String := ["NoneType", "bool", "int", "str", "list", "tuple"]
theorem kit_all : tysD.all (fun t => tyNames.all fun c => kitB t c == some (isTy t c)) = true := by decide +kernel
theorem typ_mem {x : D} {t : String} (e : typD x = some t) : t ∈ tysD := by
  cases x <;> first | (cases e; done) | (cases e; decide)
theorem kit_is {K : PySem.W.Frag} {t c : String} (ht : t ∈ tysD) (hc : c ∈ tyNames) : PySem.W.kitOne K (.type t) (.type c) = some (isTy t c) := by
  have h := List.all_eq_true.mp (List.all_eq_true.mp kit_all t ht) c hc
  exact kit_ty (by simpa using h)
theorem kit_any {K : PySem.W.Frag} {t : String} (ht : t ∈ tysD) : ∀ {cs : List String}, (∀ c ∈ cs, c ∈ tyNames) → PySem.W.kitAny K (.type t) (cs.map Value.type) = some (cs.any (isTy t))
  | [], _ => kitAny_nil
  | c :: cs, h => by
    have ih := kit_any (K := K) ht (fun c hc => h c (List.mem_cons_of_mem _ hc))
    rw [List.map_cons, List.any_cons]
    refine kitAny_cons (kit_is ht (h c List.mem_cons_self)) (fun e => ?_) (fun e => ?_)
    · rw [e, ih]; rfl
    · rw [e]; rfl
theorem ty_boot : tyNames.all (fun c => decide (bootBuiltins (Str.ofString c) = some (.type c)) && decide (Str.ofString c ≠ "__name__") && ((Str.ofString c) == ("__debug__" : Str)) == false) = true := by decide +kernel
theorem pe_ty {n : String} (h : n ∈ tyNames) (hg : Gl X (Str.ofString n)) (hm : X.mg (Str.ofString n) = none) : PE X (.Name (Str.ofString n) p) (tC (.ty n)) := by
  have hh := List.all_eq_true.mp ty_boot n h
  simp only [Bool.and_eq_true, decide_eq_true_eq, beq_iff_eq] at hh
  exact pe_bltn hg hm hh.1.1 rfl hh.1.2 hh.2
theorem isi_names {n : String} : True := trivial
theorem isi_boot : bootBuiltins (Str.ofString "isinstance") = some (.builtin "isinstance") := by decide +kernel
theorem px_isi {n : String} (h : n ∈ tyNames) (hg : Gl X (Str.ofString "isinstance")) (hm : X.mg (Str.ofString "isinstance") = none) (hg2 : Gl X (Str.ofString n)) (hm2 : X.mg (Str.ofString n) = none) (ha : PE X a (tOF X.K fa)) (hs : notStar a = true) {p2 : Pos} :
    PE X (.Call (.Name (Str.ofString "isinstance") p) [a, .Name (Str.ofString n) p2] [] pos) (tXF X.K (cIsi fa [n])) :=
  pe_imp (pe_callB call_isi hg hm isi_boot (pa_cons ha (pa_cons (pe_ty h hg2 hm2) pa_nil (star_of rfl _ _)) (star_of hs _ _)) (by decide +kernel) (by decide +kernel) (star_of hs _ _) (noStars rfl)) fun σ H Q q => by
    obtain ⟨P0, G, s, o, s', m, e, k⟩ := q
    obtain ⟨q, e1, e⟩ := Rs.bind_inv e
    obtain ⟨x, e2, e⟩ := Rs.bind_inv e
    obtain ⟨t, e3, e⟩ := Rs.bind_inv e
    cases e
    refine ⟨P0, G, s, q.1, q.2, m, e1, fun v H1 G1 x1 m1 o1 => ?_⟩
    have ht := gv_inv e3
    refine ⟨v, .ty n, .type t, .type n, _, rfl, .ty n, ty_X m1.fro (deref_tq m1 o1 (gv_inv e2)) ht, kit_is (typ_mem ht) h, ?_⟩
    have : [n].any (isTy t) = isTy t n := by simp
    rw [← this]
    exact k _ H1 G1 x1 m1 rr_bool
/-- the names of classes, laid in a tuple -/
theorem pa_tys : ∀ {ns : List String} {ps : List Pos}, ns.length = ps.length → (∀ n ∈ ns, n ∈ tyNames ∧ Gl X (Str.ofString n) ∧ X.mg (Str.ofString n) = none) →
    PA X ((ns.zip ps).map fun (q : String × Pos) => Expr.Name (Str.ofString q.1) q.2) (fun σ H Q => Q (ns.map V.ty) H)
  | [], [], _, _ => pa_nil
  | n :: ns, p :: ps, hl, h => by
    obtain ⟨h1, h2, h3⟩ := h n List.mem_cons_self
    exact pa_imp (pa_cons (pe_ty h1 h2 h3) (pa_tys (by simpa using hl) fun c hc => h c (List.mem_cons_of_mem _ hc)) (star_of rfl _ _)) fun σ H Q q => q
theorem px_isiT {ns : List String} {ps : List Pos} {p2 : Pos} {k2 : Nat} (hl : ns.length = ps.length) (hl2 : ns.length ≤ 100) (h : ∀ n ∈ ns, n ∈ tyNames ∧ Gl X (Str.ofString n) ∧ X.mg (Str.ofString n) = none)
    (hg : Gl X (Str.ofString "isinstance")) (hm : X.mg (Str.ofString "isinstance") = none) (ha : PE X a (tOF X.K fa)) (hs : notStar a = true) :
    PE X (.Call (.Name (Str.ofString "isinstance") p) [a, .Tuple ((ns.zip ps).map fun (q : String × Pos) => Expr.Name (Str.ofString q.1) q.2) k2 p2] [] pos) (tXF X.K (cIsi fa ns)) :=
  pe_imp (pe_callB call_isiT hg hm isi_boot (pa_cons ha (pa_cons (pe_tup (pa_tys hl h)) pa_nil (star_of rfl _ _)) (star_of hs _ _)) (by decide +kernel) (by decide +kernel) (star_of hs _ _) (noStars rfl)) fun σ H Q q => by
    obtain ⟨P0, G, s, o, s', m, e, k⟩ := q
    obtain ⟨q, e1, e⟩ := Rs.bind_inv e
    obtain ⟨x, e2, e⟩ := Rs.bind_inv e
    obtain ⟨t, e3, e⟩ := Rs.bind_inv e
    cases e
    refine ⟨P0, G, s, q.1, q.2, m, e1, fun v H1 G1 x1 m1 o1 => ⟨by rw [List.length_map]; exact Nat.le_trans hl2 (by decide), fun tp htp => ?_⟩⟩
    have ht := gv_inv e3
    have cl : ∀ l : List String, Paired ClsV (l.map V.ty) (l.map Value.type) := fun l => by
      induction l with
      | nil => exact .nil
      | cons n r ih => exact .cons (.ty n) ih
    refine ⟨v, tp, ns.map V.ty, .type t, ns.map Value.type, _, rfl, upd_same, cl ns, ty_mono htp (ty_X m1.fro (deref_tq m1 o1 (gv_inv e2)) ht), kit_any (typ_mem ht) (fun c hc => (h c hc).1), ?_⟩
    exact k _ _ G1 x1 (m1.alloc htp) rr_bool
end
end Ek

/-! ## G: calls of the text's own functions, methods, what is walked, comprehensions -/
namespace Ek
open PySem L2 PySem.Spec PyProof.Rows
/-- an argument stands as v: data, or (at io) the list at a -/
def ArgR (K : PySem.W.Frag) (G H : Hp) (io : Option Nat) (ad : Addr) (k : Nat) (x : D) (v : V) : Prop :=
  if io = some k then v = .ref ad ∧ G ad = none ∧ ∃ xs ws, x = .list xs ∧ H ad = some (.lst ws) ∧ TpL K G xs ws else Tp K G x v
/-- a def's promise, by its function -/
def spD (K : PySem.W.Frag) (f : FS) : Sp := fun vs H Q _ => ∃ (G : Hp) (ad : Addr) (xs : List D) (r : R) (ys : List D), vs.length = f.ps.length ∧ xs.length = f.ps.length ∧ (∀ k, f.io = some k → k < f.ps.length) ∧ Sub G H ∧
  (∀ (k : Nat) x v, xs[k]? = some x → vs[k]? = some v → ArgR K G H f.io ad k x v) ∧ f.run xs = some (r, ys) ∧
  ∀ v H' G', Sub G G' → (∀ a o, G' a = some o → G a = some o ∨ H a = none) → Sub G' H' → (∀ a o, H a = some o → (f.io.isSome = true → a ≠ ad) → H' a = some o) →
    (f.io.isSome = true → G' ad = none ∧ ∃ ws, H' ad = some (.lst ws) ∧ TpL K G' ys ws) →
    (match r with
      | .d x => Tp K G' x v
      | .own zs => ∃ b ws, v = .ref b ∧ G' b = none ∧ H b = none ∧ H' b = some (.lst ws) ∧ TpL K G' zs ws
      | .scr _ => False) → Q v H'
/-- .. of the script -/
def spS (K : PySem.W.Frag) (f : FS) : Sp := fun vs H Q _ => ∃ (G : Hp) (a : Addr) (ns : List Int) (g : List Int → Option R) (r : R), vs = [.ref a] ∧ f.ps.length = 1 ∧ f.sr = some g ∧ g ns = some r ∧ SqL K G a (ns.map V.int) ∧ Sub G H ∧
  ∀ v H' G', Sub G G' → (∀ a o, G' a = some o → G a = some o ∨ H a = none) → Sub G' H' → (∀ a o, H a = some o → H' a = some o) →
    (match r with
      | .d x => Tp K G' x v
      | .own zs => ∃ b ws, v = .ref b ∧ G' b = none ∧ H b = none ∧ H' b = some (.lst ws) ∧ TpL K G' zs ws
      | .scr _ => False) → Q v H'
/-! ### several results at once -/
def RRs (K : PySem.W.Frag) (P0 G : Hp) (s : S) (σ : L2.St) (H : Hp) : List R → List V → Prop
  | [], vs => vs = []
  | r :: rs, vs => ∃ v ws, vs = v :: ws ∧ RR K P0 G s σ H r v ∧ RRs K P0 G s σ H rs ws ∧ ∀ xs, r = .own xs → ∀ (k : Nat) w ys, ws[k]? = some w → rs[k]? = some (.own ys) → w ≠ v
/-- .. in a list -/
def RW (K : PySem.W.Frag) (P0 G : Hp) (s : S) (σ : L2.St) (H : Hp) (rs : List R) (v : V) : Prop := ∃ a vs, v = .ref a ∧ H a = some (.lst vs) ∧ P0 a = none ∧ RRs K P0 G s σ H rs vs
/-- .. that hands back a row -/
def spR (K : PySem.W.Frag) (f : FS) : Sp := fun vs H Q _ => ∃ (G : Hp) (xs : List D) (g : List D → Option (List R)) (rs : List R), vs.length = f.ps.length ∧ xs.length = f.ps.length ∧ Sub G H ∧
  (∀ (k : Nat) x v, xs[k]? = some x → vs[k]? = some v → Tp K G x v) ∧ f.rr = some g ∧ g xs = some rs ∧
  ∀ v H' G', Sub G G' → (∀ a o, G' a = some o → G a = some o ∨ H a = none) → Sub G' H' → (∀ a o, H a = some o → H' a = some o) → RW K H G' [] [] H' rs v → Q v H'
def spF (K : PySem.W.Frag) (f : FS) : Sp := fun vs H Q E => spD K f vs H Q E ∨ spS K f vs H Q E ∨ spR K f vs H Q E
/-- how a function of the text is reached -/
structure CallOk (X : Cx) (x : Str) (f : FS) : Prop where
  ex : ∃ (k : Nat) (ad : Addr) (fd : FuncData), FnOk X.prog X.w X.K X.mg X.base CX0 k ad fd f.ps (spF X.K f) ∧ Room k X.A ∧ X.mg x = some (.ref ad) ∧ PySem.W.keepIn X.K (.ref ad) = true ∧ Binds X.K fd f.ps [] ∧
    ∀ ks ∈ f.kl, KBinds X.K fd f.ps ks (fun us ws => (pick f.ps ks us ws).getD []) (fun us ws => (pick f.ps ks us ws).getD [])

theorem oArgs_len : ∀ {as : List OF} {s : S} {p : List O × S}, oArgs as s = .ok p → p.1.length = as.length
  | [], s, p, h => by cases h; rfl
  | f :: fs, s, p, h => by
    obtain ⟨q, e1, h⟩ := Rs.bind_inv h
    obtain ⟨r, e2, h⟩ := Rs.bind_inv h
    cases h
    simp [oArgs_len e2]
theorem derefs_get {io : Option Nat} {s : S} : ∀ {os : List O} {xs : List D} {j : Nat}, derefs io j os s = some xs → xs.length = os.length ∧ ∀ (k : Nat) x, xs[k]? = some x → ∃ o, os[k]? = some o ∧ (if io = some (j + k) then deref o s else derefD o s) = some x
  | [], xs, j, h => by cases h; exact ⟨rfl, fun k x e => by simp at e⟩
  | o :: os, xs, j, h => by
    unfold derefs at h
    split at h
    · next x ys h1 h2 =>
      cases h
      obtain ⟨l, ih⟩ := derefs_get h2
      refine ⟨by simp [l], fun k y e => ?_⟩
      cases k with
      | zero => simp at e; subst e; exact ⟨o, rfl, by simpa using h1⟩
      | succ k =>
        obtain ⟨o', e1, e2⟩ := ih k y (by simpa using e)
        refine ⟨o', by simpa using e1, ?_⟩
        rw [show j + (k + 1) = j + 1 + k by omega]
        exact e2
    · cases h
/-- the call, read -/
theorem call_read {K : PySem.W.Frag} {f : FS} {os : List O} {vs : List V} {P0 G H : Hp} {s : S} {σ : L2.St} {Q : VK} {r : R} {s' : S} (m : Sim K P0 G s σ H) (hv : vs.length = os.length) (ho : ∀ (k : Nat) o v, os[k]? = some o → vs[k]? = some v → OR K G σ o v)
    (hl : os.length = f.ps.length) (e : doCall f os s = .ok (r, s')) (k : ∀ v H' G', Ext P0 G G' → Sim K P0 G' s' σ H' → RR K P0 G' s' σ H' r v → Q v H') : spF K f vs H Q (fun _ _ _ => False) := by
  refine .inl ?_
  unfold doCall at e
  obtain ⟨io, e1, e⟩ := Rs.bind_inv e
  obtain ⟨xs, e2, e⟩ := Rs.bind_inv e
  obtain ⟨w, e3, e⟩ := Rs.bind_inv e
  have e1 := gv_inv e1
  have e3 := gv_inv e3
  obtain ⟨xl, xg⟩ := derefs_get (gv_inv e2)
  have dat : ∀ (i : Nat) o x v, os[i]? = some o → vs[i]? = some v → derefD o s = some x → Tp K G x v := fun i o x v h1 h2 h3 => by
    have oo := ho i o v h1 h2
    cases o with
    | v y => cases h3; exact oo
    | sl j =>
      have oo' : σ[j]? = some (some v) := oo
      unfold derefD at h3
      cases hs : s[j]? with
      | none => simp [hs] at h3
      | some u =>
        cases u with
        | none => simp [hs] at h3
        | some y =>
          cases y with
          | d z =>
            simp [hs] at h3; subst h3
            obtain ⟨v', ev, t⟩ := m.dat j z hs
            rw [oo'] at ev; cases ev
            exact t
          | own _ => simp [hs] at h3
          | scr _ => simp [hs] at h3
  have e' : s' = putIo io s w.2 ∧ r = w.1 := by
    have := Rs.ok.inj e
    exact ⟨(congrArg Prod.snd this).symm, (congrArg Prod.fst this).symm⟩
  obtain ⟨es, er⟩ := e'
  cases hio : f.io with
  | none =>
    rw [hio] at e1
    have : io = none := by cases e1; rfl
    subst this
    have es' : s' = s := es
    subst es'
    refine ⟨G, 0, xs, w.1, w.2, by omega, by omega, fun k hk => (by rw [hio] at hk; cases hk), m.fro, fun k x v hx hv' => ?_, e3, fun v H' G' g1 g2 g3 g4 _ g6 => ?_⟩
    · obtain ⟨o, h1, h2⟩ := xg k x hx
      unfold ArgR
      rw [hio]
      rw [hio] at h2
      rw [if_neg (fun z => nomatch z)] at h2 ⊢
      exact dat k o x v h1 hv' h2
    · have keep : ∀ a o, H a = some o → H' a = some o := fun a o ha => g4 a o ha (fun z => by rw [hio] at z; cases z)
      have x0 : Ext P0 G G' := ⟨g1, fun a o ha => (g2 a o ha).imp id fun z => m.prot.none z⟩
      have free : ∀ a u, G a = none → H a = some u → G' a = none := fun a u z1 z2 => by
        cases q : G' a with
        | none => rfl
        | some o =>
          rcases g2 a o q with z | z
          · rw [z1] at z; cases z
          · rw [z2] at z; cases z
      have m' : Sim K P0 G' s' σ H' := by
        refine ⟨m.len, fun a o ha => keep a o (m.prot a o ha), g3, fun i x hi => ?_, fun i ys hi => ?_, fun i ns hi => ?_, m.sep⟩
        · obtain ⟨u, e, t⟩ := m.dat i x hi
          exact ⟨u, e, Tp.mono g1 _ _ t⟩
        · obtain ⟨a, ws, e, g, q, hh, t⟩ := m.own i ys hi
          exact ⟨a, ws, e, free a _ g hh, q, keep a _ hh, TpL.mono g1 _ _ t⟩
        · obtain ⟨a, e, t⟩ := m.scr i ns hi
          exact ⟨a, e, g1.sql t⟩
      refine k v H' G' x0 m' ?_
      rw [er]
      revert g6
      cases w.1 with
      | d x => exact fun z => z
      | own zs =>
        rintro ⟨b, ws, rfl, h1, h2, h3, h4⟩
        refine ⟨b, ws, rfl, h1, m.prot.none h2, h3, h4, fun i ys hi hb => ?_⟩
        obtain ⟨a, ws', e, g, q, hh, t⟩ := m.own i ys hi
        rw [hb] at e; cases e
        rw [h2] at hh; cases hh
      | scr _ => exact fun z => z.elim
  | some kio =>
    rw [hio] at e1
    unfold ioSlot at e1
    cases hos : os[kio]? with
    | none => simp [hos] at e1
    | some o =>
      cases o with
      | v _ => simp [hos] at e1
      | sl i =>
        simp only [hos] at e1
        split at e1
        · next ys0 hsi =>
          have : io = some i := by cases e1; rfl
          subst this
          have es' : s' = s.set i (some (.own w.2)) := es
          subst es'
          have hk : kio < os.length := (List.getElem?_eq_some_iff.mp hos).1
          obtain ⟨va, hva⟩ : ∃ va, vs[kio]? = some va := ⟨_, List.getElem?_eq_getElem (by omega)⟩
          have ova : σ[i]? = some (some va) := ho kio _ va hos hva
          obtain ⟨ad, ws0, ea, ga, qa, ha, ta⟩ := m.own i ys0 hsi
          rw [ova] at ea
          have : va = .ref ad := by cases ea; rfl
          subst this
          refine ⟨G, ad, xs, w.1, w.2, by omega, by omega, fun k hk' => (by rw [hio] at hk'; cases hk'; omega), m.fro, fun k x v hx hv' => ?_, e3, fun v H' G' g1 g2 g3 g4 g5 g6 => ?_⟩
          · obtain ⟨o, h1, h2⟩ := xg k x hx
            unfold ArgR
            rw [hio]
            rw [hio, Nat.zero_add] at h2
            by_cases hkk : kio = k
            · subst hkk
              rw [if_pos rfl] at h2 ⊢
              rw [hos] at h1; cases h1
              rw [hva] at hv'; cases hv'
              unfold deref at h2
              simp [hsi] at h2
              exact ⟨rfl, ga, ys0, ws0, h2.symm, ha, ta⟩
            · rw [if_neg (fun z => hkk (Option.some.inj z))] at h2 ⊢
              exact dat k o x v h1 hv' h2
          · have some1 : f.io.isSome = true := by rw [hio]; rfl
            have keep : ∀ a o, H a = some o → a ≠ ad → H' a = some o := fun a o h1 h2 => g4 a o h1 fun _ => h2
            obtain ⟨gad, wsn, had, tad⟩ := g5 some1
            have x0 : Ext P0 G G' := ⟨g1, fun a o ha => (g2 a o ha).imp id fun z => m.prot.none z⟩
            have free : ∀ a u, G a = none → H a = some u → G' a = none := fun a u z1 z2 => by
              cases q : G' a with
              | none => rfl
              | some o =>
                rcases g2 a o q with z | z
                · rw [z1] at z; cases z
                · rw [z2] at z; cases z
            have get : ∀ (j : Nat) u, (s.set i (some (.own w.2)))[j]? = some (some u) → (j = i ∧ u = .own w.2) ∨ (j ≠ i ∧ s[j]? = some (some u)) := fun j u ej => by
              rcases getElem?_set_some ej with ⟨z1, z⟩ | ⟨ne, z⟩
              · cases z; exact .inl ⟨z1.symm, rfl⟩
              · exact .inr ⟨fun z => ne z.symm, z⟩
            have ne_ad : ∀ (j : Nat) ys b, j ≠ i → s[j]? = some (some (.own ys)) → σ[j]? = some (some (.ref b)) → b ≠ ad := fun j ys b hj h1 h2 z => by
              subst z; exact hj (m.sep j i ys ys0 b h1 hsi h2 ova)
            have m' : Sim K P0 G' (s.set i (some (.own w.2))) σ H' := by
              refine ⟨by have := m.len; simpa using this, fun a o h1 => keep a o (m.prot a o h1) (fun z => by subst z; rw [qa] at h1; cases h1), g3, fun j x hj => ?_, fun j ys hj => ?_, fun j ns hj => ?_, fun j l ys zs b hj hl' f1 f2 => ?_⟩
              · rcases get j _ hj with ⟨_, z⟩ | ⟨_, z⟩
                · cases z
                · obtain ⟨u, e, t⟩ := m.dat j x z
                  exact ⟨u, e, Tp.mono g1 _ _ t⟩
              · rcases get j _ hj with ⟨z0, z⟩ | ⟨ne, z⟩
                · cases z
                  subst z0
                  exact ⟨ad, wsn, ova, gad, qa, had, tad⟩
                · obtain ⟨a, ws, e, g, q, hh, t⟩ := m.own j ys z
                  exact ⟨a, ws, e, free a _ g hh, q, keep a _ hh (ne_ad j ys a ne z e), TpL.mono g1 _ _ t⟩
              · rcases get j _ hj with ⟨_, z⟩ | ⟨_, z⟩
                · cases z
                · obtain ⟨a, e, t⟩ := m.scr j ns z
                  exact ⟨a, e, g1.sql t⟩
              · rcases get j _ hj with ⟨z0, z⟩ | ⟨ne, z⟩
                · rcases get l _ hl' with ⟨z0', z'⟩ | ⟨ne', z'⟩
                  · rw [z0, z0']
                  · subst z0
                    rw [ova] at f1; cases f1
                    exact absurd rfl (ne_ad l zs _ ne' z' f2)
                · rcases get l _ hl' with ⟨z0', z'⟩ | ⟨ne', z'⟩
                  · subst z0'
                    rw [ova] at f2; cases f2
                    exact absurd rfl (ne_ad j ys _ ne z f1)
                  · exact m.sep j l ys zs b z z' f1 f2
            refine k v H' G' x0 m' ?_
            rw [er]
            revert g6
            cases w.1 with
            | d x => exact fun z => z
            | own zs =>
              rintro ⟨b, ws, rfl, h1, h2, h3, h4⟩
              refine ⟨b, ws, rfl, h1, m.prot.none h2, h3, h4, fun j ys hj hb => ?_⟩
              rcases get j _ hj with ⟨z0, z⟩ | ⟨ne, z⟩
              · subst z0
                rw [ova] at hb; cases hb
                rw [h2] at ha; cases ha
              · obtain ⟨a, ws', e, g, q, hh, t⟩ := m.own j ys z
                rw [hb] at e; cases e
                rw [h2] at hh; cases hh
            | scr _ => exact fun z => z.elim
        · cases e1
section
variable {X : Cx} {a b c e : Expr} {fa fb fc : OF} {pos p : Pos}
theorem px_call {x : Str} {f : FS} {es : List Expr} {as : List OF} (C : CallOk X x f) (hg : Gl X x) (hd : (x == ("__debug__" : Str)) = false) (hs : (e :: es).all notStar = true) (ha : PA X (e :: es) (tOA X.K (oArgs as))) (hl : as.length = f.ps.length) :
    PE X (.Call (.Name x p) (e :: es) [] pos) (tXF X.K (cCall f as)) := by
  obtain ⟨k, ad, fd, F, hr, hm, hk, hb, _⟩ := C.ex
  simp only [List.all_cons, Bool.and_eq_true] at hs
  refine pe_imp (pe_call (E := fun _ _ _ => False) F hr hg hm hk hb .nil (fun _ _ _ _ _ _ _ h => h.elim) ha hd (star_of hs.1 _ _) (noStars hs.2)) fun σ H Q q => ?_
  obtain ⟨P0, G, s, o, s', m, ee, kk⟩ := q
  obtain ⟨w, e1, ee⟩ := Rs.bind_inv ee
  refine ⟨P0, G, s, w.1, w.2, m, e1, fun vs H1 G1 x1 m1 o1 => ?_⟩
  show spF X.K f (vs ++ []) H1 Q _
  rw [List.append_nil]
  exact call_read m1 o1.1 o1.2 (by rw [oArgs_len e1]; exact hl) ee fun v H' G' x2 m2 r2 => kk v H' G' (x1.trans x2) m2 r2
theorem px_call0 {x : Str} {f : FS} (C : CallOk X x f) (hg : Gl X x) (hd : (x == ("__debug__" : Str)) = false) (hl : f.ps.length = 0) :
    PE X (.Call (.Name x p) [] [] pos) (tXF X.K (cCall f [])) := by
  obtain ⟨k, ad, fd, F, hr, hm, hk, hb, _⟩ := C.ex
  refine pe_imp (pe_call0 (E := fun _ _ _ => False) F hr hg hm hk hb .nil (fun _ _ _ _ _ _ _ h => h.elim) hd) fun σ H Q q => ?_
  obtain ⟨P0, G, s, o, s', m, ee, kk⟩ := q
  obtain ⟨w, e1, ee⟩ := Rs.bind_inv ee
  cases e1
  show spF X.K f ([] ++ []) H Q _
  rw [List.append_nil]
  exact call_read (os := []) m rfl (fun k o v h => by simp at h) hl.symm ee fun v H' G' x2 m2 r2 => kk v H' G' x2 m2 r2
theorem px_callS {x y : Str} {f : FS} {i : Nat} {py : Pos} (C : CallOk X x f) (hg : Gl X x) (hd : (x == ("__debug__" : Str)) = false) (hN : X.N[i]? = some y) (hv : Vis X.env.scope y) (hd2 : (y == ("__debug__" : Str)) = false) (hcd : (y == ("__classdict__" : Str)) = false) (hl : f.ps.length = 1) :
    PE X (.Call (.Name x p) [.Name y py] [] pos) (tXF X.K (cCallS f i)) := by
  obtain ⟨k, ad, fd, F, hr, hm, hk, hb, _⟩ := C.ex
  refine ⟨fun pins s σ H Q I h => ?_⟩
  obtain ⟨P0, G, st, r, st', m, ee, kk⟩ := h
  unfold cCallS at ee
  split at ee
  · next ns hs =>
    obtain ⟨g, e1, ee⟩ := Rs.bind_inv ee
    obtain ⟨r', e2, ee⟩ := Rs.bind_inv ee
    cases ee
    have e2 := gv_inv e2
    obtain ⟨a, ea, qa⟩ := m.scr i ns hs
    refine (pe_call (E := fun _ _ _ => False) F hr hg hm hk hb .nil (fun _ _ _ _ _ _ _ h => h.elim) (pa_cons (pe_var hN hv hd2 hcd) pa_nil (star_of rfl _ _)) hd (star_of rfl _ _) (noStars rfl)).run pins s σ H Q I ?_
    refine ⟨.ref a, ea, ?_⟩
    refine .inr (.inl ⟨G, a, ns, g, r, rfl, hl, gv_inv e1, e2, qa, m.fro, fun v H' G' g1 g2 g3 g4 g6 => ?_⟩)
    have x0 : Ext P0 G G' := ⟨g1, fun a o ha => (g2 a o ha).imp id fun z => m.prot.none z⟩
    have free : ∀ a u, G a = none → H a = some u → G' a = none := fun a u z1 z2 => by
      cases q : G' a with
      | none => rfl
      | some o =>
        rcases g2 a o q with z | z
        · rw [z1] at z; cases z
        · rw [z2] at z; cases z
    have m' : Sim X.K P0 G' st σ H' := by
      refine ⟨m.len, fun a o ha => g4 a o (m.prot a o ha), g3, fun i x hi => ?_, fun i ys hi => ?_, fun i ns hi => ?_, m.sep⟩
      · obtain ⟨u, e, t⟩ := m.dat i x hi
        exact ⟨u, e, Tp.mono g1 _ _ t⟩
      · obtain ⟨a, ws, e, g, q, hh, t⟩ := m.own i ys hi
        exact ⟨a, ws, e, free a _ g hh, q, g4 a _ hh, TpL.mono g1 _ _ t⟩
      · obtain ⟨a, e, t⟩ := m.scr i ns hi
        exact ⟨a, e, g1.sql t⟩
    refine kk v H' G' x0 m' ?_
    revert g6
    cases r with
    | d x => exact fun z => z
    | own zs =>
      rintro ⟨b, ws, rfl, h1, h2, h3, h4⟩
      refine ⟨b, ws, rfl, h1, m.prot.none h2, h3, h4, fun i ys hi hb => ?_⟩
      obtain ⟨a, ws', e, g, q, hh, t⟩ := m.own i ys hi
      rw [hb] at e; cases e
      rw [h2] at hh; cases hh
    | scr _ => exact fun z => z.elim
  · cases ee
end
end Ek

/-! ## H: keywords, methods -/
namespace Ek
open PySem L2 PySem.Spec PyProof.Rows
theorem pickL_rel {α β : Type} {F : α → β → Prop} {ks : List Str} {us ws : List α} {vs zs : List β} (hl : vs.length = us.length) (hu : ∀ (k : Nat) o v, us[k]? = some o → vs[k]? = some v → F o v) (hl2 : zs.length = ws.length)
    (hw : ∀ (k : Nat) o v, ws[k]? = some o → zs[k]? = some v → F o v) : ∀ {ps : List Str} {j : Nat} {os : List α}, pickL ks us ws j ps = some os → ∃ xs, pickL ks vs zs j ps = some xs ∧ xs.length = os.length ∧ os.length = ps.length ∧ ∀ (k : Nat) o v, os[k]? = some o → xs[k]? = some v → F o v
  | [], j, os, h => by cases h; exact ⟨[], rfl, rfl, rfl, fun k o v h => by simp at h⟩
  | x :: r, j, os, h => by
    unfold pickL at h
    split at h
    · next a l h1 h2 =>
      cases h
      obtain ⟨xs, e, e1, e2, e3⟩ := pickL_rel hl hu hl2 hw h2
      have : ∃ b, pickAt ks vs zs j x = some b ∧ F a b := by
        unfold pickAt at h1 ⊢
        rw [hl]
        split at h1
        · next hj =>
          rw [if_pos hj]
          obtain ⟨b, hb⟩ : ∃ b, vs[j]? = some b := ⟨_, List.getElem?_eq_getElem (by omega)⟩
          exact ⟨b, hb, hu j a b h1 hb⟩
        · next hj =>
          rw [if_neg hj]
          cases hi : ks.idxOf? x with
          | none => rw [hi] at h1; cases h1
          | some i =>
            rw [hi] at h1
            have h1 : ws[i]? = some a := h1
            have hi' : i < ws.length := (List.getElem?_eq_some_iff.mp h1).1
            obtain ⟨b, hb⟩ : ∃ b, zs[i]? = some b := ⟨_, List.getElem?_eq_getElem (by omega)⟩
            exact ⟨b, hb, hw i a b h1 hb⟩
      obtain ⟨b, hb, fb⟩ := this
      refine ⟨b :: xs, ?_, by simp [e1], by simp [e2], fun k o v ho hv => ?_⟩
      · unfold pickL
        rw [hb, e]
      · cases k with
        | zero => simp at ho hv; subst ho hv; exact fb
        | succ k => exact e3 k o v (by simpa using ho) (by simpa using hv)
    · cases h
def kwNames : List Keyword → Option (List Str)
  | [] => some []
  | ⟨some x, _, _⟩ :: r => (kwNames r).map (x :: ·)
  | _ => none
theorem kw_facts {pos : Pos} {env : Env} : ∀ {kws : List Keyword} {ks : List Str}, kwNames kws = some ks → (backToKw pos (keywordEach kws env)).all (·.1.isSome) = true ∧ (backToKw pos (keywordEach kws env)).filterMap (·.1) = ks ∧ (backToKw pos (keywordEach kws env)).any (·.1.isNone) = false
  | [], ks, h => by cases h; exact ⟨rfl, rfl, rfl⟩
  | ⟨none, e, p⟩ :: r, ks, h => by cases h
  | ⟨some x, e, p⟩ :: r, ks, h => by
    simp only [kwNames] at h
    cases hr : kwNames r with
    | none => rw [hr] at h; cases h
    | some l =>
      rw [hr] at h; cases h
      obtain ⟨h1, h2, h3⟩ := kw_facts (pos := pos) (env := env) hr
      unfold backToKw at h1 h2 h3 ⊢
      unfold keywordEach
      rw [List.map_cons]
      refine ⟨?_, ?_, ?_⟩
      · rw [List.all_cons, h1]; rfl
      · rw [List.filterMap_cons]
        show x :: _ = _
        rw [h2]
      · rw [List.any_cons, h3]; rfl
theorem derefD_tp {K : PySem.W.Frag} {P0 G H : Hp} {s : S} {σ : L2.St} (m : Sim K P0 G s σ H) {o : O} {v : V} {x : D} (h : OR K G σ o v) (e : derefD o s = some x) : Tp K G x v := by
  cases o with
  | v d => cases e; exact h
  | sl i =>
    have h' : σ[i]? = some (some v) := h
    unfold derefD at e
    cases hs : s[i]? with
    | none => simp [hs] at e
    | some w =>
      cases w with
      | none => simp [hs] at e
      | some r =>
        cases r with
        | d y =>
          simp [hs] at e; subst e
          obtain ⟨u, e1, t⟩ := m.dat i y hs
          rw [h'] at e1; cases e1
          exact t
        | own xs => simp [hs] at e
        | scr ns => simp [hs] at e
section
variable {X : Cx} {a b c e : Expr} {fa fb fc : OF} {f f' : XF} {pos p : Pos}
theorem pk_oargs : ∀ {kws : List Keyword} {fs : List OF}, Paired (fun (k : Keyword) f => PE X k.value (tOF X.K f)) kws fs → PK X kws (tOA X.K (oArgs fs))
  | [], _, .nil => ⟨fun pos pins s σ H Q I h => pk_nil.run pos pins s σ H Q I (by
      obtain ⟨P0, G, s, o, s', m, e, k⟩ := h
      cases e
      exact k [] H G .refl m ⟨rfl, fun k o v h => by simp at h⟩)⟩
  | ⟨nm, e, kp⟩ :: kws, _, @Paired.cons _ _ _ _ f _ fs h t => ⟨fun pos pins s σ H Q I hh => (pk_cons h (pk_oargs t)).run pos pins s σ H Q I (by
      obtain ⟨P0, G, s, o, s', m, e, k⟩ := hh
      obtain ⟨p, e1, e⟩ := Rs.bind_inv e
      obtain ⟨q, e2, e⟩ := Rs.bind_inv e
      cases e
      refine ⟨P0, G, s, p.1, p.2, m, e1, fun v H1 G1 x1 m1 t1 => ⟨P0, G1, p.2, q.1, q.2, m1, e2, fun vs H2 G2 x2 m2 t2 =>
        k _ H2 G2 (x1.trans x2) m2 ⟨by simp [t2.1], fun j o w ho hw => ?_⟩⟩⟩
      cases j with
      | zero => simp at ho hw; subst ho hw; exact t1.mono x2
      | succ j => exact t2.2 j o w (by simpa using ho) (by simpa using hw))⟩
theorem callK_read {f : FS} {ks : List Str} {as kws : List OF} {P0 G H : Hp} {s : S} {σ : L2.St} {Q : VK} {o : R} {s' : S} (m : Sim X.K P0 G s σ H) (e : cCallK f ks as kws s = .ok (o, s'))
    (kk : ∀ v H' G', Ext P0 G G' → Sim X.K P0 G' s' σ H' → RR X.K P0 G' s' σ H' o v → Q v H') :
    tOA X.K (oArgs as) σ H fun vs H1 => tOA X.K (oArgs kws) σ H1 fun zs H2 => spF X.K f ((pick f.ps ks vs zs).getD []) H2 Q (fun _ _ _ => False) := by
  obtain ⟨w, e1, e⟩ := Rs.bind_inv e
  obtain ⟨w2, e2, e⟩ := Rs.bind_inv e
  obtain ⟨os, e3, e⟩ := Rs.bind_inv e
  refine ⟨P0, G, s, w.1, w.2, m, e1, fun vs H1 G1 x1 m1 o1 => ⟨P0, G1, w.2, w2.1, w2.2, m1, e2, fun zs H2 G2 x2 m2 o2 => ?_⟩⟩
  have e3' := gv_inv e3
  unfold pick at e3'
  split at e3'
  case isFalse => cases e3'
  next hc =>
  obtain ⟨xs, h1, h2, h3, h4⟩ := pickL_rel (F := fun o v => OR X.K G2 σ o v) o1.1 (fun k o v h h' => (o1.2 k o v h h').mono x2) o2.1 o2.2 e3'
  have : (pick f.ps ks vs zs).getD [] = xs := by
    unfold pick
    rw [if_pos (by rw [o1.1, o2.1]; exact hc), h1]; rfl
  show spF X.K f ((pick f.ps ks vs zs).getD []) H2 Q _
  rw [this]
  exact call_read m2 h2 h4 h3 e fun v H' G' x3 m3 r3 => kk v H' G' (x1.trans (x2.trans x3)) m3 r3
theorem px_callK {x : Str} {f : FS} {e : Expr} {es : List Expr} {kws : List Keyword} {ks : List Str} {as fs : List OF} (C : CallOk X x f) (hks : kwNames kws = some ks) (hin : ks ∈ f.kl) (hg : Gl X x) (hd : (x == ("__debug__" : Str)) = false)
    (hs : (e :: es).all notStar = true) (ha : PA X (e :: es) (tOA X.K (oArgs as))) (hkw : PK X kws (tOA X.K (oArgs fs))) : PE X (.Call (.Name x p) (e :: es) kws pos) (tXF X.K (cCallK f ks as fs)) := by
  obtain ⟨k, ad, fd, F, hr, hm, hk, _, hb⟩ := C.ex
  have hb := hb ks hin
  obtain ⟨k1, k2, k3⟩ := kw_facts (pos := pos) (env := X.env) hks
  refine ⟨fun pins s σ H Q I h => ?_⟩
  obtain ⟨P0, G, st, o, s', m, ee, kk⟩ := h
  have rd := callK_read m ee kk
  simp only [List.all_cons, Bool.and_eq_true] at hs
  refine wpAny_Call_Name_kw (ld_glob I hg hm ?_ hd)
  refine PySem.W.callWith_KW (h₀ := X.base) I.ok.mod.kin hk k1 (thn (ha.run pos pins s σ H _ I rd) fun us s1 ⟨vs, H1, I1, r, q⟩ => ?_) (by rw [star_of hs.1]; unfold backTo; rw [List.map_cons, List.any_cons]; have := noStars (pos := pos) (env := X.env) hs.2; unfold backTo at this; rw [this, k3]; rfl) (star_of hs.1 _ _)
  refine thn (hkw.run pos pins s1 σ H1 _ I1 q) fun ws s2 ⟨zs, H2, I2, rz, q2⟩ => ⟨I2.kIn, ?_⟩
  rw [k2]
  exact run_fnk (E := fun _ _ _ => False) F hr hb (fun _ _ _ _ _ _ _ h => h.elim) I2 r rz q2
theorem px_callK0 {x : Str} {f : FS} {kws : List Keyword} {ks : List Str} {fs : List OF} (C : CallOk X x f) (hks : kwNames kws = some ks) (hin : ks ∈ f.kl) (hg : Gl X x) (hd : (x == ("__debug__" : Str)) = false)
    (hkw : PK X kws (tOA X.K (oArgs fs))) : PE X (.Call (.Name x p) [] kws pos) (tXF X.K (cCallK f ks [] fs)) := by
  obtain ⟨k, ad, fd, F, hr, hm, hk, _, hb⟩ := C.ex
  have hb := hb ks hin
  obtain ⟨k1, k2, k3⟩ := kw_facts (pos := pos) (env := X.env) hks
  refine ⟨fun pins s σ H Q I h => ?_⟩
  obtain ⟨P0, G, st, o, s', m, ee, kk⟩ := h
  obtain ⟨P1, G1, t1, os, t1', m1, e1, c1⟩ := callK_read m ee kk
  cases e1
  refine wpAny_Call_Name_kw (ld_glob I hg hm ?_ hd)
  refine PySem.W.callWith_KW0 (h₀ := X.base) I.ok.mod.kin hk k1 ?_ (by rw [k3]; rfl)
  refine thn (hkw.run pos pins s σ H _ I (c1 [] H G1 .refl m1 ⟨rfl, fun k o v h => by simp at h⟩)) fun ws s2 ⟨zs, H2, I2, rz, q2⟩ => ⟨I2.kIn, ?_⟩
  rw [k2]
  exact run_fnk (E := fun _ _ _ => False) F hr hb (fun _ _ _ _ _ _ _ h => h.elim) I2 .nil rz q2
/-! ### methods -/
def plainBase : Expr → Bool
  | .Call (.Name _ _) [] [] _ => false
  | _ => true
theorem base_of {o : Expr} (h : plainBase o = true) (m : Str) (env : Env) (whole : Sem Value) : attributeBase o m env whole = whole := by
  unfold attributeBase
  split
  · next id pos => cases h
  · rfl
/-- a method of texts -/
inductive TM : String → String → Prop where
  | join : TM "join" "str.join" | count : TM "count" "str.count"
theorem tm_facts {n id : String} (h : TM n id) : Slot "str" (Str.ofString n) id ∧ typeOf (.builtin id) = pure (.type "method_descriptor") := by
  cases h
  · exact ⟨PySem.F.slot_str_join, PySem.F.type_str_join⟩
  · exact ⟨PySem.F.slot_str_count, PySem.F.type_str_count⟩
def VMt (K : PySem.W.Frag) (r : V → List V → Hp → VK → Prop) (x : D) (ys : List D) (res : R) : Prop := ∀ P0 G s σ H v vs Q, Sim K P0 G s σ H → Tq K G H x v → TpL K G ys vs → Post K P0 G s σ Q res → r v vs H Q
theorem meth_ok {n : String} {x : D} {ys : List D} {r : R} (h : dMeth n x ys = some r) : ∃ id rr, TM n id ∧ MtR X id rr ∧ VMt X.K rr x ys r ∧ ∃ a, x = .str a := by
  unfold dMeth at h
  split at h
  · next e =>
    subst e
    cases x with
    | str a =>
      split at h
      · next a' zs heq =>
        cases heq
        split at h
        · next ts hts =>
          split at h
          · next hz =>
            cases h
            refine ⟨_, _, .join, mt_join, fun P0 G s σ H v vs Q m hv t p => ?_, a, rfl⟩
            cases tq_str hv
            simp only [TpL] at t
            obtain ⟨u, r, rfl, t1, t2⟩ := t
            subst t2
            simp only [Tp] at t1
            obtain ⟨b, ws, rfl, hb, tb⟩ := t1
            rw [strs_of hts tb] at hb
            refine ⟨a, b, ts, rfl, rfl, .inl (.of (m.fro _ _ hb)), ?_, p.now m tp_str⟩
            have : szMax ≤ 16777216 := by decide
            have e1 : (ts.map fun x => x.length) = ts.map Str.length := rfl
            rw [e1]
            have e2 : a.length * ts.length = ts.length * a.length := Nat.mul_comm _ _
            omega
          · cases h
        · cases h
      · cases h
    | _ => cases h
  · split at h
    · next e =>
      subst e
      cases x with
      | str a =>
        split at h
        · next a' b heq =>
          cases heq
          cases h
          refine ⟨_, _, .count, mt_count, fun P0 G s σ H v vs Q m hv t p => ?_, a, rfl⟩
          cases tq_str hv
          simp only [TpL] at t
          obtain ⟨u, r, rfl, t1, t2⟩ := t
          subst t2
          simp [Tp] at t1
          subst t1
          exact ⟨a, b, rfl, rfl, p.now m tp_int⟩
        · cases h
      | _ => cases h
    · cases h
theorem few_ok {es : List Expr} (hs : es.all notStar = true) (hl : es.length < 20) : ((backTo pos (starEach es X.env)).all (fun x => !x.1) && (backToKw pos (keywordEach [] X.env)).all (fun x => x.1.isSome) && decide (es.length + ([] : List Keyword).length + (if ([] : List Keyword).isEmpty then 0 else 1) < 30)) = true := by
  have h1 : (backTo pos (starEach es X.env)).all (fun x => !x.1) = true := by
    have := noStars (pos := pos) (env := X.env) hs
    rw [List.all_eq_not_any_not]
    simp only [Bool.not_not]
    rw [this]; rfl
  have h2 : decide (es.length + ([] : List Keyword).length + (if ([] : List Keyword).isEmpty then 0 else 1) < 30) = true := by
    simp; omega
  rw [h1, h2]; rfl
theorem px_meth {n : String} {es : List Expr} {fs : List XF} {apos : Pos} (ha : PE X a (tOF X.K fa)) (he : PA X (e :: es) (tAF X.K (cArgs fs))) (hs : (e :: es).all notStar = true) (hl : (e :: es).length < 20) (hb : plainBase a = true) (hline : (apos.endLine == pos.line) = true) :
    PE X (.Call (.Attribute a (Str.ofString n) apos) (e :: es) [] pos) (tXF X.K (cMeth n fa fs)) := by
  refine ⟨fun pins s σ H Q I h => ?_⟩
  obtain ⟨P0, G, st, r, st', m, ee, k⟩ := h
  obtain ⟨p, e1, ee⟩ := Rs.bind_inv ee
  obtain ⟨x, e3, ee⟩ := Rs.bind_inv ee
  obtain ⟨q, e2, ee⟩ := Rs.bind_inv ee
  obtain ⟨y, e4, ee⟩ := Rs.bind_inv ee
  cases ee
  obtain ⟨id, rr, tm, hr, hv, az, rfl⟩ := meth_ok (X := X) (gv_inv e4)
  obtain ⟨t1, t2⟩ := tm_facts tm
  have hs' := hs
  simp only [List.all_cons, Bool.and_eq_true] at hs'
  refine (pe_bm PySem.F.plainAttrs_str t1 t2 hr ha he (base_of hb _ _ _) (few_ok hs hl) hline (star_of hs'.1 _ _) (noStars hs'.2)).run pins s σ H Q I ⟨P0, G, st, p.1, p.2, m, e1, fun v H1 G1 x1 m1 o1 => ?_⟩
  have td := derefD_tp m1 o1 (gv_inv e3)
  refine ⟨?_, P0, G1, p.2, q.1, q.2, m1, e2, fun vs H2 G2 x2 m2 t2 => ?_⟩
  · simp [Tp] at td
    subst td
    rfl
  · exact hv P0 G2 q.2 σ H2 v vs Q m2 ((Tp.mono x2.1 _ _ td).tq m2.fro) t2 fun v' H' G' x3 m3 r3 => k v' H' G' (x1.trans (x2.trans x3)) m3 r3
/-! ### methods that change a list of one's own -/
/-- a method of lists -/
inductive LM : String → String → Prop where
  | append : LM "append" "list.append" | extend : LM "extend" "list.extend" | pop : LM "pop" "list.pop"
theorem lm_facts {n id : String} (h : LM n id) : Slot "list" (Str.ofString n) id ∧ typeOf (.builtin id) = pure (.type "method_descriptor") := by
  cases h
  · exact ⟨PySem.F.slot_list_append, PySem.F.type_list_append⟩
  · exact ⟨PySem.F.slot_list_extend, PySem.F.type_list_extend⟩
  · exact ⟨PySem.F.slot_list_pop, PySem.F.type_list_pop⟩
/-- what the method does to the list at l -/
def VMut (K : PySem.W.Frag) (r : V → List V → Hp → VK → Prop) (xs ys : List D) (res : R × List D) : Prop := ∀ G H l ws vs Q, Sub G H → H l = some (.lst ws) → G l = none → TpL K G xs ws → TpL K G ys vs →
  (∀ v ws', TpL K G res.2 ws' → (∃ x, res.1 = .d x ∧ Tp K G x v) → Q v (upd H l (.lst ws'))) → r (.ref l) vs H Q
theorem mut_ok {n : String} {xs ys : List D} {res : R × List D} (h : dMut n xs ys = some res) : ∃ id rr, LM n id ∧ MtR X id rr ∧ VMut X.K rr xs ys res := by
  unfold dMut at h
  split at h
  · next e =>
    subst e
    unfold mApp at h
    split at h
    · next y =>
      split at h
      · next hz =>
        cases h
        refine ⟨_, _, .append, mt_append, fun G H l ws vs Q z hl hg tx ty q => ?_⟩
        simp only [TpL] at ty
        obtain ⟨v, r, rfl, t1, rfl⟩ := ty
        refine ⟨l, ws, v, rfl, rfl, hl, by rw [tx.length]; exact size_lt hz, q _ _ (tx.append (.cons t1 .nil)) ⟨_, rfl, tp_none⟩⟩
      · cases h
    · cases h
  split at h
  · next e =>
    subst e
    unfold mExt at h
    split at h
    · next zs =>
      split at h
      · next hz =>
        cases h
        refine ⟨_, _, .extend, mt_extend, fun G H l ws vs Q z hl hg tx ty q => ?_⟩
        simp only [TpL] at ty
        obtain ⟨v, r, rfl, t1, rfl⟩ := ty
        simp only [Tp] at t1
        obtain ⟨b, us, rfl, hb, tb⟩ := t1
        refine ⟨l, b, ws, us, rfl, rfl, hl, z _ _ hb, by rw [tx.length, tb.length]; exact size_ok hz, q _ _ (tx.append tb) ⟨_, rfl, tp_none⟩⟩
      · cases h
    · cases h
  split at h
  · next e =>
    subst e
    unfold mPop at h
    split at h
    · cases hx : xs[xs.length - 1]? with
      | none => rw [hx] at h; cases h
      | some y =>
        rw [hx] at h; cases h
        refine ⟨_, _, .pop, mt_pop, fun G H l ws vs Q z hl hg tx ty q => ?_⟩
        simp only [TpL] at ty
        subst ty
        obtain ⟨v, e1, t1⟩ := tx.get hx
        refine ⟨l, ws, v, rfl, rfl, hl, by rw [tx.length]; exact e1, q _ _ tx.dropLast ⟨_, rfl, t1⟩⟩
    · next i =>
      split at h
      case isFalse => cases h
      next hsz =>
      cases hi : ixN xs.length i with
      | none => rw [hi] at h; cases h
      | some k =>
        rw [hi] at h
        cases hx : xs[k]? with
        | none => simp [hx] at h
        | some y =>
          simp [hx] at h
          subst h
          obtain ⟨h1, h2, h3, h4⟩ := ixN_seq hi
          refine ⟨_, _, .pop, mt_popAt, fun G H l ws vs Q z hl hg tx ty q => ?_⟩
          simp only [TpL] at ty
          obtain ⟨v0, r, rfl, t1, rfl⟩ := ty
          simp [Tp] at t1
          subst t1
          obtain ⟨v, e1, t1⟩ := tx.get hx
          refine ⟨l, ws, i, k, v, rfl, rfl, hl, ?_, ?_, by rw [tx.length]; exact h1, e1, q _ _ (tx.eraseIdx k) ⟨_, rfl, t1⟩⟩
          · have : szMax ≤ 1000000 := by decide
            omega
          · have : szMax ≤ 1000000 := by decide
            omega
    · cases h
  · cases h
end
end Ek

/-! ## I: what is walked, targets, comprehensions -/
namespace Ek
open PySem L2 PySem.Spec PyProof.Rows
section
variable {X : Cx} {a b c e tg : Expr} {fa fb fc : OF} {f f' : XF} {pos p : Pos}
theorem slot_own {i : Nat} {s : S} {xs : List D} {K : PySem.W.Frag} {P0 G H : Hp} {σ : L2.St} (m : Sim K P0 G s σ H) (h : s[i]? = some (some (.own xs))) : ∃ v, σ[i]? = some (some v) := by
  obtain ⟨a, vs, e, _⟩ := m.own i xs h
  exact ⟨_, e⟩
theorem cMut_inv {i : Nat} {g : List D → List D → Option (R × List D)} {as : List XF} {s : S} {r : R × S} (h : cMut i g as s = .ok r) :
    ∃ zs p xs w, s[i]? = some (some (.own zs)) ∧ cArgs as s = .ok p ∧ p.2[i]? = some (some (.own xs)) ∧ g xs p.1 = some w ∧ r = (w.1, p.2.set i (some (.own w.2))) := by
  unfold cMut at h
  split at h
  · next zs h0 =>
    obtain ⟨p, e1, h⟩ := Rs.bind_inv h
    split at h
    · next xs h1 =>
      obtain ⟨w, e2, h⟩ := Rs.bind_inv h
      cases h
      exact ⟨zs, p, xs, w, h0, e1, h1, gv_inv e2, rfl⟩
    · cases h
  · cases h
theorem mut_end {n : String} {i : Nat} {P0 G G1 H1 : Hp} {s1 : S} {σ : L2.St} {Q : VK} {xs ys : List D} {vs : List V} {w : R × List D} {rr : V → List V → Hp → VK → Prop} {v : V} (m1 : Sim X.K P0 G1 s1 σ H1) (hv : VMut X.K rr xs ys w) (h1 : s1[i]? = some (some (.own xs)))
    (ev : σ[i]? = some (some v)) (t : TpL X.K G1 ys vs) (x1 : Ext P0 G G1)
    (k : ∀ v H' G', Ext P0 G G' → Sim X.K P0 G' (s1.set i (some (.own w.2))) σ H' → RR X.K P0 G' (s1.set i (some (.own w.2))) σ H' w.1 v → Q v H') : rr v vs H1 Q := by
  obtain ⟨l, ws, ea, ga, qa, ha, ta⟩ := m1.own i xs h1
  rw [ev] at ea
  have : v = .ref l := by cases ea; rfl
  subst this
  refine hv G1 H1 l ws vs Q m1.fro ha ga ta t fun v ws' tw hr => ?_
  obtain ⟨x, e, tx⟩ := hr
  refine k v _ G1 x1 (m1.write h1 ev tw) ?_
  rw [e]
  exact tx
theorem px_mut0 {n : String} {i : Nat} {x : Str} {px apos : Pos} (hN : X.N[i]? = some x) (hv : Vis X.env.scope x) (hd : (x == ("__debug__" : Str)) = false) (hcd : (x == ("__classdict__" : Str)) = false) (hline : (apos.endLine == pos.line) = true) :
    PE X (.Call (.Attribute (.Name x px) (Str.ofString n) apos) [] [] pos) (tXF X.K (cMut i (dMut n) [])) := by
  refine ⟨fun pins s σ H Q I h => ?_⟩
  obtain ⟨P0, G, st, r, st', m, ee, k⟩ := h
  obtain ⟨zs, q, xs, w, h0, e1, h1, e2, e3⟩ := cMut_inv ee
  cases e1
  obtain ⟨id, rr, lm, hr, hm⟩ := mut_ok (X := X) e2
  obtain ⟨t1, t2⟩ := lm_facts lm
  obtain ⟨v, ev⟩ := slot_own m h0
  refine (pe_bm0 PySem.F.plainAttrs_list t1 t2 hr (pe_var hN hv hd hcd) (base_of rfl _ _ _) hline).run pins s σ H Q I ⟨v, ev, ?_, ?_⟩
  · obtain ⟨l, ws, ea, ga, qa, ha, ta⟩ := m.own i zs h0
    rw [ev] at ea
    have : v = .ref l := by cases ea; rfl
    subst this
    exact .inl ⟨rfl, ws, .of ha⟩
  · cases e3
    exact mut_end (n := n) m hm h1 ev .nil .refl k
theorem px_mut {n : String} {i : Nat} {x : Str} {px apos : Pos} {es : List Expr} {fs : List XF} (hN : X.N[i]? = some x) (hv : Vis X.env.scope x) (hd : (x == ("__debug__" : Str)) = false) (hcd : (x == ("__classdict__" : Str)) = false)
    (he : PA X (e :: es) (tAF X.K (cArgs fs))) (hs : (e :: es).all notStar = true) (hl : (e :: es).length < 20) (hline : (apos.endLine == pos.line) = true) :
    PE X (.Call (.Attribute (.Name x px) (Str.ofString n) apos) (e :: es) [] pos) (tXF X.K (cMut i (dMut n) fs)) := by
  refine ⟨fun pins s σ H Q I h => ?_⟩
  obtain ⟨P0, G, st, r, st', m, ee, k⟩ := h
  obtain ⟨zs, q, xs, w, h0, e1, h1, e2, e3⟩ := cMut_inv ee
  obtain ⟨id, rr, lm, hr, hm⟩ := mut_ok (X := X) e2
  obtain ⟨t1, t2⟩ := lm_facts lm
  obtain ⟨v, ev⟩ := slot_own m h0
  have hs' := hs
  simp only [List.all_cons, Bool.and_eq_true] at hs'
  refine (pe_bm PySem.F.plainAttrs_list t1 t2 hr (pe_var hN hv hd hcd) he (base_of rfl _ _ _) (few_ok hs hl) hline (star_of hs'.1 _ _) (noStars hs'.2)).run pins s σ H Q I ⟨v, ev, ?_, P0, G, st, q.1, q.2, m, e1, fun vs H1 G1 x1 m1 t => ?_⟩
  · obtain ⟨l, ws, ea, ga, qa, ha, ta⟩ := m.own i zs h0
    rw [ev] at ea
    have : v = .ref l := by cases ea; rfl
    subst this
    exact .inl ⟨rfl, ws, .of ha⟩
  · cases e3
    exact mut_end (n := n) m1 hm h1 ev t x1 k
/-! ### what is walked -/
def Walks (K : PySem.W.Frag) (G : Hp) (J : It) (items : List D) : Prop := ∀ (i : Nat) (G1 H1 : Hp), Sub G G1 → Sub G1 H1 →
  (∀ d, items[i]? = some d → J.go i H1 ∧ ∀ x H', J.yld i H1 x H' → (H' = H1 ∧ Tp K G1 d x) ∨ ∃ T o, H1 T = none ∧ H' = upd H1 T o ∧ Tp K (upd G1 T o) d x) ∧ (items.length ≤ i → J.stop i H1)
def iAF (K : PySem.W.Frag) (f : AF) : TI := fun σ H R => ∃ P0 G s items s', Sim K P0 G s σ H ∧ f s = .ok (items, s') ∧ ∀ J H' G', Ext P0 G G' → Sim K P0 G' s' σ H' → Walks K G' J items → R J H'
theorem pi_imp {wi wi' : TI} (h : PI X tg e wi) (i : ∀ σ H R, wi' σ H R → wi σ H R) : PI X tg e wi' := ⟨fun pins s σ H R I q => h.run pins s σ H R I (i σ H R q)⟩
theorem walks_list {K : PySem.W.Frag} {G : Hp} {a : Addr} {vs : List V} {xs : List D} (h : G a = some (.lst vs)) (t : TpL K G xs vs) : Walks K G (Itl K a) xs := fun i G1 H1 z1 z2 => by
  have hl : SqL K H1 a vs := .of (z2 _ _ (z1 _ _ h))
  refine ⟨fun d hd => ?_, fun hi => ⟨vs, hl, by rw [t.length]; exact hi⟩⟩
  obtain ⟨v, e1, t1⟩ := t.get hd
  refine ⟨⟨vs, v, hl, e1⟩, fun x H' y => .inl ⟨y.1, ?_⟩⟩
  have := y.2 vs hl
  rw [e1] at this; cases this
  exact Tp.mono z1 _ _ t1
theorem walks_tup {K : PySem.W.Frag} {G : Hp} {a : Addr} {vs : List V} {xs : List D} (h : SqT K G a vs) (t : TpL K G xs vs) : Walks K G (Itt K a) xs := fun i G1 H1 z1 z2 => by
  have hl : SqT K H1 a vs := z2.sqt (z1.sqt h)
  refine ⟨fun d hd => ?_, fun hi => ⟨vs, hl, by rw [t.length]; exact hi⟩⟩
  obtain ⟨v, e1, t1⟩ := t.get hd
  refine ⟨⟨vs, v, hl, e1⟩, fun x H' y => .inl ⟨y.1, ?_⟩⟩
  have := y.2 vs hl
  rw [e1] at this; cases this
  exact Tp.mono z1 _ _ t1
theorem walks_str {K : PySem.W.Frag} {G : Hp} {z : Str} : Walks K G (Its z) (chars z) := fun i G1 H1 z1 z2 => by
  have hl : (chars z).length = z.cps.size := by simp [chars]
  refine ⟨fun d hd => ?_, fun hi => by rw [hl] at hi; exact hi⟩
  have hi : i < z.cps.size := by
    have := (List.getElem?_eq_some_iff.mp hd).1
    omega
  refine ⟨hi, fun x H' y => .inl ⟨y.1, ?_⟩⟩
  obtain ⟨c, e1, rfl⟩ := y.2
  unfold chars at hd
  rw [List.getElem?_map, Array.getElem?_toList, e1] at hd
  cases hd
  exact tp_str
theorem walks_range {K : PySem.W.Frag} {G : Hp} {lo hi : Int} : Walks K G (Itr lo (hi - lo).toNat) (rangeD lo hi) := fun i G1 H1 z1 z2 => by
  have hl : (rangeD lo hi).length = (hi - lo).toNat := by simp [rangeD]
  refine ⟨fun d hd => ?_, fun h => by rw [hl] at h; exact h⟩
  have hi' : i < (hi - lo).toNat := by
    have := (List.getElem?_eq_some_iff.mp hd).1
    omega
  refine ⟨hi', fun x H' y => .inl ⟨y.1, ?_⟩⟩
  rw [y.2]
  unfold rangeD at hd
  rw [List.getElem?_map, List.getElem?_range hi'] at hd
  cases hd
  exact tp_int
theorem wIt_inv {s : S} {r : List D × S} (h : wIt f s = .ok r) : ∃ x, cFz f s = .ok (x, r.2) ∧ itOf x = some r.1 := by
  obtain ⟨p, e1, h⟩ := Rs.bind_inv h
  obtain ⟨xs, e2, h⟩ := Rs.bind_inv h
  cases h
  exact ⟨p.1, e1, gv_inv e2⟩
theorem pi_it (h : PE X e (tXF X.K f)) : PI X tg e (iAF X.K (wIt f)) := by
  refine ⟨fun pins s σ H R I q => ?_⟩
  obtain ⟨P0, G, st, items, st', m, ee, k⟩ := q
  obtain ⟨x, e1, e2⟩ := wIt_inv ee
  have hz := pz_of h
  cases x with
  | list xs =>
    cases e2
    refine (pi_list hz).run pins s σ H R I ⟨P0, G, st, .list items, st', m, e1, fun v H1 G1 x1 m1 t => ?_⟩
    simp only [Tp] at t
    obtain ⟨a, vs, rfl, ha, tv⟩ := t
    exact ⟨a, rfl, ⟨vs, .of (m1.fro _ _ ha)⟩, k _ H1 G1 x1 m1 (walks_list ha tv)⟩
  | tuple xs =>
    cases e2
    refine (pi_tup hz).run pins s σ H R I ⟨P0, G, st, .tuple items, st', m, e1, fun v H1 G1 x1 m1 t => ?_⟩
    simp only [Tp] at t
    obtain ⟨a, vs, rfl, ha, tv⟩ := t
    exact ⟨a, rfl, ⟨vs, m1.fro.sqt ha⟩, k _ H1 G1 x1 m1 (walks_tup ha tv)⟩
  | str z =>
    have e3 : (if z.length ≤ szMax then some (chars z) else none) = some items := e2
    split at e3
    · cases e3
      refine (pi_str hz).run pins s σ H R I ⟨P0, G, st, .str z, st', m, e1, fun v H1 G1 x1 m1 t => ?_⟩
      simp [Tp] at t
      exact ⟨z, t, k _ H1 G1 x1 m1 walks_str⟩
    · cases e3
  | _ => cases e2
theorem okR_bounds {n : Int} (h : okR n = true) : -(2 ^ 62) ≤ n ∧ n < 2 ^ 62 := by
  unfold okR at h
  simp only [Bool.and_eq_true, decide_eq_true_eq] at h
  omega
theorem int_of {K : PySem.W.Frag} {P0 G H : Hp} {s : S} {σ : L2.St} {k : Int} {v : V} (h : RR K P0 G s σ H (.d (.int k)) v) : v = .int k := by
  have h' : Tp K G (.int k) v := h
  simpa [Tp] using h'
theorem pi_r1 (hg : Gl X "range") (hm : X.mg "range" = none) (ha : PE X a (tXF X.K f)) (hs : notStar a = true) : PI X tg (.Call (.Name "range" p) [a] [] pos) (iAF X.K (wR1 f)) :=
  pi_imp (pi_range1 hg hm (pa_cons ha pa_nil (star_of hs _ _)) (star_of hs _ _)) fun σ H R q => by
    obtain ⟨P0, G, s, o, s', m, e, k⟩ := q
    obtain ⟨p, e1, e⟩ := Rs.bind_inv e
    obtain ⟨r, s1⟩ := p
    refine ⟨P0, G, s, r, s1, m, e1, fun v H1 G1 x1 m1 r1 => ?_⟩
    cases r with
    | d x =>
      cases x with
      | int n =>
        have e' : (if okR n = true then Rs.ok (rangeD 0 n, s1) else .bad) = .ok (o, s') := e
        split at e'
        · next hn =>
          cases e'
          obtain ⟨b1, b2⟩ := okR_bounds hn
          refine ⟨n, by rw [int_of r1], b1, b2, ?_⟩
          have := k (Itr 0 n.toNat) H1 G1 x1 m1 (by have w := walks_range (K := X.K) (G := G1) (lo := 0) (hi := n); rw [Int.sub_zero] at w; exact w)
          exact this
        · cases e'
      | _ => cases e
    | own _ => cases e
    | scr _ => cases e
theorem pi_r2 (hg : Gl X "range") (hm : X.mg "range" = none) (ha : PE X a (tXF X.K f)) (hb : PE X b (tXF X.K f')) (hs : notStar a = true) (hs2 : notStar b = true) : PI X tg (.Call (.Name "range" p) [a, b] [] pos) (iAF X.K (wR2 f f')) :=
  pi_imp (pi_range2 hg hm (pa_cons ha (pa_cons hb pa_nil (star_of hs2 _ _)) (star_of hs _ _)) (by rw [star_of hs, star_of hs2]; rfl) (star_of hs2 _ _)) fun σ H R q => by
    obtain ⟨P0, G, s, o, s', m, e, k⟩ := q
    obtain ⟨p, e1, e⟩ := Rs.bind_inv e
    obtain ⟨q, e2, e⟩ := Rs.bind_inv e
    obtain ⟨r, s1⟩ := p
    obtain ⟨r', s2⟩ := q
    refine ⟨P0, G, s, r, s1, m, e1, fun v H1 G1 x1 m1 r1 => ⟨P0, G1, s1, r', s2, m1, e2, fun v2 H2 G2 x2 m2 r2 => ?_⟩⟩
    cases r with
    | d x =>
      cases x with
      | int n =>
        cases r' with
        | d y =>
          cases y with
          | int n' =>
            have e' : (if okR n = true ∧ okR n' = true then Rs.ok (rangeD n n', s2) else .bad) = .ok (o, s') := e
            split at e'
            · next hn =>
              cases e'
              have b := okR_bounds hn.1
              have b' := okR_bounds hn.2
              refine ⟨n, n', by rw [int_of r1, int_of r2], ⟨b.1, b.2, b'.1, b'.2⟩, k _ H2 G2 (x1.trans x2) m2 walks_range⟩
            · cases e'
          | _ => cases e
        | own _ => cases e
        | scr _ => cases e
      | _ => cases e
    | own _ => cases e
    | scr _ => cases e
/-! ### targets -/
/-- the slots that a target sets: ts -/
def gD (K : PySem.W.Frag) (g : GF) (ts : List Nat) : TG := fun v σ H Q => ∃ P0 G s x s', Sim K P0 G s σ H ∧ Tp K G x v ∧ g x s = .ok s' ∧
  ∀ σ', Sim K P0 G s' σ' H → σ'.length = σ.length → (∀ i, i ∉ ts → σ'[i]? = σ[i]?) → Q σ' H
def gDs (K : PySem.W.Frag) (gs : List GF) (ts : List Nat) : TGs := fun vs σ H Q => ∃ P0 G s xs s', Sim K P0 G s σ H ∧ TpL K G xs vs ∧ gAll gs xs s = .ok s' ∧
  ∀ σ', Sim K P0 G s' σ' H → σ'.length = σ.length → (∀ i, i ∉ ts → σ'[i]? = σ[i]?) → Q σ' H
theorem pg_imp {g g' : TG} (h : PG X e g) (i : ∀ v σ H Q, g' v σ H Q → g v σ H Q) : PG X e g' := ⟨fun pins s σ H v u Q I r q => h.run pins s σ H v u Q I r (i v σ H Q q)⟩
theorem pgs_imp {es : List Expr} {g g' : TGs} (h : PGs X es g) (i : ∀ v σ H Q, g' v σ H Q → g v σ H Q) : PGs X es g' := ⟨fun pins s σ H v u Q I r q => h.run pins s σ H v u Q I r (i v σ H Q q)⟩
theorem pg_nameF {i : Nat} {x : Str} (hN : X.N.Nodup) (hi : X.N[i]? = some x) (hx : Loc X.env.scope x) (hf : X.fn x = true ∨ X.env.scope.names.lookup x = some .local) : PG X (.Name x pos) (gD X.K (gSet i) [i]) :=
  pg_imp (pg_name hN hi hx hf) fun v σ H Q q => by
    obtain ⟨P0, G, s, y, s', m, t, e, k⟩ := q
    cases e
    refine k _ (m.store i (show RR X.K P0 G s σ H (.d y) v from t)) (by simp) fun j hj => ?_
    rw [List.getElem?_set_ne]
    simp at hj
    exact fun z => hj z.symm
theorem gAll_nil {s : S} {xs : List D} {s' : S} (h : gAll [] xs s = .ok s') : xs = [] ∧ s' = s := by
  cases xs with
  | nil => cases h; exact ⟨rfl, rfl⟩
  | cons x r => cases h
theorem gAll_cons {g : GF} {gs : List GF} {s : S} {xs : List D} {s' : S} (h : gAll (g :: gs) xs s = .ok s') : ∃ x r s1, xs = x :: r ∧ g x s = .ok s1 ∧ gAll gs r s1 = .ok s' := by
  cases xs with
  | nil => cases h
  | cons x r =>
    obtain ⟨s1, e1, h⟩ := Rs.bind_inv h
    exact ⟨x, r, s1, rfl, e1, h⟩
theorem pgs_all : ∀ {es : List Expr} {gs : List (GF × List Nat)}, Paired (fun e (g : GF × List Nat) => PG X e (gD X.K g.1 g.2) ∧ ∀ es, (assignEach (e :: es) X.env).map (·.2) = assign e X.env :: (assignEach es X.env).map (·.2)) es gs → PGs X es (gDs X.K (gs.map (·.1)) (gs.flatMap (·.2)))
  | [], _, .nil => pgs_imp pgs_nil fun v σ H Q q => by
    obtain ⟨P0, G, s, y, s', m, t, e, k⟩ := q
    obtain ⟨rfl, rfl⟩ := gAll_nil e
    refine ⟨by simpa [TpL] using t, k σ m rfl fun i _ => rfl⟩
  | e :: es, _, @Paired.cons _ _ _ _ g _ gs h t => pgs_imp (pgs_cons h.1 (pgs_all t) (h.2 es)) fun v σ H Q q => by
    obtain ⟨P0, G, s, y, s', m, ty, ee, k⟩ := q
    obtain ⟨x, r, s1, rfl, e1, e2⟩ := gAll_cons ee
    simp only [TpL] at ty
    obtain ⟨w, ws, rfl, t1, t2⟩ := ty
    refine ⟨w, ws, rfl, P0, G, s, x, s1, m, t1, e1, fun σ1 m1 l1' k1 => ⟨P0, G, s1, r, s', m1, t2, e2, fun σ2 m2 l2' k2 => k σ2 m2 (l2'.trans l1') fun i hi => ?_⟩⟩
    simp only [List.flatMap_cons, List.mem_append, not_or] at hi
    rw [k2 i hi.2, k1 i hi.1]
theorem pg_unp {es : List Expr} {kk : Nat} {gs : List (GF × List Nat)} (hc : X.calm = true) (h : PGs X es (gDs X.K (gs.map (·.1)) (gs.flatMap (·.2)))) (hn : (assignEach es X.env).length = gs.length) (hst : (assignEach es X.env).findIdx? (·.1) = none) :
    PG X (.Tuple es kk pos) (gD X.K (gUnp (gs.map (·.1))) (gs.flatMap (·.2))) := by
  refine ⟨fun pins s σ H v u Q I r q => ?_⟩
  obtain ⟨P0, G, st, x, s', m, t, e, k⟩ := q
  cases x with
  | tuple xs =>
    have e' : (if xs.length = (gs.map (·.1)).length then gAll (gs.map (·.1)) xs st else .bad) = .ok s' := e
    split at e'
    · next hlen =>
      simp only [Tp] at t
      obtain ⟨a, vs, rfl, ha, tv⟩ := t
      refine (pg_tup (n := gs.length) hc h hn hst).run pins s σ H _ u Q I r ⟨a, vs, rfl, m.fro.sqt ha, by rw [tv.length, hlen]; simp, P0, G, st, xs, s', m, tv, e', k⟩
    · cases e'
  | list xs =>
    have e' : (if xs.length = (gs.map (·.1)).length then gAll (gs.map (·.1)) xs st else .bad) = .ok s' := e
    split at e'
    · next hlen =>
      simp only [Tp] at t
      obtain ⟨a, vs, rfl, ha, tv⟩ := t
      refine (pg_lst (n := gs.length) hc h hn hst).run pins s σ H _ u Q I r ⟨a, vs, rfl, .of (m.fro _ _ ha), by rw [tv.length, hlen]; simp, P0, G, st, xs, s', m, tv, e', k⟩
    · cases e'
  | _ => cases e
end
end Ek

/-! ## J: comprehensions -/
namespace Ek
open PySem L2 PySem.Spec PyProof.Rows
theorem wipeS_length (s : S) : ∀ vs : List Nat, (wipeS s vs).length = s.length
  | [] => rfl
  | v :: vs => by unfold wipeS; rw [List.length_set]; exact wipeS_length s vs
theorem wipeS_some {s : S} {i : Nat} {r : R} : ∀ {vs : List Nat}, (wipeS s vs)[i]? = some (some r) → s[i]? = some (some r) ∧ i ∉ vs
  | [], h => ⟨h, by simp⟩
  | v :: vs, h => by
    unfold wipeS at h
    rcases getElem?_set_some h with ⟨_, z⟩ | ⟨ne, z⟩
    · cases z
    · obtain ⟨h1, h2⟩ := wipeS_some z
      exact ⟨h1, by simp; exact ⟨fun z => ne z.symm, h2⟩⟩
theorem wipeS_out {s : S} {i : Nat} : ∀ {vs : List Nat}, i ∉ vs → (wipeS s vs)[i]? = s[i]?
  | [], _ => rfl
  | v :: vs, h => by
    simp at h
    unfold wipeS
    rw [List.getElem?_set_ne (fun z => h.1 z.symm)]
    exact wipeS_out h.2
theorem wipe_in {σ : L2.St} {i : Nat} : ∀ {vs : List Nat}, i ∈ vs → i < σ.length → (wipe σ vs)[i]? = some none
  | [], h, _ => by cases h
  | v :: vs, h, hl => by
    unfold wipe
    by_cases e : v = i
    · subst e
      rw [List.getElem?_set_self]
      rw [wipe_length]; exact hl
    · rw [List.getElem?_set_ne e]
      exact wipe_in (by simpa [Ne.symm e] using h) hl
theorem wipe_eq {σ2 σ : L2.St} {vs : List Nat} (hl : σ2.length = σ.length) (h : ∀ i, i ∉ vs → σ2[i]? = σ[i]?) : wipe σ2 vs = wipe σ vs := by
  apply List.ext_getElem?
  intro i
  by_cases hi : i ∈ vs
  · by_cases hl' : i < σ.length
    · rw [wipe_in hi hl', wipe_in hi (by omega)]
    · rw [List.getElem?_eq_none (by rw [wipe_length]; omega), List.getElem?_eq_none (by rw [wipe_length]; omega)]
  · rw [wipe_out hi, wipe_out hi, h i hi]
theorem wipe_sub {σ : L2.St} {v1 vs : List Nat} (h : ∀ i ∈ v1, i ∈ vs) : wipe (wipe σ v1) vs = wipe σ vs :=
  wipe_eq (wipe_length _ _) fun i hi => wipe_out fun z => hi (h i z)
section
variable {K : PySem.W.Frag} {P0 G G1 H H0 : Hp} {s s1 s2 : S} {σ : L2.St} {own : List Nat}
theorem Sim.wipe (h : Sim K P0 G s σ H) (own : List Nat) : Sim K P0 G (wipeS s own) (L2.wipe σ own) H := by
  refine ⟨by rw [wipeS_length, wipe_length]; exact h.len, h.prot, h.fro, fun i x e => ?_, fun i x e => ?_, fun i x e => ?_, fun i j xs ys a e e' f f' => ?_⟩
  · obtain ⟨e1, e2⟩ := wipeS_some e
    rw [wipe_out e2]; exact h.dat i x e1
  · obtain ⟨e1, e2⟩ := wipeS_some e
    rw [wipe_out e2]; exact h.own i x e1
  · obtain ⟨e1, e2⟩ := wipeS_some e
    rw [wipe_out e2]; exact h.scr i x e1
  · obtain ⟨e1, e2⟩ := wipeS_some e
    obtain ⟨e3, e4⟩ := wipeS_some e'
    rw [wipe_out e2] at f
    rw [wipe_out e4] at f'
    exact h.sep i j xs ys a e1 e3 f f'
/-- an object that is none of ours changes -/
theorem Sim.other (h : Sim K P0 G s σ H) {p : Addr} {o : HO} (hp : P0 p = none) (hg : G p = none) (n : ∀ (i : Nat) ys, s[i]? = some (some (.own ys)) → σ[i]? ≠ some (some (.ref p))) : Sim K P0 G s σ (upd H p o) where
  len := h.len
  prot := h.prot.over hp
  fro := h.fro.over hg
  dat := h.dat
  own := fun i xs e => by
    obtain ⟨a, vs, e1, g, q, hh, t⟩ := h.own i xs e
    refine ⟨a, vs, e1, g, q, ?_, t⟩
    rw [upd_ne]
    · exact hh
    · rintro rfl; exact n i xs e e1
  scr := h.scr
  sep := h.sep
theorem backS_get {i : Nat} {r : R} : ∀ {vs : List Nat}, (backS s1 s2 vs)[i]? = some (some r) → (i ∉ vs ∧ s2[i]? = some (some r)) ∨ (i ∈ vs ∧ s1[i]? = some (some r) ∧ ∀ xs, r ≠ .own xs)
  | [], h => .inl ⟨by simp, h⟩
  | v :: vs, h => by
    unfold backS at h
    rcases getElem?_set_some h with ⟨z1, z⟩ | ⟨ne, z⟩
    · subst z1
      refine .inr ⟨List.mem_cons_self, ?_⟩
      cases hs : s1[v]? with
      | none => simp [hs] at z
      | some w =>
        cases w with
        | none => simp [hs] at z
        | some r' =>
          cases r' with
          | d x => simp [hs] at z; subst z; exact ⟨rfl, fun xs q => nomatch q⟩
          | own x => simp [hs] at z
          | scr x => simp [hs] at z; subst z; exact ⟨rfl, fun xs q => nomatch q⟩
    · rcases backS_get z with ⟨h1, h2⟩ | ⟨h1, h2⟩
      · exact .inl ⟨by simp; exact ⟨fun z => ne z.symm, h1⟩, h2⟩
      · exact .inr ⟨List.mem_cons_of_mem _ h1, h2⟩
theorem backS_length : ∀ vs : List Nat, (backS s1 s2 vs).length = s2.length
  | [] => rfl
  | v :: vs => by unfold backS; rw [List.length_set]; exact backS_length vs
theorem Sim.back (h : Sim K P0 G (wipeS s2 own) (L2.wipe σ own) H) (m1 : Sim K P0 G1 s1 σ H0) (z : Sub G1 G) : Sim K P0 G (backS s1 s2 own) σ H := by
  have out : ∀ (i : Nat) r, i ∉ own → s2[i]? = some (some r) → (wipeS s2 own)[i]? = some (some r) := fun i r h1 h2 => by rw [wipeS_out h1]; exact h2
  refine ⟨by have := h.len; rw [wipeS_length, wipe_length] at this; rw [backS_length]; exact this, h.prot, h.fro, fun i x e => ?_, fun i x e => ?_, fun i x e => ?_, fun i j xs ys a e e' f f' => ?_⟩
  · rcases backS_get e with ⟨h1, h2⟩ | ⟨h1, h2, _⟩
    · have := h.dat i x (out i _ h1 h2)
      rwa [wipe_out h1] at this
    · obtain ⟨v, e1, t⟩ := m1.dat i x h2
      exact ⟨v, e1, Tp.mono z _ _ t⟩
  · rcases backS_get e with ⟨h1, h2⟩ | ⟨h1, h2, h3⟩
    · have := h.own i x (out i _ h1 h2)
      rwa [wipe_out h1] at this
    · exact absurd rfl (h3 x)
  · rcases backS_get e with ⟨h1, h2⟩ | ⟨h1, h2, _⟩
    · have := h.scr i x (out i _ h1 h2)
      rwa [wipe_out h1] at this
    · obtain ⟨v, e1, t⟩ := m1.scr i x h2
      exact ⟨v, e1, z.sql t⟩
  · rcases backS_get e with ⟨h1, h2⟩ | ⟨h1, h2, h3⟩
    · rcases backS_get e' with ⟨h1', h2'⟩ | ⟨h1', h2', h3'⟩
      · exact h.sep i j xs ys a (out i _ h1 h2) (out j _ h1' h2') (by rw [wipe_out h1]; exact f) (by rw [wipe_out h1']; exact f')
      · exact absurd rfl (h3' ys)
    · exact absurd rfl (h3 xs)
/-- D is no slot's list -/
def NoD (s : S) (σ : L2.St) (p : Addr) : Prop := ∀ (i : Nat) ys, s[i]? = some (some (.own ys)) → σ[i]? ≠ some (some (.ref p))
theorem NoD.wipe {p : Addr} (h : NoD s σ p) (own : List Nat) : NoD (wipeS s own) (L2.wipe σ own) p := fun i ys e => by
  obtain ⟨e1, e2⟩ := wipeS_some e
  rw [wipe_out e2]
  exact h i ys e1
theorem lc_loop {tg : GF} {ts : List Nat} {t : TF} {elt : XF} {items acc ys : List D} {sc : S} {J : It} {p : Addr} {vacc : List V} {E : Hp → Prop} (hw : Walks K G1 J items) (hts : ∀ i ∈ ts, i ∈ own) (hp : P0 p = none)
    (e : lcL tg t elt own items acc sc = .ok (ys, s2)) (m0 : Sim K P0 G1 (wipeS sc own) (L2.wipe σ own) H0) (hd : H0 p = some (.lst vacc)) (ht : TpL K G1 acc vacc) (hg : G1 p = none) (hn : NoD (wipeS sc own) (L2.wipe σ own) p)
    (fin : ∀ G' H vacc', Ext P0 G1 G' → Sim K P0 G' (wipeS s2 own) (L2.wipe σ own) H → H p = some (.lst vacc') → TpL K G' ys vacc' → G' p = none → NoD (wipeS s2 own) (L2.wipe σ own) p → E H) :
    ∃ W : Nat → Nat → Hp → Prop, (∃ m, W 0 m H0) ∧ ∀ i m H, W i m H → (J.stop i H ∧ E H) ∨ (J.go i H ∧ ∃ Nx : Hp → Prop, (∀ H', Nx H' → ∃ m', m' < m ∧ W (i + 1) m' H') ∧ ∀ x H', J.yld i H x H' →
      gD K tg ts x (L2.wipe σ own) H' fun σ2 H2 => L2.wipe σ2 own = L2.wipe σ own ∧ tTF K t σ2 H2 fun b H3 =>
        if b = true then tZF K elt σ2 H3 fun y H4 => ∃ acc, H4 p = some (.lst acc) ∧ acc.length < sizeLine ∧ Nx (upd H4 p (.lst (acc ++ [y]))) else Nx H3) := by
  refine ⟨fun i m H => i + m = items.length ∧ ∃ G' acc sc vacc, Ext P0 G1 G' ∧ Sim K P0 G' (wipeS sc own) (L2.wipe σ own) H ∧ lcL tg t elt own (items.drop i) acc sc = .ok (ys, s2) ∧ H p = some (.lst vacc) ∧ TpL K G' acc vacc ∧ G' p = none ∧ NoD (wipeS sc own) (L2.wipe σ own) p,
    ⟨items.length, by omega, G1, acc, sc, vacc, .refl, m0, e, hd, ht, hg, hn⟩, fun i m H hW => ?_⟩
  obtain ⟨hm, G', acc, sc, vacc, x1, m1, e1, hd, ht, hg, hn⟩ := hW
  by_cases hi : i < items.length
  · have hit : items[i]? = some items[i] := List.getElem?_eq_getElem hi
    have hdr : items.drop i = items[i] :: items.drop (i + 1) := List.drop_eq_getElem_cons hi
    rw [hdr] at e1
    generalize items[i] = d at hit e1
    obtain ⟨s3, e2, e1⟩ := Rs.bind_inv e1
    obtain ⟨q, e3, e1⟩ := Rs.bind_inv e1
    obtain ⟨g1, g2⟩ := (hw i G' H x1.1 m1.fro).1 d hit
    refine .inr ⟨g1, fun H' => i + 1 + (m - 1) = items.length ∧ ∃ G' acc sc vacc, Ext P0 G1 G' ∧ Sim K P0 G' (wipeS sc own) (L2.wipe σ own) H' ∧ lcL tg t elt own (items.drop (i + 1)) acc sc = .ok (ys, s2) ∧ H' p = some (.lst vacc) ∧ TpL K G' acc vacc ∧ G' p = none ∧ NoD (wipeS sc own) (L2.wipe σ own) p,
      fun H' h' => ⟨m - 1, by omega, h'⟩, fun x H' hy => ?_⟩
    have : ∃ G2, Ext P0 G' G2 ∧ Sim K P0 G2 (wipeS sc own) (L2.wipe σ own) H' ∧ Tp K G2 d x ∧ H' p = some (.lst vacc) ∧ G2 p = none := by
      rcases g2 x H' hy with ⟨rfl, tx⟩ | ⟨T, o, hT, rfl, tx⟩
      · exact ⟨G', .refl, m1, tx, hd, hg⟩
      · have ne := ne_of_none hd hT
        exact ⟨_, m1.ext_data hT, m1.data hT, tx, by rw [upd_ne ne]; exact hd, by rw [upd_ne ne]; exact hg⟩
    obtain ⟨G2, x2, m2, tx, hd2, hg2⟩ := this
    have m3 := m2.protect hp hd2 hn
    refine ⟨upd P0 p (.lst vacc), G2, wipeS sc own, d, s3, m3, tx, e2, fun σ2 m4 l4 k4 => ⟨?_, ?_⟩⟩
    · have h1 : L2.wipe σ2 own = L2.wipe (L2.wipe σ own) own := wipe_eq l4 fun j hj => k4 j fun z => hj (hts j z)
      rw [h1]
      exact wipe_sub fun _ h => h
    · have weq : L2.wipe σ2 own = L2.wipe σ own := by
        have h1 : L2.wipe σ2 own = L2.wipe (L2.wipe σ own) own := wipe_eq l4 fun j hj => k4 j fun z => hj (hts j z)
        rw [h1]
        exact wipe_sub fun _ h => h
      refine ⟨_, G2, s3, q.1, q.2, m4, e3, fun H3 G3 x3 m5 => ?_⟩
      cases hb : q.1 with
      | true =>
        rw [hb, if_pos rfl] at e1
        rw [if_pos rfl]
        obtain ⟨w, e4, e1⟩ := Rs.bind_inv e1
        split at e1
        case isFalse => cases e1
        next hsz =>
        refine ⟨_, G3, q.2, w.1, w.2, m5, e4, fun y H4 G4 x4 m6 ty => ?_⟩
        obtain ⟨m7, hd7, hn7⟩ := m6.unprotect hp
        obtain ⟨x3', g3'⟩ := x3.unprotect hp
        obtain ⟨x4', g4'⟩ := x4.unprotect hp
        have hg4 : G4 p = none := g4' (g3' hg2)
        have hn8 : NoD (wipeS w.2 own) (L2.wipe σ own) p := by
          rw [← weq]; exact NoD.wipe hn7 own
        refine ⟨vacc, hd7, by rw [ht.length]; exact size_lt hsz, by omega, G4, acc ++ [w.1], w.2, vacc ++ [y], ((x1.trans x2).trans x3').trans x4', ?_, e1, upd_same, ?_, hg4, hn8⟩
        · have := m7.wipe own
          rw [weq] at this
          exact this.other hp hg4 hn8
        · exact (TpL.mono (x2.1.trans (x3'.1.trans x4'.1)) _ _ ht).append (.cons ty .nil)
      | false =>
        rw [hb, if_neg (by decide)] at e1
        rw [if_neg (by decide)]
        obtain ⟨m7, hd7, hn7⟩ := m5.unprotect hp
        obtain ⟨x3', g3'⟩ := x3.unprotect hp
        have hn8 : NoD (wipeS q.2 own) (L2.wipe σ own) p := by
          rw [← weq]; exact NoD.wipe hn7 own
        refine ⟨by omega, G3, acc, q.2, vacc, (x1.trans x2).trans x3', ?_, e1, hd7, TpL.mono (x2.1.trans x3'.1) _ _ ht, g3' hg2, hn8⟩
        have := m7.wipe own
        rw [weq] at this
        exact this
  · have hdr : items.drop i = [] := List.drop_eq_nil_of_le (by omega)
    rw [hdr] at e1
    have e1' : acc = ys ∧ sc = s2 := by
      have := Rs.ok.inj e1
      exact ⟨congrArg Prod.fst this, congrArg Prod.snd this⟩
    obtain ⟨rfl, rfl⟩ := e1'
    exact .inl ⟨(hw i G' H x1.1 m1.fro).2 (by omega), fin G' H vacc x1 m1 hd ht hg hn⟩
end
/-- what a comprehension's parts need in the block -/
abbrev InBlk (X : Cx) (scope : Scope) (Pr : Cx → Prop) : Prop := ∀ (s : Shared) (H : Hp) (C : Addr) (cl : List (Str × Addr)) (fp : List Addr), Pr (X.blk s H scope (compEnvC scope cl C X.env) fp)
section
variable {X : Cx} {elt tg iter tg1 iter1 : Expr} {ifs ifs1 : List Expr} {scope : Scope} {own : List (Str × Nat)} {ts ts1 own1 : List Nat} {pos spos py : Pos} {fit fit1 : AF} {g g1 : GF} {t t1 : TF} {f : XF}
theorem cLc_inv {vs : List Nat} {s : S} {r : R × S} (h : cLc fit vs g t f s = .ok r) : ∃ items s1 ys s2, fit s = .ok (items, s1) ∧ lcL g t f vs items [] s1 = .ok (ys, s2) ∧ r = (.own ys, backS s1 s2 vs) := by
  obtain ⟨p, e1, h⟩ := Rs.bind_inv h
  obtain ⟨q, e2, h⟩ := Rs.bind_inv h
  cases h
  exact ⟨p.1, p.2, q.1, q.2, e1, e2, rfl⟩
theorem lc_read {K : PySem.W.Frag} {σ : L2.St} {H : Hp} {Q : VK} {vs : List Nat} (hts : ∀ i ∈ ts, i ∈ vs) (h : tXF K (cLc fit vs g t f) σ H Q) : tLc (iAF K fit) (gD K g ts) (tTF K t) (tZF K f) vs σ H Q := by
  obtain ⟨P0, G, s, r, s', m, e, k⟩ := h
  obtain ⟨items, s1, ys, s2, e1, e2, e3⟩ := cLc_inv e
  cases e3
  refine ⟨P0, G, s, items, s1, m, e1, fun J H1 G1 x1 m1 w => fun p hp => ?_⟩
  have p0 := m1.prot.none hp
  have g0 := m1.fro.none hp
  have n0 : NoD s1 σ p := fun i ys e z => by
    obtain ⟨a, ws, e1, _, _, hh, _⟩ := m1.own i ys e
    rw [z] at e1; cases e1
    rw [hp] at hh; cases hh
  exact lc_loop w hts p0 e2 ((m1.alloc hp).wipe vs) upd_same .nil g0 (n0.wipe vs) fun G' H' vacc x2 m2 hd ht hg hn =>
    k _ H' G' (x1.trans x2) (m2.back m1 x2.1) ⟨p, vacc, rfl, hg, p0, hd, ht, fun i zs hi hz => by
      rcases backS_get hi with ⟨h1, h2⟩ | ⟨_, _, h3⟩
      · exact hn i zs (by rw [wipeS_out h1]; exact h2) (by rw [wipe_out h1]; exact hz)
      · exact h3 zs rfl⟩
theorem px_lc (hc : X.calm = true) (hN : X.N.Nodup) (hi : PI X tg iter (iAF X.K fit)) (ok : BlkOk X.N X.env.scope scope own) (hts : ∀ i ∈ ts, i ∈ own.map (·.2)) (hg : InBlk X scope fun Y => PG Y tg (gD X.K g ts)) (ht : InBlk X scope fun Y => PTs Y ifs (tTF X.K t))
    (he : InBlk X scope fun Y => PE Y elt (tXF X.K f)) (hs : ∀ x, foldedSetIterable iter X.env x = pure x) : PE X (.ListComp elt [⟨tg, iter, ifs, 0⟩] scope pos) (tXF X.K (cLc fit (own.map (·.2)) g t f)) :=
  pe_imp (pe_lc hc hN hi ok hg ht (fun s H C cl fp => pz_of (he s H C cl fp)) hs) fun σ H Q q => lc_read hts q
theorem cLc2_inv {vs : List Nat} {s : S} {r : R × S} (h : cLc2 fit vs g t fit1 own1 g1 t1 f s = .ok r) : ∃ items s1 ys s2, fit s = .ok (items, s1) ∧ lc2L g t fit1 own1 g1 t1 f vs items [] s1 = .ok (ys, s2) ∧ r = (.own ys, backS s1 s2 vs) := by
  obtain ⟨p, e1, h⟩ := Rs.bind_inv h
  obtain ⟨q, e2, h⟩ := Rs.bind_inv h
  cases h
  exact ⟨p.1, p.2, q.1, q.2, e1, e2, rfl⟩
theorem lc2_read {K : PySem.W.Frag} {σ : L2.St} {H : Hp} {Q : VK} {vs : List Nat} (hts : ∀ i ∈ ts, i ∈ vs) (hts1 : ∀ i ∈ ts1, i ∈ own1) (ho : ∀ i ∈ own1, i ∈ vs) (h : tXF K (cLc2 fit vs g t fit1 own1 g1 t1 f) σ H Q) :
    tLc2 (iAF K fit) (gD K g ts) (tTF K t) (iAF K fit1) (gD K g1 ts1) (tTF K t1) (tZF K f) vs own1 σ H Q := by
  obtain ⟨P0, G, s, r, s', m, e, k⟩ := h
  obtain ⟨items, s1, ys, s2, e1, e2, e3⟩ := cLc2_inv e
  cases e3
  refine ⟨P0, G, s, items, s1, m, e1, fun J H1 G1 x1 m1 w => fun p hp => ?_⟩
  have p0 := m1.prot.none hp
  have g0 := m1.fro.none hp
  have n0 : NoD s1 σ p := fun i ys e z => by
    obtain ⟨a, ws, e1, _, _, hh, _⟩ := m1.own i ys e
    rw [z] at e1; cases e1
    rw [hp] at hh; cases hh
  refine ⟨fun i m H => i + m = items.length ∧ ∃ G' acc sc vacc, Ext P0 G1 G' ∧ Sim K P0 G' (wipeS sc vs) (L2.wipe σ vs) H ∧ lc2L g t fit1 own1 g1 t1 f vs (items.drop i) acc sc = .ok (ys, s2) ∧ H p = some (.lst vacc) ∧ TpL K G' acc vacc ∧ G' p = none ∧ NoD (wipeS sc vs) (L2.wipe σ vs) p,
    ⟨items.length, by omega, G1, [], s1, [], .refl, (m1.alloc hp).wipe vs, e2, upd_same, .nil, g0, n0.wipe vs⟩, fun i mm H hW => ?_⟩
  obtain ⟨hm, G', acc, sc, vacc, x2, m2, e1, hd, ht, hg, hn⟩ := hW
  by_cases hi : i < items.length
  · have hit : items[i]? = some items[i] := List.getElem?_eq_getElem hi
    have hdr : items.drop i = items[i] :: items.drop (i + 1) := List.drop_eq_getElem_cons hi
    rw [hdr] at e1
    generalize items[i] = d at hit e1
    obtain ⟨s3, e2, e1⟩ := Rs.bind_inv e1
    obtain ⟨q, e3, e1⟩ := Rs.bind_inv e1
    obtain ⟨y1, y2⟩ := (w i G' H x2.1 m2.fro).1 d hit
    refine .inr ⟨y1, fun H' => i + 1 + (mm - 1) = items.length ∧ ∃ G' acc sc vacc, Ext P0 G1 G' ∧ Sim K P0 G' (wipeS sc vs) (L2.wipe σ vs) H' ∧ lc2L g t fit1 own1 g1 t1 f vs (items.drop (i + 1)) acc sc = .ok (ys, s2) ∧ H' p = some (.lst vacc) ∧ TpL K G' acc vacc ∧ G' p = none ∧ NoD (wipeS sc vs) (L2.wipe σ vs) p,
      fun H' h' => ⟨mm - 1, by omega, h'⟩, fun x H' hy => ?_⟩
    have : ∃ G2, Ext P0 G' G2 ∧ Sim K P0 G2 (wipeS sc vs) (L2.wipe σ vs) H' ∧ Tp K G2 d x ∧ H' p = some (.lst vacc) ∧ G2 p = none := by
      rcases y2 x H' hy with ⟨rfl, tx⟩ | ⟨T, o, hT, rfl, tx⟩
      · exact ⟨G', .refl, m2, tx, hd, hg⟩
      · have ne := ne_of_none hd hT
        exact ⟨_, m2.ext_data hT, m2.data hT, tx, by rw [upd_ne ne]; exact hd, by rw [upd_ne ne]; exact hg⟩
    obtain ⟨G2, x3, m3, tx, hd2, hg2⟩ := this
    have m4 := m3.protect p0 hd2 hn
    refine ⟨upd P0 p (.lst vacc), G2, wipeS sc vs, d, s3, m4, tx, e2, fun σ2 m5 l5 k5 => ?_⟩
    have weq : L2.wipe σ2 vs = L2.wipe σ vs := by
      have h1 : L2.wipe σ2 vs = L2.wipe (L2.wipe σ vs) vs := wipe_eq l5 fun j hj => k5 j fun z => hj (hts j z)
      rw [h1]
      exact wipe_sub fun _ h => h
    refine ⟨weq, _, G2, s3, q.1, q.2, m5, e3, fun H3 G3 x4 m6 => ?_⟩
    cases hb : q.1 with
    | true =>
      rw [hb, if_pos rfl] at e1
      rw [if_pos rfl]
      obtain ⟨it1, e4, e1⟩ := Rs.bind_inv e1
      obtain ⟨v, e5, e1⟩ := Rs.bind_inv e1
      refine ⟨_, G3, q.2, it1.1, it1.2, m6, e4, fun J1 H4 G4 x5 m7 w1 => ?_⟩
      obtain ⟨m8, hd8, hn8⟩ := m7.unprotect p0
      obtain ⟨x4', g4'⟩ := x4.unprotect p0
      obtain ⟨x5', g5'⟩ := x5.unprotect p0
      refine lc_loop w1 hts1 p0 e5 (m8.wipe own1) hd8 (TpL.mono (x3.1.trans (x4'.1.trans x5'.1)) _ _ ht) (g5' (g4' hg2)) (NoD.wipe hn8 own1) fun G5 H5 vacc5 x6 m9 hd9 ht9 hg9 hn9 => ?_
      have weq2 : L2.wipe (L2.wipe σ2 own1) vs = L2.wipe σ vs := by rw [wipe_sub ho]; exact weq
      have wsub : ∀ (i : Nat) r, (wipeS v.2 vs)[i]? = some (some r) → (wipeS (wipeS v.2 own1) vs)[i]? = some (some r) := fun i r e => by
        obtain ⟨z1, z2⟩ := wipeS_some e
        rw [wipeS_out z2, wipeS_out fun z => z2 (ho i z)]
        exact z1
      refine ⟨by omega, G5, v.1, v.2, vacc5, (((x2.trans x3).trans x4').trans x5').trans x6, ?_, e1, hd9, ht9, hg9, ?_⟩
      · have := m9.wipe vs
        rw [weq2] at this
        exact this.less (by rw [wipeS_length, wipeS_length, wipeS_length]; exact Nat.le_refl _) wsub
      · have := NoD.wipe hn9 vs
        rw [weq2] at this
        exact fun i ys e => this i ys (wsub i _ e)
    | false =>
      rw [hb, if_neg (by decide)] at e1
      rw [if_neg (by decide)]
      obtain ⟨m7, hd7, hn7⟩ := m6.unprotect p0
      obtain ⟨x4', g4'⟩ := x4.unprotect p0
      have hn8 : NoD (wipeS q.2 vs) (L2.wipe σ vs) p := by
        rw [← weq]; exact NoD.wipe hn7 vs
      refine ⟨by omega, G3, acc, q.2, vacc, (x2.trans x3).trans x4', ?_, e1, hd7, TpL.mono (x3.1.trans x4'.1) _ _ ht, g4' hg2, hn8⟩
      have := m7.wipe vs
      rw [weq] at this
      exact this
  · have hdr : items.drop i = [] := List.drop_eq_nil_of_le (by omega)
    rw [hdr] at e1
    have e1' : acc = ys ∧ sc = s2 := by
      have := Rs.ok.inj e1
      exact ⟨congrArg Prod.fst this, congrArg Prod.snd this⟩
    obtain ⟨rfl, rfl⟩ := e1'
    refine .inl ⟨(w i G' H x2.1 m2.fro).2 (by omega), ?_⟩
    refine k _ H G' (x1.trans x2) (m2.back m1 x2.1) ⟨p, vacc, rfl, hg, p0, hd, ht, fun i zs hi hz => ?_⟩
    rcases backS_get hi with ⟨h1, h2⟩ | ⟨_, _, h3⟩
    · exact hn i zs (by rw [wipeS_out h1]; exact h2) (by rw [wipe_out h1]; exact hz)
    · exact h3 zs rfl
theorem px_lc2 (hc : X.calm = true) (hN : X.N.Nodup) (hi : PI X tg iter (iAF X.K fit)) (ok : BlkOk X.N X.env.scope scope own) (hts : ∀ i ∈ ts, i ∈ own.map (·.2)) (hts1 : ∀ i ∈ ts1, i ∈ own1) (ho : ∀ i ∈ own1, i ∈ own.map (·.2))
    (hg : InBlk X scope fun Y => PG Y tg (gD X.K g ts)) (ht : InBlk X scope fun Y => PTs Y ifs (tTF X.K t))
    (hi1 : InBlk X scope fun Y => PI Y tg1 iter1 (iAF X.K fit1)) (hg1 : InBlk X scope fun Y => PG Y tg1 (gD X.K g1 ts1)) (ht1 : InBlk X scope fun Y => PTs Y ifs1 (tTF X.K t1))
    (he : InBlk X scope fun Y => PE Y elt (tXF X.K f)) (hs : ∀ x, foldedSetIterable iter X.env x = pure x) (hs1 : ∀ env x, foldedSetIterable iter1 env x = pure x) :
    PE X (.ListComp elt [⟨tg, iter, ifs, 0⟩, ⟨tg1, iter1, ifs1, 0⟩] scope pos) (tXF X.K (cLc2 fit (own.map (·.2)) g t fit1 own1 g1 t1 f)) :=
  pe_imp (pe_lc2 hc hN hi ok ho hg ht hi1 hg1 ht1 (fun s H C cl fp => pz_of (he s H C cl fp)) hs hs1) fun σ H Q q => lc2_read hts hts1 ho q
end
end Ek

/-! ## K: statements -/
namespace Ek
open PySem L2 PySem.Spec PyProof.Rows
/-- the slots of lists that a caller knows -/
def Pin (pn : List (Nat × Addr)) (σ : L2.St) : Prop := ∀ p ∈ pn, σ[p.1]? = some (some (.ref p.2))
/-- what is wanted behind a statement -/
def PostS (K : PySem.W.Frag) (pn : List (Nat × Addr)) (P0 G : Hp) (s : S) (n : Nat) (D : Ends) : Fl → Prop
  | .nx => ∀ σ' H' G', Ext P0 G G' → Sim K P0 G' s σ' H' → Pin pn σ' → σ'.length = n → D.nx σ' H'
  | .bk => ∀ σ' H' G', Ext P0 G G' → Sim K P0 G' s σ' H' → Pin pn σ' → σ'.length = n → D.bk σ' H'
  | .ct => ∀ σ' H' G', Ext P0 G G' → Sim K P0 G' s σ' H' → Pin pn σ' → σ'.length = n → D.ct σ' H'
  | .rt r => ∀ v σ' H' G', Ext P0 G G' → Sim K P0 G' s σ' H' → Pin pn σ' → RR K P0 G' s σ' H' r v → D.rt v H'
  | .rw rs => ∀ v σ' H' G', Ext P0 G G' → Sim K P0 G' s σ' H' → Pin pn σ' → RW K P0 G' s σ' H' rs v → D.rt v H'
def tSF (K : PySem.W.Frag) (pn : List (Nat × Addr)) (f : SF) : TS := fun D σ H => ∃ P0 G s fl s', Sim K P0 G s σ H ∧ Pin pn σ ∧ f s = .ok (fl, s') ∧ PostS K pn P0 G s' σ.length D fl
theorem ps_imp {X : Cx} {st : Stmt} {t t' : TS} (h : PS X st t) (i : ∀ D σ H, t' D σ H → t D σ H) : PS X st t' := ⟨fun pins s σ H D I q => h.run pins s σ H D I (i D σ H q)⟩
theorem pss_imp {X : Cx} {st : List Stmt} {t t' : TS} (h : PSs X st t) (i : ∀ D σ H, t' D σ H → t D σ H) : PSs X st t' := ⟨fun pins s σ H D I q => h.run pins s σ H D I (i D σ H q)⟩
theorem Pin.set {pn : List (Nat × Addr)} {σ : L2.St} {i : Nat} {v : Option V} (h : Pin pn σ) (n : ∀ p ∈ pn, p.1 ≠ i) : Pin pn (σ.set i v) := fun p hp => by
  rw [List.getElem?_set_ne (fun z => n p hp z.symm)]
  exact h p hp
theorem PostS.ext {K : PySem.W.Frag} {pn : List (Nat × Addr)} {P0 G G1 : Hp} {s : S} {n : Nat} {D : Ends} {fl : Fl} (x : Ext P0 G G1) (h : PostS K pn P0 G s n D fl) : PostS K pn P0 G1 s n D fl := by
  cases fl with
  | nx => exact fun σ' H' G' x' => h σ' H' G' (x.trans x')
  | bk => exact fun σ' H' G' x' => h σ' H' G' (x.trans x')
  | ct => exact fun σ' H' G' x' => h σ' H' G' (x.trans x')
  | rt r => exact fun v σ' H' G' x' => h v σ' H' G' (x.trans x')
  | rw r => exact fun v σ' H' G' x' => h v σ' H' G' (x.trans x')
section
variable {X : Cx} {pn : List (Nat × Addr)} {st : Stmt} {sts : List Stmt} {e a b tg : Expr} {f f' : XF} {t : TF} {sf sf' : SF} {pos p : Pos}
theorem pss_nilF : PSs X [] (tSF X.K pn sSkip) := pss_imp pss_nil fun D σ H q => by
  obtain ⟨P0, G, s, fl, s', m, hp, e, k⟩ := q
  cases e
  exact k σ H G .refl m hp rfl
theorem sSeq_inv {s : S} {r : Fl × S} (h : sSeq sf sf' s = .ok r) : ∃ q, sf s = .ok q ∧ ((q.1 = .nx ∧ sf' q.2 = .ok r) ∨ (q.1 ≠ .nx ∧ r = q)) := by
  obtain ⟨q, e1, h⟩ := Rs.bind_inv h
  obtain ⟨fl, s1⟩ := q
  refine ⟨_, e1, ?_⟩
  cases fl with
  | nx => exact .inl ⟨rfl, h⟩
  | bk => cases h; exact .inr ⟨(fun z => nomatch z), rfl⟩
  | ct => cases h; exact .inr ⟨(fun z => nomatch z), rfl⟩
  | rt r => cases h; exact .inr ⟨(fun z => nomatch z), rfl⟩
  | rw r => cases h; exact .inr ⟨(fun z => nomatch z), rfl⟩
theorem PostS.weak {K : PySem.W.Frag} {P0 G : Hp} {s : S} {n : Nat} {D : Ends} {fl : Fl} {nx : L2.St → Hp → Prop} (ne : fl ≠ .nx) (h : PostS K pn P0 G s n D fl) : PostS K pn P0 G s n { D with nx := nx } fl := by
  cases fl with
  | nx => exact absurd rfl ne
  | bk => exact h
  | ct => exact h
  | rt r => exact h
  | rw r => exact h
theorem pss_consF (h1 : PS X st (tSF X.K pn sf)) (h2 : PSs X sts (tSF X.K pn sf')) : PSs X (st :: sts) (tSF X.K pn (sSeq sf sf')) := pss_imp (pss_cons h1 h2) fun D σ H q => by
  obtain ⟨P0, G, s, fl, s', m, hp, e, k⟩ := q
  obtain ⟨⟨fl1, s1⟩, e1, e2⟩ := sSeq_inv e
  refine ⟨P0, G, s, fl1, s1, m, hp, e1, ?_⟩
  rcases e2 with ⟨rfl, e2⟩ | ⟨ne, e2⟩
  · exact fun σ1 H1 G1 x1 m1 p1 l1 => ⟨P0, G1, s1, fl, s', m1, p1, e2, by rw [l1]; exact k.ext x1⟩
  · cases e2
    exact k.weak ne
theorem ps_passF : PS X (.Pass pos) (tSF X.K pn sSkip) := ps_imp ps_pass fun D σ H q => by
  obtain ⟨P0, G, s, fl, s', m, hp, e, k⟩ := q
  cases e
  exact k σ H G .refl m hp rfl
theorem ps_brkF : PS X (.Break pos) (tSF X.K pn sBrk) := ps_imp ps_break fun D σ H q => by
  obtain ⟨P0, G, s, fl, s', m, hp, e, k⟩ := q
  cases e
  exact k σ H G .refl m hp rfl
theorem ps_cntF : PS X (.Continue pos) (tSF X.K pn sCnt) := ps_imp ps_continue fun D σ H q => by
  obtain ⟨P0, G, s, fl, s', m, hp, e, k⟩ := q
  cases e
  exact k σ H G .refl m hp rfl
theorem ps_retF (h : PE X e (tXF X.K f)) : PS X (.Return (some e) pos) (tSF X.K pn (sRet f)) := ps_imp (ps_ret h) fun D σ H q => by
  obtain ⟨P0, G, s, fl, s', m, hp, e, k⟩ := q
  obtain ⟨r, e1, e⟩ := Rs.bind_inv e
  cases e
  exact ⟨P0, G, s, r.1, r.2, m, e1, fun v H1 G1 x1 m1 r1 => k v σ H1 G1 x1 m1 hp r1⟩
theorem ps_ret0F : PS X (.Return none pos) (tSF X.K pn sRet0) := ps_imp ps_retN fun D σ H q => by
  obtain ⟨P0, G, s, fl, s', m, hp, e, k⟩ := q
  cases e
  exact k .non σ H G .refl m hp (tp_none (K := X.K) (G := G))
theorem ps_retNF {i : Nat} {x : Str} (hN : X.N[i]? = some x) (hv : Vis X.env.scope x) (hd : (x == ("__debug__" : Str)) = false) (hcd : (x == ("__classdict__" : Str)) = false) : PS X (.Return (some (.Name x p)) pos) (tSF X.K pn (sRetN i)) := ps_imp (ps_ret (pe_var hN hv hd hcd)) fun D σ H q => by
  obtain ⟨P0, G, s, fl, s', m, hp, e, k⟩ := q
  unfold sRetN at e
  split at e
  · next r hs =>
    cases r with
    | d x =>
      cases e
      obtain ⟨v, ev, tv⟩ := m.dat i x hs
      exact ⟨v, ev, k v σ H G .refl m hp tv⟩
    | scr ns =>
      cases e
      obtain ⟨v, ev, tv⟩ := m.scr i ns hs
      exact ⟨_, ev, k _ σ H G .refl m hp ⟨v, rfl, tv⟩⟩
    | own xs =>
      cases e
      obtain ⟨l, vs, ev, hg, hq, hh, tv⟩ := m.own i xs hs
      have get : ∀ (j : Nat) r, (s.set i none)[j]? = some (some r) → j ≠ i ∧ s[j]? = some (some r) := fun j r ej => by
        rcases getElem?_set_some ej with ⟨_, z⟩ | ⟨ne, z⟩
        · cases z
        · exact ⟨fun z => ne z.symm, z⟩
      have m' : Sim X.K P0 G (s.set i none) σ H := m.less (by simp) fun j r ej => (get j r ej).2
      refine ⟨.ref l, ev, k (.ref l) σ H G .refl m' hp ⟨l, vs, rfl, hg, hq, hh, tv, fun j ys ej hj => ?_⟩⟩
      obtain ⟨z1, z2⟩ := get j _ ej
      exact z1 (m.sep j i ys xs l z2 hs hj ev)
  · cases e
theorem ps_exprF (h : PE X e (tXF X.K f)) (hs : swapsWith e none pos.line X.env = pure false) : PS X (.Expr e pos) (tSF X.K pn (sDrop f)) := ps_imp (ps_expr h hs) fun D σ H q => by
  obtain ⟨P0, G, s, fl, s', m, hp, e, k⟩ := q
  obtain ⟨r, e1, e⟩ := Rs.bind_inv e
  cases e
  exact ⟨P0, G, s, r.1, r.2, m, e1, fun v H1 G1 x1 m1 r1 => k σ H1 G1 x1 m1 hp rfl⟩
theorem ps_ifF {sts sts' : List Stmt} {c : Expr} (hc : PT X c (tTF X.K t)) (ha : PSs X sts (tSF X.K pn sf)) (hb : PSs X sts' (tSF X.K pn sf')) : PS X (.If c sts sts' pos) (tSF X.K pn (sIf t sf sf')) := ps_imp (ps_if hc ha hb) fun D σ H q => by
  obtain ⟨P0, G, s, fl, s', m, hp, e, k⟩ := q
  obtain ⟨r, e1, e⟩ := Rs.bind_inv e
  refine ⟨P0, G, s, r.1, r.2, m, e1, fun H1 G1 x1 m1 => ?_⟩
  cases hb : r.1 with
  | true =>
    rw [hb, if_pos rfl] at e
    rw [if_pos rfl]
    exact ⟨P0, G1, r.2, fl, s', m1, hp, e, k.ext x1⟩
  | false =>
    rw [hb, if_neg (by decide)] at e
    rw [if_neg (by decide)]
    exact ⟨P0, G1, r.2, fl, s', m1, hp, e, k.ext x1⟩
/-! ### stores -/
theorem set_read {te : TE} {i : Nat} {D : Ends} {σ : L2.St} {H : Hp} (hi : ∀ p ∈ pn, p.1 ≠ i) (ht : ∀ σ H Q, tXF X.K f σ H Q → te σ H Q) (q : tSF X.K pn (sSet i f) D σ H) : tAsg te (gName i) D σ H := by
  obtain ⟨P0, G, s, fl, s', m, hp, e, k⟩ := q
  obtain ⟨r, e1, e⟩ := Rs.bind_inv e
  cases e
  exact ht σ H _ ⟨P0, G, s, r.1, r.2, m, e1, fun v H1 G1 x1 m1 r1 => k _ H1 G1 x1 (m1.store i r1) (hp.set hi) (by simp)⟩
theorem ps_setF {i : Nat} {x : Str} (hi : ∀ p ∈ pn, p.1 ≠ i) (hN : X.N.Nodup) (hx : X.N[i]? = some x) (hl : Loc X.env.scope x) (he : PE X e (tXF X.K f)) (hs : swapsWith e (some (.Name x p)) pos.line X.env = pure false) (hf : X.fn x = true ∨ X.env.scope.names.lookup x = some .local) :
    PS X (.Assign [.Name x p] e pos) (tSF X.K pn (sSet i f)) := ps_imp (ps_set hN hx hl he hs hf) fun D σ H q => set_read (X := X) hi (fun _ _ _ h => h) q
theorem ps_tgF {g : GF} {ts : List Nat} (hi : ∀ p ∈ pn, p.1 ∉ ts) (he : PE X e (tXF X.K f)) (hg : PG X tg (gD X.K g ts)) (hs : swapsWithSole [tg] e pos.line X.env = pure false) (hw : swappedStores [tg] e X.env = pure none) (h1 : (assignEach [tg] X.env).map (·.2) = [assign tg X.env]) :
    PS X (.Assign [tg] e pos) (tSF X.K pn (sTg g f)) := ps_imp (ps_asg (pz_of he) hg hs hw h1) fun D σ H q => by
  obtain ⟨P0, G, s, fl, s', m, hp, e, k⟩ := q
  obtain ⟨r, e1, e⟩ := Rs.bind_inv e
  obtain ⟨s2, e2, e⟩ := Rs.bind_inv e
  cases e
  refine ⟨P0, G, s, r.1, r.2, m, e1, fun v H1 G1 x1 m1 t1 => ⟨P0, G1, r.2, r.1, _, m1, t1, e2, fun σ2 m2 l2 k2 => k σ2 H1 G1 x1 m2 (fun p hp' => ?_) l2⟩⟩
  rw [k2 p.1 (hi p hp')]
  exact hp p hp'
end
theorem RRs.get {K : PySem.W.Frag} {P0 G H : Hp} {s : S} {σ : L2.St} : ∀ {rs : List R} {vs : List V} {k : Nat} {r : R} {v : V}, RRs K P0 G s σ H rs vs → rs[k]? = some r → vs[k]? = some v → RR K P0 G s σ H r v
  | [], _, _, _, _, _, e, _ => by simp at e
  | r :: rs, vs, 0, _, _, h, e, e' => by
    obtain ⟨v, ws, rfl, h1, _⟩ := h
    simp at e e'; subst e e'; exact h1
  | r :: rs, vs, k + 1, _, _, h, e, e' => by
    obtain ⟨v, ws, rfl, _, h2, _⟩ := h
    exact h2.get (by simpa using e) (by simpa using e')
theorem RRs.len {K : PySem.W.Frag} {P0 G H : Hp} {s : S} {σ : L2.St} : ∀ {rs : List R} {vs : List V}, RRs K P0 G s σ H rs vs → vs.length = rs.length
  | [], _, h => by cases h; rfl
  | r :: rs, vs, h => by
    obtain ⟨v, ws, rfl, _, h2, _⟩ := h
    simp [h2.len]
theorem RRs.map {K : PySem.W.Frag} {P0 P1 G H : Hp} {s s' : S} {σ σ' : L2.St} : ∀ {rs : List R} {vs : List V}, RRs K P0 G s σ H rs vs → (∀ (k : Nat) r v, rs[k]? = some r → vs[k]? = some v → RR K P0 G s σ H r v → RR K P1 G s' σ' H r v) → RRs K P1 G s' σ' H rs vs
  | [], _, h, _ => h
  | r :: rs, vs, h, f => by
    obtain ⟨v, ws, rfl, h1, h2, h3⟩ := h
    exact ⟨v, ws, rfl, f 0 r v rfl rfl h1, h2.map fun k r v e e' => f (k + 1) r v (by simpa using e) (by simpa using e'), h3⟩
def tRA (K : PySem.W.Frag) (f : S → Rs (List R × S)) : TA := fun σ H Q => ∃ P0 G s rs s', Sim K P0 G s σ H ∧ f s = .ok (rs, s') ∧ ∀ vs H' G', Ext P0 G G' → Sim K P0 G' s' σ H' → RRs K P0 G' s' σ H' rs vs → Q vs H'
section
variable {X : Cx} {pn : List (Nat × Addr)} {st : Stmt} {sts : List Stmt} {e a b tg : Expr} {f f' : XF} {t : TF} {sf sf' : SF} {pos p : Pos}
theorem upd_none {P0 : Hp} {l b : Addr} {o : HO} (h : upd P0 l o b = none) : P0 b = none ∨ b = l := by
  by_cases z : b = l
  · exact .inr z
  · rw [upd_ne z] at h; exact .inl h
theorem upd_none' {P0 : Hp} {l b : Addr} {o : HO} (h : upd P0 l o b = none) : P0 b = none ∧ b ≠ l := by
  by_cases z : b = l
  · subst z; rw [upd_same] at h; cases h
  · rw [upd_ne z] at h; exact ⟨h, z⟩
theorem pa_rargs : ∀ {es : List Expr} {fs : List XF}, Paired (fun e f => PE X e (tXF X.K f) ∧ ∀ es, starEach (e :: es) X.env = (false, eval e X.env) :: starEach es X.env) es fs → PA X es (tRA X.K (rArgs fs))
  | [], _, .nil => pa_imp pa_nil fun σ H Q q => by
    obtain ⟨P0, G, s, o, s', m, e, k⟩ := q
    cases e
    exact k [] H G .refl m rfl
  | e :: es, _, @Paired.cons _ _ _ _ f _ fs h t => pa_imp (pa_cons h.1 (pa_rargs t) (h.2 es)) fun σ H Q q => by
    obtain ⟨P0, G, s, o, s', m, e, k⟩ := q
    obtain ⟨⟨r, s1⟩, e1, e⟩ := Rs.bind_inv e
    obtain ⟨⟨rs, s2⟩, e2, e⟩ := Rs.bind_inv e
    cases e
    refine ⟨P0, G, s, r, s1, m, e1, fun v H1 G1 x1 m1 r1 => ?_⟩
    cases r with
    | d x => exact ⟨P0, G1, s1, rs, _, m1, e2, fun vs H2 G2 x2 m2 r2 => k _ H2 G2 (x1.trans x2) m2 ⟨v, vs, rfl, Tp.mono x2.1 _ _ r1, r2, fun _ z => nomatch z⟩⟩
    | scr ns =>
      obtain ⟨l, rfl, q⟩ := r1
      exact ⟨P0, G1, s1, rs, _, m1, e2, fun vs H2 G2 x2 m2 r2 => k _ H2 G2 (x1.trans x2) m2 ⟨.ref l, vs, rfl, ⟨l, rfl, x2.1.sql q⟩, r2, fun _ z => nomatch z⟩⟩
    | own xs =>
      obtain ⟨l, ws, rfl, g1, p1, h1, t1, n1⟩ := r1
      refine ⟨upd P0 l (.lst ws), G1, s1, rs, _, m1.protect p1 h1 n1, e2, fun vs H2 G2 x2 m2 r2 => ?_⟩
      obtain ⟨m3, h3, n3⟩ := m2.unprotect p1
      obtain ⟨x3, g3⟩ := x2.unprotect p1
      refine k _ H2 G2 (x1.trans x3) m3 ⟨.ref l, vs, rfl, ⟨l, ws, rfl, g3 g1, p1, h3, TpL.mono x3.1 _ _ t1, n3⟩, r2.map fun j r v ej ev rr => ?_, fun _ _ j w ys ew er z => ?_⟩
      · cases r with
        | d x => exact rr
        | scr ns => exact rr
        | own ys =>
          obtain ⟨b, us, rfl, z1, z2, z3⟩ := rr
          exact ⟨b, us, rfl, z1, (upd_none' z2).1, z3⟩
      · obtain ⟨b, us, e3, z1, z2, z3⟩ := r2.get er ew
        subst z
        cases e3
        exact (upd_none' z2).2 rfl
theorem RR.stored {K : PySem.W.Frag} {P0 G H : Hp} {s : S} {σ : L2.St} {i : Nat} {r r' : R} {v w : V} (m : Sim K P0 G s σ H) (h : RR K P0 G s σ H r' w) (n : ∀ xs ys, r = .own xs → r' = .own ys → w ≠ v) : RR K P0 G (s.set i (some r)) (σ.set i (some v)) H r' w := by
  cases r' with
  | d x => exact h
  | scr ns => exact h
  | own ys =>
    obtain ⟨b, us, rfl, z1, z2, z3, z4, z5⟩ := h
    refine ⟨b, us, rfl, z1, z2, z3, z4, fun k zs ek hk => ?_⟩
    rcases getElem?_set_some ek with ⟨q1, q2⟩ | ⟨q1, q2⟩
    · subst q1
      have hi : i < s.length := by
        have := (List.getElem?_eq_some_iff.mp ek).1
        simpa using this
      rw [List.getElem?_set_self (Nat.lt_of_lt_of_le hi m.len)] at hk
      have q3 : r = .own zs := (Option.some.inj q2).symm
      have hk' : v = .ref b := Option.some.inj (Option.some.inj hk)
      exact n zs ys q3 rfl hk'.symm
    · rw [List.getElem?_set_ne q1] at hk
      exact z5 k zs q2 hk
theorem put_all {K : PySem.W.Frag} {P0 G H : Hp} : ∀ {is : List Nat} {rs : List R} {vs : List V} {s : S} {σ : L2.St}, is.length = rs.length → Sim K P0 G s σ H → RRs K P0 G s σ H rs vs → Pin pn σ → (∀ i ∈ is, ∀ p ∈ pn, p.1 ≠ i) →
    Sim K P0 G (putAll is rs s) ((is.zip vs).foldl (fun σ q => σ.set q.1 (some q.2)) σ) H ∧ Pin pn ((is.zip vs).foldl (fun σ q => σ.set q.1 (some q.2)) σ) ∧ ((is.zip vs).foldl (fun σ q => σ.set q.1 (some q.2)) σ).length = σ.length
  | [], [], vs, s, σ, _, m, h, hp, _ => by cases h; exact ⟨m, hp, rfl⟩
  | i :: is, r :: rs, vs, s, σ, hl, m, h, hp, hi => by
    obtain ⟨v, ws, rfl, h1, h2, h3⟩ := h
    have m1 := m.store i h1
    have h2' : RRs K P0 G (s.set i (some r)) (σ.set i (some v)) H rs ws := h2.map fun k r' w er ew rr => rr.stored m fun xs ys z1 z2 => by
      subst z2
      exact h3 xs z1 k w ys ew er
    obtain ⟨a1, a2, a3⟩ := put_all (is := is) (by simpa using hl) m1 h2' (hp.set (hi i List.mem_cons_self)) fun j hj => hi j (List.mem_cons_of_mem _ hj)
    refine ⟨a1, a2, ?_⟩
    rw [List.zip_cons_cons, List.foldl_cons]
    rw [a3]
    simp
theorem rArgs_len : ∀ {fs : List XF} {s : S} {p : List R × S}, rArgs fs s = .ok p → p.1.length = fs.length
  | [], s, p, h => by cases h; rfl
  | f :: fs, s, p, h => by
    obtain ⟨q, e1, h⟩ := Rs.bind_inv h
    obtain ⟨r, e2, h⟩ := Rs.bind_inv h
    cases h
    simp [rArgs_len e2]
theorem ps_par2F {i j : Nat} {x y : Str} {px py pt : Pos} {kt k2 : Nat} {pt2 : Pos} (hp : ∀ k ∈ [i, j], ∀ p ∈ pn, p.1 ≠ k) (hc : X.calm = true) (hN : X.N.Nodup) (hi : X.N[i]? = some x) (hj : X.N[j]? = some y) (hij : i ≠ j)
    (hx : X.env.scope.names.lookup x = some .local) (hy : X.env.scope.names.lookup y = some .local) (ha : PA X [a, b] (tRA X.K (rArgs [f, f'])))
    (hw : swappedStores [.Tuple [.Name x px, .Name y py] kt pt] (.Tuple [a, b] k2 pt2) X.env = pure (some [x, y])) :
    PS X (.Assign [.Tuple [.Name x px, .Name y py] kt pt] (.Tuple [a, b] k2 pt2) pos) (tSF X.K pn (sPar [i, j] [f, f'])) := ps_imp (ps_par hc hN hi hj hij hx hy ha hw) fun D σ H q => by
  obtain ⟨P0, G, s, fl, s', m, hpn, e, k⟩ := q
  obtain ⟨r, e1, e⟩ := Rs.bind_inv e
  cases e
  refine ⟨P0, G, s, r.1, r.2, m, e1, fun vs H1 G1 x1 m1 r1 => ?_⟩
  have l1 := r1.len
  rw [rArgs_len e1] at l1
  match vs, l1 with
  | [v, w], _ =>
    obtain ⟨a1, a2, a3⟩ := put_all (is := [i, j]) (by rw [rArgs_len e1]; rfl) m1 r1 hpn hp
    exact ⟨v, w, rfl, k _ H1 G1 x1 a1 a2 a3⟩
theorem ps_par3F {c : Expr} {f2 : XF} {i j l : Nat} {x y z : Str} {px py pz pt : Pos} {kt k2 : Nat} {pt2 : Pos} (hp : ∀ k ∈ [i, j, l], ∀ p ∈ pn, p.1 ≠ k) (hc : X.calm = true) (hN : X.N.Nodup) (hi : X.N[i]? = some x) (hj : X.N[j]? = some y) (hl : X.N[l]? = some z) (hij : i ≠ j) (hil : i ≠ l) (hjl : j ≠ l)
    (hx : X.env.scope.names.lookup x = some .local) (hy : X.env.scope.names.lookup y = some .local) (hz : X.env.scope.names.lookup z = some .local) (ha : PA X [a, b, c] (tRA X.K (rArgs [f, f', f2])))
    (hw : swappedStores [.Tuple [.Name x px, .Name y py, .Name z pz] kt pt] (.Tuple [a, b, c] k2 pt2) X.env = pure (some [x, y, z])) :
    PS X (.Assign [.Tuple [.Name x px, .Name y py, .Name z pz] kt pt] (.Tuple [a, b, c] k2 pt2) pos) (tSF X.K pn (sPar [i, j, l] [f, f', f2])) := ps_imp (ps_par3 hc hN hi hj hl hij hil hjl hx hy hz ha hw) fun D σ H q => by
  obtain ⟨P0, G, s, fl, s', m, hpn, e, k⟩ := q
  obtain ⟨r, e1, e⟩ := Rs.bind_inv e
  cases e
  refine ⟨P0, G, s, r.1, r.2, m, e1, fun vs H1 G1 x1 m1 r1 => ?_⟩
  have l1 := r1.len
  rw [rArgs_len e1] at l1
  match vs, l1 with
  | [u, v, w], _ =>
    obtain ⟨a1, a2, a3⟩ := put_all (is := [i, j, l]) (by rw [rArgs_len e1]; rfl) m1 r1 hpn hp
    exact ⟨u, v, w, rfl, k _ H1 G1 x1 a1 a2 a3⟩
/-! ### x op= e, x[e] = e', x[e] op= e' -/
theorem ps_augF {i : Nat} {x : Str} {op : Operator} {fa : OF} (hi : ∀ p ∈ pn, p.1 ≠ i) (hN : X.N.Nodup) (hx : X.N[i]? = some x) (hl : Loc X.env.scope x) (he : PE X e (tOF X.K fa)) (hf : X.fn x = true ∨ X.env.scope.names.lookup x = some .local) :
    PS X (.AugAssign (.Name x p) op e pos) (tSF X.K pn (sAug i (dIop op) fa)) := by
  refine ⟨fun pins s σ H D I q => ?_⟩
  obtain ⟨P0, G, st, fl, s', m, hp, ee, k⟩ := q
  obtain ⟨⟨o, s1⟩, e1, ee⟩ := Rs.bind_inv ee
  obtain ⟨⟨o2, s2⟩, e2, ee⟩ := Rs.bind_inv ee
  obtain ⟨dx, d1, ee⟩ := Rs.bind_inv ee
  obtain ⟨dy, d2, ee⟩ := Rs.bind_inv ee
  obtain ⟨r, d3, ee⟩ := Rs.bind_inv ee
  cases ee
  obtain ⟨rr, ho, hv⟩ := iop_ok (X := X) (gv_inv d3)
  unfold oName at e1
  split at e1
  case h_2 => cases e1
  next u hs =>
  cases e1
  have : ∃ v, σ[i]? = some (some v) := by
    cases u with
    | d x => obtain ⟨v, e, _⟩ := m.dat i x hs; exact ⟨v, e⟩
    | own x => obtain ⟨v, _, e, _⟩ := m.own i x hs; exact ⟨_, e⟩
    | scr x => obtain ⟨v, e, _⟩ := m.scr i x hs; exact ⟨_, e⟩
  obtain ⟨v, ev⟩ := this
  refine (ps_aug hN hx hl he ho hf).run pins s σ H D I ⟨v, ev, P0, G, _, o2, s2, m, e2, fun w H1 G1 x1 m1 o1 => ?_⟩
  exact hv P0 G1 s2 σ H1 v w _ m1 (deref_tq m1 (show OR X.K G1 σ (.sl i) v from ev) (gv_inv d1)) (deref_tq m1 o1 (gv_inv d2)) fun z H2 G2 x2 m2 r2 => k _ H2 G2 (x1.trans x2) (m2.store i r2) (hp.set hi) (by simp)
def notSl : Expr → Bool
  | .Slice _ _ _ _ => false
  | _ => true
theorem sub_assign {o i : Expr} (h : notSl i = true) (env : Env) (v : Value) : assign (.Subscript o i pos) env v = (do
      let ov ← holding [v] (eval o env)
      let iv ← holding [v, ov] (eval i env)
      standAt pos
      holding [v, ov, iv] (setItem ov iv v)
      release [v, ov, iv] []) := by
  cases i <;> first | (cases h; done) | rfl
theorem plain_ix {b : Expr} (h : notSl b = true) : PlainIx b := fun o i => by
  cases b <;> first | (cases h; done) | rfl
theorem aug_store {b : Expr} (h : notSl b = true) (ov iv new : Value) : augStore b ov iv new = (do holding [new, ov, iv] (setItem ov iv new); release [new, ov, iv] []; pure .next) := by
  cases b <;> first | (cases h; done) | rfl
theorem ixN_len {n : Nat} {k : Int} {j : Nat} (h : ixN n k = some j) : j < n := (ixN_seq h).2.1
theorem ownAt_inv {s : S} {i : Nat} {xs : List D} (h : ownAt s i = .ok xs) : s[i]? = some (some (.own xs)) := by
  unfold ownAt at h
  split at h
  · next ys e => cases h; exact e
  · cases h
theorem intR_inv {r : R} {k : Int} (h : intR r = .ok k) : r = .d (.int k) := by
  unfold intR at h
  split at h
  · cases h; rfl
  · cases h
theorem ps_putF {i : Nat} {x : Str} {fi fv : XF} (hx : X.N[i]? = some x) (hv : Vis X.env.scope x) (hd : (x == ("__debug__" : Str)) = false) (hcd : (x == ("__classdict__" : Str)) = false) (hb : PE X b (tXF X.K fi)) (he : PE X e (tXF X.K fv)) (hn : notSl b = true)
    {px tp : Pos} (hs : swapsWithSole [.Subscript (.Name x px) b tp] e pos.line X.env = pure false) (hw : swappedStores [.Subscript (.Name x px) b tp] e X.env = pure none) :
    PS X (.Assign [.Subscript (.Name x px) b tp] e pos) (tSF X.K pn (sPut i fi fv)) := ps_imp (ps_asg (pz_of he) (pg_sub (pe_var hx hv hd hcd) hb set_list (sub_assign hn X.env)) hs hw rfl) fun D σ H q => by
  obtain ⟨P0, G, s, fl, s', m, hp, ee, k⟩ := q
  obtain ⟨⟨y, s1⟩, e1, ee⟩ := Rs.bind_inv ee
  obtain ⟨zs, o1, ee⟩ := Rs.bind_inv ee
  obtain ⟨⟨r, s2⟩, e2, ee⟩ := Rs.bind_inv ee
  obtain ⟨kk, i1, ee⟩ := Rs.bind_inv ee
  obtain ⟨xs, o2, ee⟩ := Rs.bind_inv ee
  obtain ⟨j, j1, ee⟩ := Rs.bind_inv ee
  cases ee
  have i1 := intR_inv i1
  simp only at i1
  subst i1
  refine ⟨P0, G, s, y, s1, m, e1, fun v H1 G1 x1 m1 t1 => ?_⟩
  obtain ⟨l, ws0, ev, _⟩ := m1.own i zs (ownAt_inv o1)
  refine ⟨.ref l, ev, P0, G1, s1, .d (.int kk), s2, m1, e2, fun w H2 G2 x2 m2 r2 => ?_⟩
  have hs2 := ownAt_inv o2
  obtain ⟨l', ws, ea, ga, qa, ha, ta⟩ := m2.own i xs hs2
  rw [ev] at ea; cases ea
  refine ⟨l, ws, kk, j, rfl, int_of r2, ha, by rw [ta.length]; exact gv_inv j1, ?_⟩
  exact k σ _ G2 (x1.trans x2) (m2.write hs2 ev (ta.set (Tp.mono x2.1 _ _ t1) j)) hp rfl
/-- an item of a list, by values -/
def getL : V → V → Hp → VK → Prop := fun o i H Q => ∃ l vs k v, o = .ref l ∧ i = .int k ∧ H l = some (.lst vs) ∧ 0 ≤ k ∧ k ≤ szMax ∧ vs[k.toNat]? = some v ∧ Q v H
theorem get_listP : PGet X getL := by
  intro pins s σ H o i ov iv Q I ro ri h
  obtain ⟨l, vs, k, v, rfl, rfl, hl, h0, h1, hv, q⟩ := h
  cases ro
  obtain ⟨t, rfl⟩ := ri
  obtain ⟨its, r, pl, _⟩ := I.list (SqL.of hl)
  obtain ⟨u, hu, ru⟩ := r.get hv
  have hsz : (szMax : Int) < 2 ^ 63 := by decide
  exact wpAny_getItem_list pl.isList h0 (by omega) (by simpa using hu) ⟨v, H, I, ru, q⟩
theorem ps_putOpF {i : Nat} {x : Str} {fi fv : XF} {op : Operator} (hx : X.N[i]? = some x) (hv : Vis X.env.scope x) (hd : (x == ("__debug__" : Str)) = false) (hcd : (x == ("__classdict__" : Str)) = false) (hb : PE X b (tXF X.K fi)) (he : PE X e (tXF X.K fv)) (hn : notSl b = true) {px tp : Pos} :
    PS X (.AugAssign (.Subscript (.Name x px) b tp) op e pos) (tSF X.K pn (sPutOp i fi (dIop op) fv)) := by
  refine ⟨fun pins s σ H D I q => ?_⟩
  obtain ⟨P0, G, st, fl, s', m, hp, ee, k⟩ := q
  obtain ⟨zs, o1, ee⟩ := Rs.bind_inv ee
  obtain ⟨⟨r, s1⟩, e1, ee⟩ := Rs.bind_inv ee
  obtain ⟨kk, i1, ee⟩ := Rs.bind_inv ee
  obtain ⟨xs, o2, ee⟩ := Rs.bind_inv ee
  split at ee
  · cases ee
  next hk =>
  obtain ⟨dx, d1, ee⟩ := Rs.bind_inv ee
  obtain ⟨⟨dy, s2⟩, e2, ee⟩ := Rs.bind_inv ee
  obtain ⟨res, d2, ee⟩ := Rs.bind_inv ee
  obtain ⟨z, d3, ee⟩ := Rs.bind_inv ee
  obtain ⟨ys, o3, ee⟩ := Rs.bind_inv ee
  obtain ⟨j, j1, ee⟩ := Rs.bind_inv ee
  cases ee
  have i1 := intR_inv i1
  simp only at i1
  subst i1
  obtain ⟨rr, ho, hvv⟩ := iop_ok (X := X) (gv_inv d2)
  obtain ⟨l, ws0, ev, _⟩ := m.own i zs (ownAt_inv o1)
  refine (ps_augS (pe_var hx hv hd hcd) hb get_listP (pz_of he) ho set_list (aug_store hn)).run pins s σ H D I ⟨.ref l, ev, P0, G, st, .d (.int kk), s1, m, e1, fun w H1 G1 x1 m1 r1 => ?_⟩
  have hs1 := ownAt_inv o2
  obtain ⟨l', ws, ea, ga, qa, ha, ta⟩ := m1.own i xs hs1
  rw [ev] at ea; cases ea
  obtain ⟨vx, hvx, tvx⟩ := ta.get (gv_inv d1)
  refine ⟨l, ws, kk, vx, rfl, int_of r1, ha, by omega, by omega, hvx, P0, G1, s1, dy, s2, m1, e2, fun v2 H2 G2 x2 m2 t2 => ?_⟩
  refine hvv P0 G2 s2 σ H2 vx v2 _ m2 ((Tp.mono x2.1 _ _ tvx).tq m2.fro) (t2.tq m2.fro) fun v3 H3 G3 x3 m3 r3 => ?_
  obtain ⟨G4, x4, m4, t4⟩ := fz_post m3 r3 (gv_inv d3)
  have hs3 := ownAt_inv o3
  obtain ⟨l', ws3, ea, ga, qa, ha3, ta3⟩ := m4.own i ys hs3
  rw [ev] at ea; cases ea
  refine ⟨l, ws3, kk, j, rfl, int_of r1, ha3, by rw [ta3.length]; exact gv_inv j1, ?_⟩
  exact k σ _ G4 (x1.trans (x2.trans (x3.trans x4))) (m4.write hs3 ev (ta3.set t4 j)) hp rfl
/-! ### loops -/
theorem mask_some : ∀ {s0 s : S} {i : Nat} {r : R}, (mask s0 s)[i]? = some (some r) → s[i]? = some (some r)
  | [], s, i, r, h => by cases s <;> simp [mask] at h
  | none :: q, [], i, r, h => by simp [mask] at h
  | some _ :: q, [], i, r, h => by simp [mask] at h
  | none :: q, x :: s, 0, r, h => by simp [mask] at h
  | none :: q, x :: s, i + 1, r, h => by
    simp only [mask, List.getElem?_cons_succ] at h ⊢
    exact mask_some h
  | some _ :: q, x :: s, 0, r, h => by simpa [mask] using h
  | some _ :: q, x :: s, i + 1, r, h => by
    simp only [mask, List.getElem?_cons_succ] at h ⊢
    exact mask_some h
theorem mask_len : ∀ {s0 s : S}, (mask s0 s).length ≤ s.length
  | [], s => by cases s <;> simp [mask]
  | none :: q, [] => by simp [mask]
  | some _ :: q, [] => by simp [mask]
  | none :: q, x :: s => by simp only [mask, List.length_cons]; have := @mask_len q s; omega
  | some _ :: q, x :: s => by simp only [mask, List.length_cons]; have := @mask_len q s; omega
theorem Sim.mask {K : PySem.W.Frag} {P0 G H : Hp} {s : S} {σ : L2.St} (m : Sim K P0 G s σ H) (s0 : S) : Sim K P0 G (Ek.mask s0 s) σ H := m.less mask_len fun _ _ h => mask_some h
theorem ps_forF {iter : Expr} {fit : AF} {g : GF} {ts : List Nat} (hi : ∀ p ∈ pn, p.1 ∉ ts) (hp : PassesOwn (model X.prog X.w) X.A X.env X.xe) (hc : X.calm = true) (hit : PI X tg iter (iAF X.K fit)) (hg : PG X tg (gD X.K g ts)) (hb : PSs X sts (tSF X.K pn sf)) (hs : ∀ x, foldedSetIterable iter X.env x = pure x) :
    PS X (.For tg iter sts [] pos) (tSF X.K pn (sFor fit g sf)) := ps_imp (ps_for hp hc hit hg hb hs) fun D σ H q => by
  obtain ⟨P0, G, s, fl, s', m, hpn, e, k⟩ := q
  obtain ⟨⟨items, s1⟩, e1, e⟩ := Rs.bind_inv e
  refine ⟨P0, G, s, items, s1, m, e1, fun J H1 G1 x1 m1 w => ?_⟩
  have e : forL s1 g sf items s1 = .ok (fl, s') := e
  have k1 := k.ext x1
  refine ⟨fun i mm σ' H' => i + mm = items.length ∧ ∃ G' sc, Ext P0 G1 G' ∧ Sim X.K P0 G' sc σ' H' ∧ Pin pn σ' ∧ σ'.length = σ.length ∧ forL s1 g sf (items.drop i) sc = .ok (fl, s'), ⟨items.length, by omega, G1, s1, .refl, m1, hpn, rfl, e⟩, fun i mm σ' H' hW => ?_⟩
  obtain ⟨hm, G', sc, x2, m2, hpn2, hl2, e2⟩ := hW
  by_cases hi' : i < items.length
  · have hit' : items[i]? = some items[i] := List.getElem?_eq_getElem hi'
    have hdr : items.drop i = items[i] :: items.drop (i + 1) := List.drop_eq_getElem_cons hi'
    rw [hdr] at e2
    generalize items[i] = d at hit' e2
    obtain ⟨s3, e3, e2⟩ := Rs.bind_inv e2
    obtain ⟨⟨fl2, s4⟩, e4, e2⟩ := Rs.bind_inv e2
    obtain ⟨y1, y2⟩ := (w i G' H' x2.1 m2.fro).1 d hit'
    refine .inr ⟨y1, fun σ' H' => i + 1 + (mm - 1) = items.length ∧ ∃ G' sc, Ext P0 G1 G' ∧ Sim X.K P0 G' sc σ' H' ∧ Pin pn σ' ∧ σ'.length = σ.length ∧ forL s1 g sf (items.drop (i + 1)) sc = .ok (fl, s'), fun σ' H' h' => ⟨mm - 1, by omega, h'⟩, fun x H'' hy => ?_⟩
    have : ∃ G2, Ext P0 G' G2 ∧ Sim X.K P0 G2 (mask s1 sc) σ' H'' ∧ Tp X.K G2 d x := by
      rcases y2 x H'' hy with ⟨rfl, tx⟩ | ⟨T, o, hT, rfl, tx⟩
      · exact ⟨G', .refl, m2.mask s1, tx⟩
      · exact ⟨_, m2.ext_data hT, (m2.mask s1).data hT, tx⟩
    obtain ⟨G2, x3, m3, tx⟩ := this
    refine ⟨P0, G2, _, d, s3, m3, tx, e3, fun σ2 m4 l4 k4 => ⟨P0, G2, s3, fl2, s4, m4, fun p hp' => by rw [k4 p.1 (hi p hp')]; exact hpn2 p hp', e4, ?_⟩⟩
    have x23 := x2.trans x3
    cases fl2 with
    | nx => exact fun σ3 H3 G3 x5 m5 p5 l5 => ⟨by omega, G3, s4, x23.trans x5, m5, p5, by omega, e2⟩
    | ct => exact fun σ3 H3 G3 x5 m5 p5 l5 => ⟨by omega, G3, s4, x23.trans x5, m5, p5, by omega, e2⟩
    | bk =>
      cases e2
      exact fun σ3 H3 G3 x5 m5 p5 l5 => k1 σ3 H3 G3 (x23.trans x5) (m5.mask s1) p5 (by omega)
    | rt r =>
      cases e2
      exact fun v σ3 H3 G3 x5 m5 p5 r5 => k1 v σ3 H3 G3 (x23.trans x5) m5 p5 r5
    | rw r => cases e2
  · have hdr : items.drop i = [] := List.drop_eq_nil_of_le (by omega)
    rw [hdr] at e2
    cases e2
    exact .inl ⟨(w i G' H' x2.1 m2.fro).2 (by omega), k1 σ' H' G' x2 (m2.mask s1) hpn2 hl2⟩
theorem ps_whF {c : Expr} {n : Nat} (hp : PassesOwn (model X.prog X.w) X.A X.env X.xe) (hc : PT X c (tTF X.K t)) (hb : PSs X sts (tSF X.K pn sf)) : PS X (.While c sts [] pos) (tSF X.K pn (sWh n t sf)) := ps_imp (ps_while hp hc hb) fun D σ H q => by
  obtain ⟨P0, G, s, fl, s', m, hpn, e, k⟩ := q
  have e : whL s t sf n s = .ok (fl, s') := e
  refine ⟨fun mm σ' H' => ∃ G' sc, Ext P0 G G' ∧ Sim X.K P0 G' sc σ' H' ∧ Pin pn σ' ∧ σ'.length = σ.length ∧ whL s t sf mm sc = .ok (fl, s'), ⟨n, G, s, .refl, m, hpn, rfl, e⟩, fun mm σ' H' hW => ?_⟩
  obtain ⟨G', sc, x2, m2, hpn2, hl2, e2⟩ := hW
  cases mm with
  | zero => cases e2
  | succ mm =>
    obtain ⟨⟨b, s1⟩, e3, e2⟩ := Rs.bind_inv e2
    refine ⟨P0, G', _, b, s1, m2.mask s, e3, fun H3 G3 x3 m3 => ?_⟩
    cases b with
    | true =>
      rw [if_pos rfl] at e2
      rw [if_pos rfl]
      obtain ⟨⟨fl2, s4⟩, e4, e2⟩ := Rs.bind_inv e2
      refine ⟨fun σ' H' => ∃ G' sc, Ext P0 G G' ∧ Sim X.K P0 G' sc σ' H' ∧ Pin pn σ' ∧ σ'.length = σ.length ∧ whL s t sf mm sc = .ok (fl, s'), fun σ' H' h' => ⟨mm, by omega, h'⟩, P0, G3, s1, fl2, s4, m3, hpn2, e4, ?_⟩
      have x23 := x2.trans x3
      cases fl2 with
      | nx => exact fun σ3 H3 G3 x5 m5 p5 l5 => ⟨G3, s4, x23.trans x5, m5, p5, by omega, e2⟩
      | ct => exact fun σ3 H3 G3 x5 m5 p5 l5 => ⟨G3, s4, x23.trans x5, m5, p5, by omega, e2⟩
      | bk =>
        cases e2
        exact fun σ3 H3 G3 x5 m5 p5 l5 => k σ3 H3 G3 (x23.trans x5) (m5.mask s) p5 (by omega)
      | rt r =>
        cases e2
        exact fun v σ3 H3 G3 x5 m5 p5 r5 => k v σ3 H3 G3 (x23.trans x5) m5 p5 r5
      | rw r => cases e2
    | false =>
      rw [if_neg (show ¬ (false = true) by decide)] at e2
      rw [if_neg (show ¬ (false = true) by decide)]
      cases e2
      exact k σ' H3 G3 (x2.trans x3) m3 hpn2 hl2
end
end Ek

/-! ## S: zip over lists, tuples, texts in any mix -/
namespace Ek
open PySem PySem.Spec PyProof.Rows L2
inductive Src where
  | l (a : Addr) (xs : List V)
  | t (a : Addr) (xs : List V)
  | s (z : Str)
def Src.vs : Src → List V
  | .l _ xs => xs
  | .t _ xs => xs
  | .s z => z.cps.toList.map fun c => .str ⟨#[c]⟩
def Src.v : Src → V
  | .l a _ => .ref a
  | .t a _ => .ref a
  | .s z => .str z
def Src.lt (N : Nat) : Src → Prop
  | .l a _ => a < N
  | .t a _ => a < N
  | .s _ => True
def Src.on (K : PySem.W.Frag) (H : Hp) : Src → Prop
  | .l a xs => SqL K H a xs
  | .t a xs => SqT K H a xs
  | .s _ => True
def Src.it : Src → Addr → Nat → Heap → Prop
  | .l a _, it, i, h => h.IsListIter it a i
  | .t a _, it, i, h => h.IsTupleIter it a i
  | .s z, it, i, h => ∃ k, h.IsStrIter it (strIterType z) z k i
theorem Src.it_obj {p : Src} {it : Addr} {i : Nat} {h : Heap} (e : p.it it i h) : ∃ o, h.get? it = some o ∧ ∀ v, o.data ≠ .cell v := by
  cases p with
  | l a xs => obtain ⟨o, e, c, d⟩ := e; exact ⟨o, e, fun v z => by rw [d] at z; cases z⟩
  | t a xs => obtain ⟨o, e, c, d⟩ := e; exact ⟨o, e, fun v z => by rw [d] at z; cases z⟩
  | s z => obtain ⟨k, o, e, c, d⟩ := e; exact ⟨o, e, fun v z => by rw [d] at z; cases z⟩
theorem Src.it_keep {p : Src} {it : Addr} {i : Nat} {h h' : Heap} (e : p.it it i h) (k : ∀ o, h.get? it = some o → h'.get? it = some o) : p.it it i h' := by
  cases p with
  | l a xs => obtain ⟨o, e, r⟩ := e; exact ⟨o, k o e, r⟩
  | t a xs => obtain ⟨o, e, r⟩ := e; exact ⟨o, k o e, r⟩
  | s z => obtain ⟨q, o, e, r⟩ := e; exact ⟨q, o, k o e, r⟩
/-- what its iterator draws, at a turn -/
theorem Src.draws {X : Cx} {pins : List (Addr × Obj)} {σ : L2.St} {H : Hp} {s : Shared} {p : Src} {N it : Addr} {i : Nat} {A : Around} (I : Inv X pins σ H s) (hh : A.handled = none) (hl : p.lt N) (hN : N ≤ it) (ho : p.on X.K H) (st : p.it it i s.heap) :
    ∃ (fp : List Addr) (P : Nat → Value → Prop) (St : Nat → Heap → Prop), (∀ b ∈ fp, b < N) ∧ Draws X.prog X.w A it (it :: fp) p.vs.length P St ∧ St i s.heap ∧ (∀ i h, St i h → p.it it i h) ∧ ∀ i u, P i u → ∃ x, p.vs[i]? = some x ∧ RelV x u := by
  cases p with
  | l a xs =>
    obtain ⟨its, rv, pl, hz⟩ := I.list ho
    have hl' : a < N := hl
    have e : its.toArray.size = xs.length := by simp [rv.length]
    have D := Draws.list (prog := X.prog) (w := X.w) hh it a (Nat.ne_of_lt (Nat.lt_of_lt_of_le hl' hN)) its.toArray
    rw [e] at D
    refine ⟨[a], _, _, fun b hb => by rw [List.mem_singleton.mp hb]; exact hl', D, ⟨st, pl.isList⟩, fun _ _ h => h.1, fun i u hu => ?_⟩
    have hu' : its[i]? = some u := by simpa using hu
    have hi : i < xs.length := by
      have := (List.getElem?_eq_some_iff.mp hu').1
      have hl2 := rv.length
      omega
    obtain ⟨u2, h1, h2⟩ := rv.get (List.getElem?_eq_getElem hi)
    rw [hu'] at h1; cases h1
    exact ⟨_, List.getElem?_eq_getElem hi, h2⟩
  | t a xs =>
    obtain ⟨its, rv, pl, hz⟩ := I.tuple ho
    have hl' : a < N := hl
    have e : its.toArray.size = xs.length := by simp [rv.length]
    have D := Draws.tuple (prog := X.prog) (w := X.w) hh it a (Nat.ne_of_lt (Nat.lt_of_lt_of_le hl' hN)) its.toArray
    rw [e] at D
    refine ⟨[a], _, _, fun b hb => by rw [List.mem_singleton.mp hb]; exact hl', D, ⟨st, pl⟩, fun _ _ h => h.1, fun i u hu => ?_⟩
    have hu' : its[i]? = some u := by simpa using hu
    have hi : i < xs.length := by
      have := (List.getElem?_eq_some_iff.mp hu').1
      have hl2 := rv.length
      omega
    obtain ⟨u2, h1, h2⟩ := rv.get (List.getElem?_eq_getElem hi)
    rw [hu'] at h1; cases h1
    exact ⟨_, List.getElem?_eq_getElem hi, h2⟩
  | s z =>
    obtain ⟨k, st⟩ := st
    have e : z.cps.size = (Src.s z).vs.length := by simp [Src.vs]
    have D := Draws.text (prog := X.prog) (w := X.w) hh it z k
    rw [e] at D
    refine ⟨[], _, _, (fun _ h => nomatch h), D, st, fun _ _ h => ⟨k, h⟩, fun i u hu => ?_⟩
    obtain ⟨c, t, h1, rfl⟩ := hu
    exact ⟨.str ⟨#[c]⟩, by simp [Src.vs, h1], t, rfl⟩
def ItZ (K : PySem.W.Frag) (p q : Src) : It :=
  ⟨fun i H => p.on K H ∧ q.on K H ∧ i < p.vs.length ∧ i < q.vs.length,
    fun i H v H' => ∃ T x y, v = .ref T ∧ H T = none ∧ H' = upd H T (.tup [x, y]) ∧ p.vs[i]? = some x ∧ q.vs[i]? = some y,
    fun i H => p.on K H ∧ q.on K H ∧ (p.vs.length ≤ i ∨ q.vs.length ≤ i)⟩
def fpZ (N : Nat) : List Addr := [N + 4, N + 2, N + 3, N, N + 1]
def stZ (N : Nat) (p q : Src) (i : Nat) (h : Heap) : Prop := i ≤ min p.vs.length q.vs.length ∧ IsZip h (N + 4) (N + 2) (N + 3) .none ∧ IsTupOf2 h (N + 2) (.ref N) (.ref (N + 1)) ∧ (∃ a b, IsTupOf2 h (N + 3) a b) ∧ p.it N i h ∧ q.it (N + 1) i h
theorem turn_zip2 {P : Program} {w : World} {K : PySem.W.Frag} {elts : List Expr} {kk : Nat} {tpos : Pos} {N : Nat} {p q : Src} (hp : p.lt N) (hq : q.lt N) :
    Turn P w K (.Tuple elts kk tpos) (ItZ K p q) (fpZ N) (N + 4) (stZ N p q) where
  mem := by simp [fpZ]
  obj := fun i h st c hc => by
    obtain ⟨_, hz, hTI, ⟨x, y, hTO⟩, h1, h2⟩ := st
    have e' : c = N + 4 ∨ c = N + 2 ∨ c = N + 3 ∨ c = N ∨ c = N + 1 := by simpa [fpZ] using hc
    rcases e' with z | z | z | z | z
    · rw [z]; exact ⟨_, hz, fun v q => nomatch q⟩
    · rw [z]; exact ⟨_, hTI, fun v q => nomatch q⟩
    · rw [z]; exact ⟨_, hTO, fun v q => nomatch q⟩
    · rw [z]; exact Src.it_obj h1
    · rw [z]; exact Src.it_obj h2
  keep := fun i h h' st k => by
    obtain ⟨hi, hz, hTI, ⟨x, y, hTO⟩, h1, h2⟩ := st
    exact ⟨hi, k _ (by simp [fpZ]) _ hz, k _ (by simp [fpZ]) _ hTI, ⟨x, y, k _ (by simp [fpZ]) _ hTO⟩, Src.it_keep h1 fun o e => k _ (by simp [fpZ]) o e, Src.it_keep h2 fun o e => k _ (by simp [fpZ]) o e⟩
  item := by
    intro X hP hw hK hc i pins s σ H E I hf st hg
    subst hP hw hK
    obtain ⟨hi, hz, hTI, hTO, h1, h2⟩ := st
    obtain ⟨o1, o2, l1, l2⟩ := hg
    have hh : X.A.in1.handled = none := I.ok.hd hc
    obtain ⟨f1, P1, S1, g1, D1, s1, b1, r1⟩ := Src.draws (A := X.A.in1) I hh hp (Nat.le_refl _) o1 h1
    obtain ⟨f2, P2, S2, g2, D2, s2, b2, r2⟩ := Src.draws (A := X.A.in1) I hh hq (Nat.le_succ _) o2 h2
    have W := WalksT.zipD2 (zip_sep2 g1 g2) D1 D2
    refine W.item i s _ _ (by omega) ⟨hz, hTI, hTO, s1, s2⟩ fun T vals h' tk hPt hT hIs hM hk => ?_
    refine ⟨_, rfl, W.go elts kk tpos i T { s with heap := h', toks := tk } _ _ hM fun h'' st' hk2 => ?_⟩
    obtain ⟨u, u2, q1, q2, rfl⟩ := hPt
    obtain ⟨x, e1, ru⟩ := r1 _ _ q1
    obtain ⟨y, e2, ru2⟩ := r2 _ _ q2
    have hap := W.apart _ _ _ hM
    have hT2 : h''.IsTuple T #[u, u2] := hIs.at fun o e => hk2 T o hap e
    have new : ObjOk X.prog X.w (upd H T (.tup [x, y])) h'' T (.tup [x, y]) :=
      ⟨by show 2 ≤ sizeLine; decide, [u, u2], .cons ru (.cons ru2 .nil), hT2⟩
    have sub : ∀ b, b ∉ fpZ N → b ∉ [N + 4, N + 3, N, N + 1] := fun b hb z => hb (by simp only [fpZ, List.mem_cons, List.not_mem_nil, or_false] at z ⊢; rcases z with h | h | h | h <;> simp [h])
    have I1 : Inv X pins σ (upd H T (.tup [x, y])) { s with heap := h'', toks := tk } :=
      I.turnedNew (t' := tk) (ch := fpZ N) (fun c o hb e => hk2 c o (sub c hb) (hk c o (sub c hb) e)) hf hT new
    obtain ⟨z1, z2, z3, z4, z5⟩ := st'
    refine ⟨.ref T, _, I1, rfl, ⟨_, x, y, rfl, I.hok.fresh hT, rfl, e1, e2⟩, ⟨by omega, z1, z2, z3, b1 _ _ z4, b2 _ _ z5⟩, fun c hcm => ?_⟩
    have hlt : c < s.heap.objs.size := by
      have e' : c = N + 4 ∨ c = N + 2 ∨ c = N + 3 ∨ c = N ∨ c = N + 1 := by simpa [fpZ] using hcm
      have hN4 : N + 4 < s.heap.objs.size := Heap.lt_size hz
      rcases e' with z | z | z | z | z <;> rw [z] <;> first | exact hN4 | exact Nat.lt_of_le_of_lt (Nat.add_le_add_left (by decide) N) hN4 | exact Nat.lt_of_le_of_lt (Nat.le_add_right N 4) hN4
    rw [upd_ne (Nat.ne_of_lt (Nat.lt_of_lt_of_le hlt hT))]
    exact (hf c hcm).1
  done := by
    intro X hP hw hK hc i pins s σ H E I hf st hg
    subst hP hw hK
    obtain ⟨hi, hz, hTI, hTO, h1, h2⟩ := st
    obtain ⟨o1, o2, hend⟩ := hg
    have hh : X.A.in1.handled = none := I.ok.hd hc
    obtain ⟨f1, P1, S1, g1, D1, s1, b1, r1⟩ := Src.draws (A := X.A.in1) I hh hp (Nat.le_refl _) o1 h1
    obtain ⟨f2, P2, S2, g2, D2, s2, b2, r2⟩ := Src.draws (A := X.A.in1) I hh hq (Nat.le_succ _) o2 h2
    have W := WalksT.zipD2 (zip_sep2 g1 g2) D1 D2
    have ei : i = min p.vs.length q.vs.length := by omega
    subst ei
    have sub : ∀ b, b ∉ fpZ N → b ∉ [N + 4, N + 3, N, N + 1] := fun b hb z => hb (by simp only [fpZ, List.mem_cons, List.not_mem_nil, or_false] at z ⊢; rcases z with h | h | h | h <;> simp [h])
    exact W.done s _ _ ⟨hz, hTI, hTO, s1, s2⟩ fun h' tk hk => ⟨rfl, I.turnedL (t' := tk) (ch := fpZ N) (fun c o hb e => hk c o (sub c hb) e) hf⟩
  self := fun A i s Q E st h => wpAny_pyIter_zip st.2.1 h
def Src.obj : Src → Value → Obj
  | .l a _, _ => { cls := .type "list_iterator", data := .fields #[.ref a, .int 0 0] }
  | .t a _, _ => { cls := .type "tuple_iterator", data := .fields #[.ref a, .int 0 0] }
  | .s z, u => { cls := .type (strIterType z), data := .fields #[u, .int 0 0] }
theorem Src.begins {X : Cx} {pins : List (Addr × Obj)} {σ : L2.St} {H : Hp} {s : Shared} {p : Src} {u : Value} (I : Inv X pins σ H s) (ho : p.on X.K H) (r : RelV p.v u) :
    ∃ o Hh, Begins u o Hh ∧ Hh s.heap ∧ p.lt s.heap.objs.size ∧ ∀ (it : Addr) (h : Heap), h.get? it = some o → p.it it 0 h := by
  cases p with
  | l a xs =>
    obtain rfl : u = Value.ref a := r
    obtain ⟨its, rv, pl, hz⟩ := I.list ho
    exact ⟨_, _, begins_list a its.toArray, pl.isList, pl.lt, fun it h e => ⟨_, e, rfl, rfl⟩⟩
  | t a xs =>
    obtain rfl : u = Value.ref a := r
    obtain ⟨its, rv, pl, hz⟩ := I.tuple ho
    obtain ⟨o1, ho1, _⟩ := id pl
    exact ⟨_, _, begins_tuple a its.toArray, pl, Heap.lt_size ho1, fun it h e => ⟨_, e, rfl, rfl⟩⟩
  | s z =>
    obtain ⟨t, rfl⟩ := r
    exact ⟨_, _, begins_text z t, trivial, trivial, fun it h e => ⟨t, _, e, rfl, rfl⟩⟩
def iZ2 (K : PySem.W.Frag) (ta : TA) : TI := fun σ H R => ta σ H fun vs H1 => ∃ p q : Src, vs = [p.v, q.v] ∧ p.on K H1 ∧ q.on K H1 ∧ R (ItZ K p q) H1
theorem pi_zip2 {X : Cx} {e e2 : Expr} {ta : TA} {p pos tpos : Pos} {elts : List Expr} {kk : Nat} (hg : Gl X "zip") (hm : X.mg "zip" = none) (ha : PA X [e, e2] ta)
    (hs : starEach [e, e2] X.env = (false, eval e X.env) :: starEach [e2] X.env) (hpl : (backTo pos (starEach [e2] X.env)).any (·.1) = false) :
    PI X (.Tuple elts kk tpos) (.Call (.Name "zip" p) [e, e2] [] pos) (iZ2 X.K ta) := by
  refine ⟨fun pins s σ H R I h => ?_⟩
  refine Call_ (ld_blt I hg hm PyProof.Rows.boot_zip (PyProof.Rows.callWith_type1 (thn (ha.run pos pins s σ H _ I h) fun us s1 ⟨vs, H1, I1, r1, q1⟩ => ?_) hs hpl))
  obtain ⟨a, b, ex, oa, ob, q⟩ := q1
  subst ex
  cases r1 with
  | cons r rr =>
    cases rr with
    | cons r' rr =>
      cases rr
      obtain ⟨o1, K1, B1, k1, l1, i1⟩ := Src.begins I1 oa r
      obtain ⟨o2, K2, B2, k2, l2, i2⟩ := Src.begins I1 ob r'
      refine zip_begins2 B1 B2 k1 k2 fun h' hz hTI hTO e1 e2 hsz hk => wpAny_pyIter_zip hz ?_
      have I2 : Inv X pins σ H1 { s1 with heap := h' } := I1.kept (t' := s1.toks) hk
      refine ⟨s1.heap.objs.size + 4, fpZ s1.heap.objs.size, stZ s1.heap.objs.size a b, _, H1, rfl, I2, turn_zip2 l1 l2, ⟨Nat.zero_le _, hz, hTI, ⟨_, _, hTO⟩, i1 _ _ e1, i2 _ _ e2⟩, fun c hcm => ?_, q⟩
      have hle : s1.heap.objs.size ≤ c := by
        have e' : c = s1.heap.objs.size + 4 ∨ c = s1.heap.objs.size + 2 ∨ c = s1.heap.objs.size + 3 ∨ c = s1.heap.objs.size ∨ c = s1.heap.objs.size + 1 := by simpa [fpZ] using hcm
        rcases e' with z | z | z | z | z <;> rw [z] <;> first | exact Nat.le_add_right _ _ | exact Nat.le_refl _
      exact I1.fpOk hle (I1.hok.fresh hle)
theorem src_of {K : PySem.W.Frag} {G : Hp} {x : D} {v : V} {xs : List D} (t : Tp K G x v) (h : itOf x = some xs) : ∃ p : Src, v = p.v ∧ (∀ H, Sub G H → p.on K H) ∧ p.vs.length = xs.length ∧ ∀ (i : Nat) d, xs[i]? = some d → ∃ u, p.vs[i]? = some u ∧ Tp K G d u := by
  cases x with
  | list ys =>
    cases h
    simp only [Tp] at t
    obtain ⟨a, vs, rfl, ha, tv⟩ := t
    exact ⟨.l a vs, rfl, fun H z => .of (z _ _ ha), tv.length, fun i d hd => tv.get hd⟩
  | tuple ys =>
    cases h
    simp only [Tp] at t
    obtain ⟨a, vs, rfl, ha, tv⟩ := t
    exact ⟨.t a vs, rfl, fun H z => z.sqt ha, tv.length, fun i d hd => tv.get hd⟩
  | str z =>
    have h' : (if z.length ≤ szMax then some (chars z) else none) = some xs := h
    split at h'
    · cases h'
      simp [Tp] at t
      refine ⟨.s z, t, fun H _ => trivial, by simp [Src.vs, chars], fun i d hd => ?_⟩
      unfold chars at hd
      rw [List.getElem?_map] at hd
      cases hc : z.cps.toList[i]? with
      | none => rw [hc] at hd; cases hd
      | some c =>
        rw [hc] at hd; cases hd
        exact ⟨.str ⟨#[c]⟩, by simp only [Src.vs, List.getElem?_map, hc]; rfl, tp_str⟩
    · cases h'
  | _ => cases h
theorem walks_zip {K : PySem.W.Frag} {G : Hp} {p q : Src} {xs ys : List D} (hp : ∀ H, Sub G H → p.on K H) (hq : ∀ H, Sub G H → q.on K H) (lp : p.vs.length = xs.length) (lq : q.vs.length = ys.length)
    (gp : ∀ (i : Nat) d, xs[i]? = some d → ∃ u, p.vs[i]? = some u ∧ Tp K G d u) (gq : ∀ (i : Nat) d, ys[i]? = some d → ∃ u, q.vs[i]? = some u ∧ Tp K G d u) : Walks K G (ItZ K p q) (zipD xs ys) := fun i G1 H1 z1 z2 => by
  have z := z1.trans z2
  have hl : (zipD xs ys).length = min xs.length ys.length := by simp [zipD]
  refine ⟨fun d hd => ?_, fun hi => ⟨hp _ z, hq _ z, by omega⟩⟩
  have hi := (List.getElem?_eq_some_iff.mp hd).1
  have i1 : i < xs.length := by omega
  have i2 : i < ys.length := by omega
  refine ⟨⟨hp _ z, hq _ z, by omega, by omega⟩, fun v H' y => .inr ?_⟩
  obtain ⟨T, a, b, rfl, hT, rfl, ea, eb⟩ := y
  have hd' : d = .tuple [xs[i], ys[i]] := by
    unfold zipD at hd
    rw [List.getElem?_zipWith, List.getElem?_eq_getElem i1, List.getElem?_eq_getElem i2] at hd
    exact (Option.some.inj hd).symm
  subst hd'
  obtain ⟨u1, e1, t1⟩ := gp i _ (List.getElem?_eq_getElem i1)
  obtain ⟨u2, e2, t2⟩ := gq i _ (List.getElem?_eq_getElem i2)
  rw [ea] at e1; cases e1
  rw [eb] at e2; cases e2
  have hG : G1 T = none := by
    cases e : G1 T with
    | none => rfl
    | some o => rw [z2 _ _ e] at hT; cases hT
  refine ⟨T, _, hT, rfl, ?_⟩
  have zz : Sub G (upd G1 T (.tup [a, b])) := z1.trans (Sub.new hG)
  simp only [Tp]
  exact ⟨T, [a, b], rfl, .inl (.inl upd_same), .cons (Tp.mono zz _ _ t1) (.cons (Tp.mono zz _ _ t2) .nil)⟩
section
variable {X : Cx} {f f' : XF}
theorem pi_zipF {a b : Expr} {p pos tpos : Pos} {elts : List Expr} {kk : Nat} (hg : Gl X "zip") (hm : X.mg "zip" = none) (ha : PE X a (tXF X.K f)) (hb : PE X b (tXF X.K f')) (hs : notStar a = true) (hs2 : notStar b = true) :
    PI X (.Tuple elts kk tpos) (.Call (.Name "zip" p) [a, b] [] pos) (iAF X.K (wZip f f')) :=
  pi_imp (pi_zip2 hg hm (pa_args (.cons ⟨ha, fun es => star_of hs es _⟩ (.cons ⟨hb, fun es => star_of hs2 es _⟩ .nil))) (star_of hs _ _) (by rw [star_of hs2]; rfl)) fun σ H R q => by
    obtain ⟨P0, G, s, items, s', m, e, k⟩ := q
    obtain ⟨⟨ws, s1⟩, e1, e⟩ := Rs.bind_inv e
    match ws, e with
    | [x, y], e =>
      obtain ⟨xs, e2, e⟩ := Rs.bind_inv e
      obtain ⟨ys, e3, e⟩ := Rs.bind_inv e
      cases e
      refine ⟨P0, G, s, [x, y], s1, m, e1, fun vs H1 G1 x1 m1 t => ?_⟩
      obtain ⟨v, r, rfl, t1, t⟩ := (by simpa [TpL] using t : ∃ v r, vs = v :: r ∧ Tp X.K G1 x v ∧ ∃ v' , r = [v'] ∧ Tp X.K G1 y v')
      obtain ⟨v', rfl, t2⟩ := t
      obtain ⟨pp, rfl, o1, l1, g1⟩ := src_of t1 (gv_inv e2)
      obtain ⟨qq, rfl, o2, l2, g2⟩ := src_of t2 (gv_inv e3)
      exact ⟨pp, qq, rfl, o1 _ m1.fro, o2 _ m1.fro, k _ H1 G1 x1 m1 (walks_zip o1 o2 l1 l2 g1 g2)⟩
end
end Ek

/-! ## U: enumerate, [::-1], bit_length, dicts of the module, targets with places -/
namespace Ek
open PySem PySem.Spec PyProof.Rows L2
/-! ### enumerate -/
set_option maxHeartbeats 4000000 in
theorem meets_enum1 {v : Value} {o : Obj} {H : Heap → Prop} (B : Begins v o H) :
    Meets (Builtin.«enumerate.__new__» ⟨[.type "enumerate", v], []⟩) (fun _ R s => H s.heap ∧
      R (.ok (.ret (.ref (s.heap.push o).objs.size))) { s with heap := (s.heap.push o).push { cls := .type "enumerate", data := .fields #[.none, .bool false, .ref s.heap.objs.size, rawInt 0, .none, .none] } }) :=
  .of_wp fun prog w A R s h => by
    obtain ⟨hp, g, d, tk, os⟩ := s; obtain ⟨h1, h⟩ := h
    have hsub := sub_enumerate
    have q1 : ∀ {A' : Around} {E : Value → Shared → Prop} {Q : Value → Shared → Prop}, Q (.ref hp.objs.size) ⟨hp.push o, g, d, tk, os⟩ → wpAny (model prog w) A' (pyIter v) Q E ⟨hp, g, d, tk, os⟩ :=
      fun q => B.iter prog w _ _ ⟨hp, g, d, tk, os⟩ _ h1 q
    wp_walk using q1
    refine wpAny_stack_any fun st => wpAny_pure ?_
    split
    · rename_i c _ _ _ _ _
      cases (c == Value.type "enumerate")
      · wp_walk using q1
        exact ⟨_, rfl, h⟩
      · wp_walk using q1
        exact ⟨_, rfl, h⟩
    · wp_walk using q1
      exact ⟨_, rfl, h⟩
theorem enum1_begins {prog : Program} {w : World} {A : Around} {E : Value → Shared → Prop} {s : Shared} {v : Value} {o : Obj} {H : Heap → Prop} {Q : Value → Shared → Prop} (B : Begins v o H) (h1 : H s.heap)
    (h : ∀ h', IsEnum h' (s.heap.objs.size + 1) s.heap.objs.size 0 .none → h'.get? s.heap.objs.size = some o → h'.objs.size = s.heap.objs.size + 2 →
      (∀ b o, s.heap.get? b = some o → h'.get? b = some o) → Q (.ref (s.heap.objs.size + 1)) { s with heap := h' }) :
    wpAny (model prog w) A (call (.type "enumerate") [v]) Q E s := by
  refine callType_new F.called_enumerate (by decide) (F.typeCall_enumerate_1 _) (F.newCall_enumerate_1 _) (fun obj => F.args_object_init_2 obj _) F.entry_enumerate_new
    (meets_enum1 B) ⟨h1, ?_⟩
  have hz : (s.heap.push o).objs.size = s.heap.objs.size + 1 := Heap.size_push ..
  show _ ∧ _
  rw [hz]
  have he : IsEnum ((s.heap.push o).push { cls := .type "enumerate", data := .fields #[.none, .bool false, .ref s.heap.objs.size, rawInt 0, .none, .none] }) (s.heap.objs.size + 1) s.heap.objs.size 0 .none := by
    have := Heap.get?_push_size (s.heap.push o) (o := { cls := .type "enumerate", data := .fields #[.none, .bool false, .ref s.heap.objs.size, rawInt 0, .none, .none] }) rfl
    rw [hz] at this; exact this
  refine ⟨⟨_, he, rfl⟩, h _ he (Heap.get?_push_of_some _ (Heap.get?_push_size _ B.free)) (by rw [Heap.size_push, hz]) fun b o x => Heap.get?_push_of_some _ (Heap.get?_push_of_some _ x)⟩
def ItE (K : PySem.W.Frag) (p : Src) : It :=
  ⟨fun i H => p.on K H ∧ i < p.vs.length,
    fun i H v H' => ∃ T x, v = .ref T ∧ H T = none ∧ H' = upd H T (.tup [.int (i : Int), x]) ∧ p.vs[i]? = some x,
    fun i H => p.on K H ∧ p.vs.length ≤ i⟩
def fpE (N : Nat) : List Addr := [N + 1, N]
def stE (N : Nat) (p : Src) (i : Nat) (h : Heap) : Prop := i ≤ p.vs.length ∧ (∃ old, IsEnum h (N + 1) N (0 + (i : Int)) old) ∧ p.it N i h
theorem turn_enum2 {P : Program} {w : World} {K : PySem.W.Frag} {elts : List Expr} {kk : Nat} {tpos : Pos} {N : Nat} {p : Src} (hp : p.lt N) :
    Turn P w K (.Tuple elts kk tpos) (ItE K p) (fpE N) (N + 1) (stE N p) where
  mem := by simp [fpE]
  obj := fun i h st c hc => by
    obtain ⟨_, ⟨old, he⟩, h1⟩ := st
    have e' : c = N + 1 ∨ c = N := by simpa [fpE] using hc
    rcases e' with z | z
    · rw [z]; exact ⟨_, he, fun v q => nomatch q⟩
    · rw [z]; exact Src.it_obj h1
  keep := fun i h h' st k => by
    obtain ⟨hi, ⟨old, he⟩, h1⟩ := st
    exact ⟨hi, ⟨old, k _ (by simp [fpE]) _ he⟩, Src.it_keep h1 fun o e => k _ (by simp [fpE]) o e⟩
  item := by
    intro X hP hw hK hc i pins s σ H E I hf st hg
    subst hP hw hK
    obtain ⟨hi, he, h1⟩ := st
    obtain ⟨o1, l1⟩ := hg
    have hh : X.A.in1.handled = none := I.ok.hd hc
    obtain ⟨f1, P1, S1, g1, D1, s1, b1, r1⟩ := Src.draws (A := X.A.in1) I hh hp (Nat.le_refl _) o1 h1
    have W := WalksT.enumFrom 0 D1 (N + 1) (Nat.succ_ne_self _) (notIn_new (j := 1) (i := 0) g1 (by omega)) (List.mem_cons_self ..)
    refine W.item i s _ _ l1 ⟨he, s1⟩ fun T vals h' tk hPt hT hIs hM hk => ?_
    refine ⟨_, rfl, W.go elts kk tpos i T { s with heap := h', toks := tk } _ _ hM fun h'' st' hk2 => ?_⟩
    obtain ⟨t, u, q1, rfl⟩ := hPt
    obtain ⟨x, e1, ru⟩ := r1 _ _ q1
    have hap := W.apart _ _ _ hM
    have hT2 : h''.IsTuple T #[.int (0 + (i : Int)) t, u] := hIs.at fun o e => hk2 T o hap e
    have ri : RelV (.int (i : Int)) (.int (0 + (i : Int)) t) := ⟨t, by rw [Int.zero_add]⟩
    have new : ObjOk X.prog X.w (upd H T (.tup [.int (i : Int), x])) h'' T (.tup [.int (i : Int), x]) :=
      ⟨by show 2 ≤ sizeLine; decide, [.int (0 + (i : Int)) t, u], .cons ri (.cons ru .nil), hT2⟩
    have I1 : Inv X pins σ (upd H T (.tup [.int (i : Int), x])) { s with heap := h'', toks := tk } :=
      I.turnedNew (t' := tk) (ch := fpE N) (fun c o hb e => hk2 c o hb (hk c o hb e)) hf hT new
    obtain ⟨z1, z2⟩ := st'
    refine ⟨.ref T, _, I1, rfl, ⟨_, x, rfl, I.hok.fresh hT, rfl, e1⟩, ⟨by omega, z1, b1 _ _ z2⟩, fun c hcm => ?_⟩
    have hlt : c < s.heap.objs.size := by
      obtain ⟨old, he⟩ := he
      have e' : c = N + 1 ∨ c = N := by simpa [fpE] using hcm
      have hN1 : N + 1 < s.heap.objs.size := Heap.lt_size he
      rcases e' with z | z <;> rw [z]
      · exact hN1
      · exact Nat.lt_of_succ_lt hN1
    rw [upd_ne (Nat.ne_of_lt (Nat.lt_of_lt_of_le hlt hT))]
    exact (hf c hcm).1
  done := by
    intro X hP hw hK hc i pins s σ H E I hf st hg
    subst hP hw hK
    obtain ⟨hi, he, h1⟩ := st
    obtain ⟨o1, hend⟩ := hg
    have hh : X.A.in1.handled = none := I.ok.hd hc
    obtain ⟨f1, P1, S1, g1, D1, s1, b1, r1⟩ := Src.draws (A := X.A.in1) I hh hp (Nat.le_refl _) o1 h1
    have W := WalksT.enumFrom 0 D1 (N + 1) (Nat.succ_ne_self _) (notIn_new (j := 1) (i := 0) g1 (by omega)) (List.mem_cons_self ..)
    have ei : i = p.vs.length := by omega
    subst ei
    exact W.done s _ _ ⟨he, s1⟩ fun h' tk hk => ⟨rfl, I.turnedL (t' := tk) (ch := fpE N) (fun c o hb e => hk c o hb e) hf⟩
  self := fun A i s Q E st h => by
    obtain ⟨_, ⟨old, he⟩, _⟩ := st
    exact wpAny_pyIter_enum he h
def iE2 (K : PySem.W.Frag) (ta : TA) : TI := fun σ H R => ta σ H fun vs H1 => ∃ p : Src, vs = [p.v] ∧ p.on K H1 ∧ R (ItE K p) H1
theorem pi_enum2 {X : Cx} {e : Expr} {ta : TA} {p pos tpos : Pos} {elts : List Expr} {kk : Nat} (hg : Gl X "enumerate") (hm : X.mg "enumerate" = none) (ha : PA X [e] ta)
    (hs : starEach [e] X.env = [(false, eval e X.env)]) :
    PI X (.Tuple elts kk tpos) (.Call (.Name "enumerate" p) [e] [] pos) (iE2 X.K ta) := by
  refine ⟨fun pins s σ H R I h => ?_⟩
  refine Call_ (ld_blt I hg hm boot_enumerate (PyProof.Rows.callWith_type1 (thn (ha.run pos pins s σ H _ I h) fun us s1 ⟨vs, H1, I1, r1, q1⟩ => ?_) hs rfl))
  obtain ⟨a, ex, oa, q⟩ := q1
  subst ex
  cases r1 with
  | cons r rr =>
    cases rr
    obtain ⟨o1, K1, B1, k1, l1, i1⟩ := Src.begins I1 oa r
    refine enum1_begins B1 k1 fun h' he e1 hsz hk => wpAny_pyIter_enum he ?_
    have I2 : Inv X pins σ H1 { s1 with heap := h' } := I1.kept (t' := s1.toks) hk
    refine ⟨s1.heap.objs.size + 1, fpE s1.heap.objs.size, stE s1.heap.objs.size a, _, H1, rfl, I2, turn_enum2 l1, ⟨Nat.zero_le _, ⟨_, he⟩, i1 _ _ e1⟩, fun c hcm => ?_, q⟩
    have hle : s1.heap.objs.size ≤ c := by
      have e' : c = s1.heap.objs.size + 1 ∨ c = s1.heap.objs.size := by simpa [fpE] using hcm
      rcases e' with z | z <;> rw [z]
      · exact Nat.le_add_right _ _
      · exact Nat.le_refl _
    exact I1.fpOk hle (I1.hok.fresh hle)
theorem enumD_get : ∀ {xs : List D} {k : Int} {i : Nat} {d : D}, (enumD k xs)[i]? = some d → ∃ x, xs[i]? = some x ∧ d = .tuple [.int (k + i), x]
  | [], _, _, _, h => by simp [enumD] at h
  | x :: xs, k, 0, d, h => by
    simp [enumD] at h
    exact ⟨x, rfl, by rw [← h]; simp⟩
  | x :: xs, k, i + 1, d, h => by
    simp only [enumD, List.getElem?_cons_succ] at h
    obtain ⟨y, e, q⟩ := enumD_get h
    refine ⟨y, by simpa using e, ?_⟩
    rw [q]
    congr 3
    omega
theorem enumD_len : ∀ {xs : List D} {k : Int}, (enumD k xs).length = xs.length
  | [], _ => rfl
  | x :: xs, k => by simp [enumD, enumD_len (xs := xs)]
theorem walks_enum {K : PySem.W.Frag} {G : Hp} {p : Src} {xs : List D} (hp : ∀ H, Sub G H → p.on K H) (lp : p.vs.length = xs.length)
    (gp : ∀ (i : Nat) d, xs[i]? = some d → ∃ u, p.vs[i]? = some u ∧ Tp K G d u) : Walks K G (ItE K p) (enumD 0 xs) := fun i G1 H1 z1 z2 => by
  have z := z1.trans z2
  have hl : (enumD 0 xs).length = xs.length := enumD_len
  refine ⟨fun d hd => ?_, fun hi => ⟨hp _ z, by omega⟩⟩
  have hi := (List.getElem?_eq_some_iff.mp hd).1
  refine ⟨⟨hp _ z, by omega⟩, fun v H' y => .inr ?_⟩
  obtain ⟨T, a, rfl, hT, rfl, ea⟩ := y
  obtain ⟨x, hx, hd'⟩ := enumD_get hd
  rw [Int.zero_add] at hd'
  subst hd'
  obtain ⟨u1, e1, t1⟩ := gp i _ hx
  rw [ea] at e1; cases e1
  have hG : G1 T = none := by
    cases e : G1 T with
    | none => rfl
    | some o => rw [z2 _ _ e] at hT; cases hT
  refine ⟨T, _, hT, rfl, ?_⟩
  have zz : Sub G (upd G1 T (.tup [.int (i : Int), a])) := z1.trans (Sub.new hG)
  simp only [Tp]
  exact ⟨T, [.int (i : Int), a], rfl, .inl (.inl upd_same), .cons tp_int (.cons (Tp.mono zz _ _ t1) .nil)⟩
section
variable {X : Cx} {f f' : XF} {a b : Expr} {fa fb : OF} {pos p : Pos}
theorem pi_enumF {tpos : Pos} {elts : List Expr} {kk : Nat} (hg : Gl X "enumerate") (hm : X.mg "enumerate" = none) (ha : PE X a (tXF X.K f)) (hs : notStar a = true) :
    PI X (.Tuple elts kk tpos) (.Call (.Name "enumerate" p) [a] [] pos) (iAF X.K (wEnum f)) :=
  pi_imp (pi_enum2 hg hm (pa_args (.cons ⟨ha, fun es => star_of hs es _⟩ .nil)) (star_of hs _ _)) fun σ H R q => by
    obtain ⟨P0, G, s, items, s', m, e, k⟩ := q
    obtain ⟨⟨x, s1⟩, e1, e⟩ := Rs.bind_inv e
    obtain ⟨xs, e2, e⟩ := Rs.bind_inv e
    cases e
    refine ⟨P0, G, s, [x], s1, m, by show (cFz f s).bind _ = _; rw [e1]; rfl, fun vs H1 G1 x1 m1 t => ?_⟩
    obtain ⟨v, rfl, t1⟩ := (by simpa [TpL] using t : ∃ v, vs = [v] ∧ Tp X.K G1 x v)
    obtain ⟨pp, rfl, o1, l1, g1⟩ := src_of t1 (gv_inv e2)
    exact ⟨pp, rfl, o1 _ m1.fro, k _ H1 G1 x1 m1 (walks_enum o1 l1 g1)⟩
/-! ### x[::-1] -/
theorem revPlaces (n : Nat) : Builtin.Slice.sliceAdjust none none (-1) (n : Int) = ((n : Int) - 1, -1) ∧ Builtin.Slice.slicePlaces ((n : Int) - 1) (-1) (-1) = n := by
  constructor
  · unfold Builtin.Slice.sliceAdjust
    simp
  · unfold Builtin.Slice.slicePlaces
    have h1 : ¬ ((-1 : Int) > 0) := by omega
    simp only [h1, if_false]
    split <;> simp <;> omega
theorem fm_congr {α β : Type} {f g : α → Option β} : ∀ {l : List α}, (∀ x ∈ l, f x = g x) → l.filterMap f = l.filterMap g
  | [], _ => rfl
  | x :: l, h => by
    rw [List.filterMap_cons, List.filterMap_cons, h x List.mem_cons_self, fm_congr fun y hy => h y (List.mem_cons_of_mem _ hy)]
theorem revPick (xs : Array Value) : ((List.range xs.size).filterMap fun (m : Nat) => xs[(((xs.size : Int) - 1) + (m : Int) * (-1)).toNat]?).toArray = xs.toList.reverse.toArray := by
  congr 1
  apply List.ext_getElem?
  intro i
  have e : (List.range xs.size).filterMap (fun (m : Nat) => xs[(((xs.size : Int) - 1) + (m : Int) * (-1)).toNat]?) = (List.range xs.size).map (fun m => xs[xs.size - 1 - m]?.getD .none) := by
    rw [fm_congr (g := fun m => some (xs[xs.size - 1 - m]?.getD .none))]
    · rw [← List.filterMap_eq_map]; rfl
    · intro m hm
      have hm' := List.mem_range.mp hm
      have : (((xs.size : Int) - 1) + (m : Int) * (-1)).toNat = xs.size - 1 - m := by omega
      rw [this]
      have h : xs.size - 1 - m < xs.size := by omega
      rw [Array.getElem?_eq_getElem h]
      rfl
  rw [e]
  by_cases hi : i < xs.size
  · rw [List.getElem?_map, List.getElem?_range hi, List.getElem?_reverse (by simpa using hi)]
    have h : xs.size - 1 - i < xs.size := by omega
    simp [Array.getElem?_eq_getElem h]
  · rw [List.getElem?_eq_none (by simpa using hi), List.getElem?_eq_none (by simpa using hi)]
theorem getItem_tuple_rev {prog : Program} {w : World} {A : Around} {E : Value → Shared → Prop} {s : Shared} {t sl : Addr} {items : Array Value} {vl vu vs : Value} {Q : Value → Shared → Prop} (ht : IsTup s.heap t items) (hs : s.heap.IsSliceOf sl vl vu vs) (pl : IsPart vl none) (pu : IsPart vu none) (ps : IsPart vs (some (-1)))
    (h : Q (.ref s.heap.objs.size) { s with heap := s.heap.push { cls := .type "tuple", data := .seq items.toList.reverse.toArray } })
    (hsz : items.size ≤ sizeLine) : wpAny (model prog w) A (getItem (.ref t) (.ref sl)) Q E s := by
  have htake : sizeOk (.seq items.toList.reverse.toArray) := by
    show items.toList.reverse.toArray.size ≤ sizeLine
    rw [List.size_toArray, List.length_reverse, Array.length_toList]
    exact hsz
  obtain ⟨os, hos, hcs, hds⟩ := id hs
  have hTs : s.TypeIs (.ref sl) "slice" := ⟨os, hos, hcs⟩
  unfold getItem
  try with_reducible refine wpAny_holding ?_
  first | refine wpAny_bind (wpAny_pure ?_) | skip
  refine wpAny_bind (wpAny_sequenceKey ht.typeIs (by decide) ?_)
  refine wpAny_bind (wpAny_callSpecial?_slot (name := Str.ofString "__getitem__") ht.typeIs PyProof.Rows.slot_tuple_getitem
    (wpAny_call_entry PyProof.Rows.slot_tuple_getitem ht.typeIs entry_tuple_getitem ?_ (args_tuple_getitem _ _)))
  show wpAny _ _ (Builtin.Tuple.tupleItemsOf (.ref t) >>= _) _ _ s
  refine wpAny_bind (tupleItemsOf_ ht ?_)
  refine wpAny_bind (wpAny_typeOf hTs ?_)
  rw [if_pos (by decide)]
  have happ : ∀ {Q : Int × Int × Nat → Shared → Prop}, Q ((items.size : Int) - 1, -1, items.size) s → wpAny (model prog w) A.in1 (Builtin.Slice.sliceApplied (.ref sl) (pure (items.size : Int))) Q E s := fun {Q} h => by
    unfold Builtin.Slice.sliceApplied Builtin.Slice.sliceFields
    refine wpAny_bind (wpAny_bind (wpAny_field hos hds (x := vl) rfl (wpAny_bind (wpAny_field hos hds (x := vu) rfl (wpAny_bind (wpAny_field hos hds (x := vs) rfl (wpAny_pure ?_)))))))
    refine wpAny_bind (HT.slicePart_ ps ?_)
    show wpAny _ _ (if ((-1 : Int) == 0) = true then _ else _) _ _ s
    rw [if_neg (by decide)]
    refine wpAny_bind (HT.slicePart_ pl (wpAny_bind (HT.slicePart_ pu (wpAny_bind (wpAny_pure ?_)))))
    show wpAny _ _ (match Builtin.Slice.sliceAdjust none none (-1) (items.size : Int) with | (lo, hi) => pure (lo, (-1 : Int), Builtin.Slice.slicePlaces lo hi (-1))) _ _ s
    rw [(revPlaces items.size).1]
    show wpAny _ _ (pure ((items.size : Int) - 1, (-1 : Int), Builtin.Slice.slicePlaces ((items.size : Int) - 1) (-1) (-1))) _ _ s
    rw [(revPlaces items.size).2]
    exact wpAny_pure h
  refine wpAny_bind (happ ?_)
  have hno : ¬ ((((items.size : Int) - 1) == 0 && (-1 : Int) == 1 && items.size == items.size) = true) := by
    intro q
    rw [Bool.and_eq_true, Bool.and_eq_true] at q
    have := eq_of_beq q.1.2
    omega
  show wpAny _ _ (if (((items.size : Int) - 1) == 0 && (-1 : Int) == 1 && items.size == items.size) = true then _ else _) _ _ s
  rw [if_neg hno, revPick]
  first
    | exact wpAny_bind (m := Builtin.Tuple.tupleExact _) (wpAny_newObj_type (wpAny_pure ⟨_, rfl, wpAny_pure h⟩) htake)
    | exact wpAny_bind (m := Builtin.Tuple.tupleExact _) (wpAny_newObj_type (wpAny_bind (wpAny_pure (wpAny_pure ⟨_, rfl, wpAny_pure h⟩))) htake)
    | exact wpAny_bind (wpAny_bind (m := Builtin.Tuple.tupleExact _) (wpAny_newObj_type (wpAny_pure (wpAny_pure ⟨_, rfl, wpAny_pure h⟩)) htake))
    | exact wpAny_bind (wpAny_bind (m := Builtin.Tuple.tupleExact _) (wpAny_newObj_type (wpAny_pure ⟨_, rfl, wpAny_pure h⟩) htake))
def tRevT (K : PySem.W.Frag) (te : TE) : TE := fun σ H Q => te σ H fun x H1 => ∃ a xs, x = .ref a ∧ SqT K H1 a xs ∧ ∀ p, H1 p = none → Q (.ref p) (upd H1 p (.tup xs.reverse))
theorem pe_revT {e : Expr} {te : TE} {k : Nat} {p1 p2 p3 pos : Pos} (he : PE X e te) : PE X (.Subscript e (.Slice none none (some (.UnaryOp .USub (.Constant (.int 1) k p1) p2)) p3) pos) (tRevT X.K te) := by
  refine ⟨fun pins s σ H Q I h => ?_⟩
  refine Subscript_ (thn (he.run pins s σ H _ I h) fun v s1 ⟨x, H1, I1, r1, q1⟩ => ?_)
  obtain ⟨a, xs, ex, hx, q⟩ := q1
  subst ex
  cases r1
  have hst : PO X (some (.UnaryOp .USub (.Constant (.int 1) k p1) p2)) (tPart (tUn (rU fun i => .int (-i)) (tC (.int 1)))) := po_some (pe_un un_neg pe_int)
  refine wpAny_Slice (thn (po_none.run pins s1 σ H1 (fun o H2 => o = none ∧ H2 = H1) I1 ⟨rfl, rfl⟩) fun vl s2 ⟨l, H2, I2, pl, el, e2⟩ => ?_)
  subst el e2
  refine thn (po_none.run pins s2 σ H2 (fun o H3 => o = none ∧ H3 = H2) I2 ⟨rfl, rfl⟩) fun vu s3 ⟨u, H3, I3, pu, eu, e3⟩ => ?_
  subst eu e3
  refine thn (hst.run pins s3 σ H3 (fun o H4 => o = some (-1) ∧ H4 = H3) I3 ⟨1, rfl, -1, rfl, rfl, rfl⟩) fun vs s4 ⟨o, H4, I4, ps, eo, e4⟩ => ?_
  subst eo e4
  have I5 : Inv X pins σ H4 { s4 with heap := s4.heap.push { cls := .type "slice", data := .fields #[vl, vu, vs] } } := I4.kept (t' := s4.toks) fun b ob q => Heap.get?_push_of_some _ q
  obtain ⟨its, r, ht, hz⟩ := I5.tuple hx
  have hlen := r.length
  show wpAny (model X.prog X.w) X.A (subscriptTail e (.Slice none none (some (.UnaryOp .USub (.Constant (.int 1) k p1) p2)) p3) (.ref a) (.ref s4.heap.objs.size)) (EP X pins σ Q) X.xe { s4 with heap := s4.heap.push { cls := .type "slice", data := .fields #[vl, vu, vs] } }
  refine tail_any (ops := [.ref a, .ref s4.heap.objs.size]) ht.typeIs (PyProof.Rows.slot_tuple_getitem.lookup) ?_ (by with_unfolding_all rfl)
  refine getItem_tuple_rev ht (Heap.IsSliceOf.new _ vl vu vs) pl pu ps ?_ (by rw [List.size_toArray]; omega)
  refine ⟨.ref _, _, I5.laid (t' := s4.toks) (o := .tup xs.reverse) (fun b ob q => Heap.get?_push_of_some _ q) (Nat.le_refl _) ?_, rfl, q _ (I5.hok.fresh (Nat.le_refl _))⟩
  exact ⟨by rw [List.length_reverse]; exact hz, _, r.reverse, IsTup.new _ _⟩
theorem px_rev {k : Nat} {p1 p2 p3 : Pos} (ha : PE X a (tOF X.K fa)) : PE X (.Subscript a (.Slice none none (some (.UnaryOp .USub (.Constant (.int 1) k p1) p2)) p3) pos) (tXF X.K (cUn dRev fa)) := by
  refine ⟨fun pins s σ H Q I h => ?_⟩
  obtain ⟨P0, G, st, r, st', m, e, kk⟩ := h
  obtain ⟨q, e1, e⟩ := Rs.bind_inv e
  obtain ⟨x, e2, e⟩ := Rs.bind_inv e
  obtain ⟨y, e3, e⟩ := Rs.bind_inv e
  cases e
  have e3 := gv_inv e3
  cases x with
  | list xs =>
    cases e3
    refine (pe_revL ha).run pins s σ H Q I ⟨P0, G, st, q.1, q.2, m, e1, fun v H1 G1 x1 m1 o1 => ?_⟩
    obtain ⟨b, vs, rfl, hb, t⟩ := deref_tq m1 o1 (gv_inv e2)
    exact ⟨b, vs, rfl, .inl (.of hb), fun l hl => Post.lst m1 t.reverse (fun v' H' G' x2 m2 r2 => kk v' H' G' (x1.trans x2) m2 r2) hl⟩
  | tuple xs =>
    cases e3
    refine (pe_revT ha).run pins s σ H Q I ⟨P0, G, st, q.1, q.2, m, e1, fun v H1 G1 x1 m1 o1 => ?_⟩
    obtain ⟨b, vs, rfl, hb, t⟩ := tq_tup (deref_tq m1 o1 (gv_inv e2))
    exact ⟨b, vs, rfl, m1.fro.sqt hb, fun l hl => Post.tup m1 t.reverse (fun v' H' G' x2 m2 r2 => kk v' H' G' (x1.trans x2) m2 r2) hl⟩
  | _ => cases e3
/-! ### methods without arguments -/
theorem px_meth0 {n : String} {apos : Pos} (ha : PE X a (tOF X.K fa)) (hn : n = "bit_length") (hb : plainBase a = true) (hline : (apos.endLine == pos.line) = true) :
    PE X (.Call (.Attribute a (Str.ofString n) apos) [] [] pos) (tXF X.K (cMeth0 n fa)) := by
  subst hn
  refine ⟨fun pins s σ H Q I h => ?_⟩
  obtain ⟨P0, G, st, r, st', m, e, kk⟩ := h
  obtain ⟨q, e1, e⟩ := Rs.bind_inv e
  obtain ⟨x, e2, e⟩ := Rs.bind_inv e
  obtain ⟨y, e3, e⟩ := Rs.bind_inv e
  cases e
  have e3 := gv_inv e3
  refine (pe_bits ha (base_of hb _ _ _) hline).run pins s σ H Q I ⟨P0, G, st, q.1, q.2, m, e1, fun v H1 G1 x1 m1 o1 => ?_⟩
  have t := derefD_tp m1 o1 (gv_inv e2)
  cases x with
  | int i =>
    cases e3
    simp [Tp] at t
    subst t
    exact ⟨i, rfl, kk _ H1 G1 x1 m1 rr_int⟩
  | _ => cases e3
/-! ### dicts of the module -/
/-- a dict of the module -/
structure DictOk (X : Cx) (x : Str) (kvs : List (Str × D)) : Prop where
  ex : ∃ a es n, X.mg x = some (.ref a) ∧ KDict X.K X.w a es n ∧ ∀ k, (kvs.lookup k = none ∧ PySem.W.nsIn X.K a k = some none) ∨ ∃ d u v, kvs.lookup k = some d ∧ PySem.W.nsIn X.K a k = some (some u) ∧ RelV v u ∧ Tp X.K (fun _ => none) d v
theorem none_sub {G : Hp} : Sub (fun _ => none) G := fun _ _ h => by cases h
theorem px_dix {id : Str} {kvs : List (Str × D)} (hg : Gl X id) (hd : (id == ("__debug__" : Str)) = false) (hk : DictOk X id kvs) (hb : PE X b (tOF X.K fb)) (hs : notSl b = true) : PE X (.Subscript (.Name id p) b pos) (tXF X.K (cDix kvs fb)) := by
  obtain ⟨a, es, n, hm, KD, hl⟩ := hk.ex
  refine pe_imp (pe_ix ix_kdict (pe_glob (v := .ref a) hg hm rfl hd) hb (plain_ix hs)) fun σ H Q q => ?_
  obtain ⟨P0, G, s, o, s', m, e, k⟩ := q
  obtain ⟨w, e1, e⟩ := Rs.bind_inv e
  obtain ⟨x, e2, e⟩ := Rs.bind_inv e
  refine ⟨P0, G, s, w.1, w.2, m, e1, fun v H1 G1 x1 m1 o1 => ?_⟩
  have t := deref_tq m1 o1 (gv_inv e2)
  cases x with
  | str z =>
    obtain ⟨r, e3, e⟩ := Rs.bind_inv e
    cases e
    rcases hl z with ⟨h1, _⟩ | ⟨d, u, v', h1, h2, h3, h4⟩
    · rw [h1] at e3; cases e3
    · have e3 := gv_inv e3
      rw [h1] at e3; cases e3
      exact ⟨a, z, v', rfl, tq_str t, ⟨es, n, u, KD.at_, KD.lit, h2, h3⟩, k v' H1 G1 x1 m1 (Tp.mono none_sub _ _ h4)⟩
  | _ => cases e
theorem din_rel {id : Str} {kvs : List (Str × D)} {A : Addr} (hl : ∀ k, (kvs.lookup k = none ∧ PySem.W.nsIn X.K A k = some none) ∨ ∃ d u v, kvs.lookup k = some d ∧ PySem.W.nsIn X.K A k = some (some u) ∧ RelV v u ∧ Tp X.K (fun _ => none) d v) (z : Str) :
    ∃ r, PySem.W.nsIn X.K A z = some r ∧ r.isSome = (kvs.lookup z).isSome := by
  rcases hl z with ⟨h1, h2⟩ | ⟨d, u, v, h1, h2, _, _⟩
  · exact ⟨_, h2, by rw [h1]; rfl⟩
  · exact ⟨_, h2, by rw [h1]; rfl⟩
theorem cDin_inv {neg : Bool} {kvs : List (Str × D)} {s : S} {r : R × S} (e : cDin neg kvs fa s = .ok r) : ∃ w z, fa s = .ok w ∧ deref w.1 w.2 = some (.str z) ∧ r = (.d (.bool (cond neg (!(kvs.lookup z).isSome) (kvs.lookup z).isSome)), w.2) := by
  obtain ⟨w, e1, e⟩ := Rs.bind_inv e
  obtain ⟨x, e2, e⟩ := Rs.bind_inv e
  cases x with
  | str z => cases e; exact ⟨w, z, e1, gv_inv e2, rfl⟩
  | _ => cases e
theorem px_din {id : Str} {kvs : List (Str × D)} (hg : Gl X id) (hd : (id == ("__debug__" : Str)) = false) (hk : DictOk X id kvs) (ha : PE X a (tOF X.K fa)) (hm' : behindInMarks .In (.Name id p) = false) : PE X (.Compare a [.In] [.Name id p] pos) (tXF X.K (cDin false kvs fa)) := by
  obtain ⟨A, es, n, hm, KD, hl⟩ := hk.ex
  refine pe_imp (pe_cmpR (op_in_kd KD) ha (pe_glob (v := .ref A) hg hm rfl hd) hm') fun σ H Q q => ?_
  obtain ⟨P0, G, s, o, s', m, e, k⟩ := q
  obtain ⟨w, z, e1, e2, e3⟩ := cDin_inv e
  refine ⟨P0, G, s, w.1, w.2, m, e1, fun v H1 G1 x1 m1 o1 => ?_⟩
  obtain ⟨r, h1, h2⟩ := din_rel (id := id) hl z
  cases e3
  refine ⟨z, r, tq_str (deref_tq m1 o1 e2), rfl, h1, ?_⟩
  rw [h2]
  exact k _ H1 G1 x1 m1 rr_bool
theorem px_dnin {id : Str} {kvs : List (Str × D)} (hg : Gl X id) (hd : (id == ("__debug__" : Str)) = false) (hk : DictOk X id kvs) (ha : PE X a (tOF X.K fa)) (hm' : behindInMarks .NotIn (.Name id p) = false) : PE X (.Compare a [.NotIn] [.Name id p] pos) (tXF X.K (cDin true kvs fa)) := by
  obtain ⟨A, es, n, hm, KD, hl⟩ := hk.ex
  refine pe_imp (pe_cmpR (op_notIn_kd KD) ha (pe_glob (v := .ref A) hg hm rfl hd) hm') fun σ H Q q => ?_
  obtain ⟨P0, G, s, o, s', m, e, k⟩ := q
  obtain ⟨w, z, e1, e2, e3⟩ := cDin_inv e
  refine ⟨P0, G, s, w.1, w.2, m, e1, fun v H1 G1 x1 m1 o1 => ?_⟩
  obtain ⟨r, h1, h2⟩ := din_rel (id := id) hl z
  cases e3
  refine ⟨z, r, tq_str (deref_tq m1 o1 e2), rfl, h1, ?_⟩
  rw [h2]
  exact k _ H1 G1 x1 m1 rr_bool
theorem pt_din {id : Str} {kvs : List (Str × D)} (hg : Gl X id) (hd : (id == ("__debug__" : Str)) = false) (hk : DictOk X id kvs) (ha : PE X a (tOF X.K fa)) (hm' : behindInMarks .In (.Name id p) = false) : PT X (.Compare a [.In] [.Name id p] pos) (tTF X.K (tBl (cDin false kvs fa))) := by
  obtain ⟨A, es, n, hm, KD, hl⟩ := hk.ex
  refine pt_imp (pt_cmpR (op_in_kd KD) ha (pe_glob (v := .ref A) hg hm rfl hd) hm') fun σ H Q q => ?_
  obtain ⟨P0, G, s, o, s', m, e, k⟩ := q
  obtain ⟨w, z, e1, e2, e3⟩ := cDin_inv (tBl_inv e)
  refine ⟨P0, G, s, w.1, w.2, m, e1, fun v H1 G1 x1 m1 o1 => ?_⟩
  obtain ⟨r, h1, h2⟩ := din_rel (id := id) hl z
  refine ⟨z, r, tq_str (deref_tq m1 o1 e2), rfl, h1, _, rfl, ?_⟩
  rw [h2]
  have e5 : s' = w.2 := (Prod.mk.inj e3).2
  subst e5
  have e4 : o = _ := PyData.bool.inj (R.d.inj (Prod.mk.inj e3).1)
  rw [e4] at k
  exact k H1 G1 x1 m1
theorem pt_dnin {id : Str} {kvs : List (Str × D)} (hg : Gl X id) (hd : (id == ("__debug__" : Str)) = false) (hk : DictOk X id kvs) (ha : PE X a (tOF X.K fa)) (hm' : behindInMarks .NotIn (.Name id p) = false) : PT X (.Compare a [.NotIn] [.Name id p] pos) (tTF X.K (tBl (cDin true kvs fa))) := by
  obtain ⟨A, es, n, hm, KD, hl⟩ := hk.ex
  refine pt_imp (pt_cmpR (op_notIn_kd KD) ha (pe_glob (v := .ref A) hg hm rfl hd) hm') fun σ H Q q => ?_
  obtain ⟨P0, G, s, o, s', m, e, k⟩ := q
  obtain ⟨w, z, e1, e2, e3⟩ := cDin_inv (tBl_inv e)
  refine ⟨P0, G, s, w.1, w.2, m, e1, fun v H1 G1 x1 m1 o1 => ?_⟩
  obtain ⟨r, h1, h2⟩ := din_rel (id := id) hl z
  refine ⟨z, r, tq_str (deref_tq m1 o1 e2), rfl, h1, _, rfl, ?_⟩
  rw [h2]
  have e5 : s' = w.2 := (Prod.mk.inj e3).2
  subst e5
  have e4 : o = _ := PyData.bool.inj (R.d.inj (Prod.mk.inj e3).1)
  rw [e4] at k
  exact k H1 G1 x1 m1
theorem kd_facts {pins : List (Addr × Obj)} {σ : L2.St} {H : Hp} {s : Shared} {A : Addr} {es : Array DictEntry} {n : Nat} (KD : KDict X.K X.w A es n) (I : Inv X pins σ H s) : s.TypeIs (.ref A) "dict" ∧ ∀ b, Value.ref A = .ref b → ∃ ob, s.heap.get? b = some ob ∧ ob.dict = none :=
  ⟨kd_type KD I, fun b e => by cases e; exact ⟨_, I.kIn _ _ KD.at_, rfl⟩⟩
/-- what d.get tells -/
theorem get_val {kvs : List (Str × D)} {A : Addr} {es : Array DictEntry} {n : Nat} (KD : KDict X.K X.w A es n) (hl : ∀ k, (kvs.lookup k = none ∧ PySem.W.nsIn X.K A k = some none) ∨ ∃ d u v, kvs.lookup k = some d ∧ PySem.W.nsIn X.K A k = some (some u) ∧ RelV v u ∧ Tp X.K (fun _ => none) d v) (z : Str) {G : Hp} {d0 : D} {v0 : V} {u0 : Value} (r0 : RelV v0 u0) (t0 : Tp X.K G d0 v0) :
    ∃ v, RelV v ((PySem.findBy Value.isStrOf es z).getD u0) ∧ Tp X.K G ((kvs.lookup z).getD d0) v := by
  rcases hl z with ⟨h1, h2⟩ | ⟨d, u, v, h1, h2, h3, h4⟩
  · rw [PySem.W.find_K KD.at_ h2, h1]
    exact ⟨v0, r0, t0⟩
  · rw [PySem.W.find_K KD.at_ h2, h1]
    exact ⟨v, h3, Tp.mono none_sub _ _ h4⟩
theorem px_dget1 {id : Str} {kvs : List (Str × D)} {apos : Pos} (hg : Gl X id) (hd : (id == ("__debug__" : Str)) = false) (hk : DictOk X id kvs) (ha : PE X a (tXF X.K f)) (hs : notStar a = true) (hline : (apos.endLine == pos.line) = true) :
    PE X (.Call (.Attribute (.Name id p) "get" apos) [a] [] pos) (tXF X.K (cDget kvs [f])) := by
  obtain ⟨A, es, n, hm, KD, hl⟩ := hk.ex
  refine ⟨fun pins s σ H Q I h => ?_⟩
  refine wpAny_Call_method (base_of rfl _ _ _) (few_ok (es := [a]) (by simp [hs]) (by show 1 < 20; decide)) hline PySem.F.plainAttrs_dict PySem.F.slot_dict_get PySem.F.type_dict_get
    (thn ((pe_glob (v := .ref A) hg hm rfl hd).run pins s σ H (fun x H1 => x = .ref A ∧ H1 = H) I ⟨rfl, rfl⟩) fun u s1 ⟨x, H1, I1, rx, ex, eh⟩ => ?_)
  subst ex eh
  obtain rfl : u = Value.ref A := rx
  obtain ⟨t1, t2⟩ := kd_facts KD I1
  refine ⟨t1, t2, ?_⟩
  obtain ⟨P0, G, st, r, st', m, e, k⟩ := h
  obtain ⟨⟨ws, s2⟩, e1, e⟩ := Rs.bind_inv e
  obtain ⟨⟨x1, s3⟩, e2, e1⟩ := Rs.bind_inv e1
  obtain ⟨rfl, rfl⟩ : ws = [x1] ∧ s2 = s3 := by
    have := Rs.ok.inj e1
    exact ⟨(congrArg Prod.fst this).symm, (congrArg Prod.snd this).symm⟩
  rw [show backTo pos (starEach [a] X.env) = [(false, eval a X.env)] by rw [star_of hs]; rfl]
  refine Calls.callWith_builtin rfl (Calls.evalArgs_plain (Calls.spliced_cons (thn ((pz_of ha).run pins s1 σ _ (fun v H2 => ∃ G2, Ext P0 G G2 ∧ Sim X.K P0 G2 s2 σ H2 ∧ Tp X.K G2 x1 v) I1 ⟨P0, G, st, x1, s2, m, e2, fun v H2 G2 x2 m2 t2 => ⟨G2, x2, m2, t2⟩⟩) fun iv s4 ⟨y, H2, I2, ry, G2, x2, m2, t2⟩ => Calls.spliced_nil ?_)))
  cases x1 with
  | str z =>
    cases e
    simp [Tp] at t2
    subst t2
    obtain ⟨t, rfl⟩ := _root_.id ry
    obtain ⟨v, rv, tv⟩ := get_val (X := X) KD hl z (G := G2) (d0 := .none) (v0 := .non) (u0 := .none) rfl tp_none
    refine call_meetsIn PySem.F.slot_dict_get (kd_type KD I2) PySem.F.entry_dict_get (PySem.F.args_dict_get_2 _ _) (meets_dict_get (PySem.strKind X.prog X.w) A (PySem.strKind_is X.prog X.w z t) KD.low) ⟨_, PySem.W.mapOf_K (prog := X.prog) I2.kIn KD.at_ KD.lit, ?_⟩
    exact ⟨v, H2, I2.tok _, rv, k v H2 G2 x2 m2 tv⟩
  | _ => cases e
theorem px_dget2 {id : Str} {kvs : List (Str × D)} {apos : Pos} (hg : Gl X id) (hd : (id == ("__debug__" : Str)) = false) (hk : DictOk X id kvs) (ha : PE X a (tXF X.K f)) (hb : PE X b (tXF X.K f')) (hs : notStar a = true) (hs2 : notStar b = true) (hline : (apos.endLine == pos.line) = true) :
    PE X (.Call (.Attribute (.Name id p) "get" apos) [a, b] [] pos) (tXF X.K (cDget kvs [f, f'])) := by
  obtain ⟨A, es, n, hm, KD, hl⟩ := hk.ex
  refine ⟨fun pins s σ H Q I h => ?_⟩
  refine wpAny_Call_method (base_of rfl _ _ _) (few_ok (es := [a, b]) (by simp [hs, hs2]) (by show 2 < 20; decide)) hline PySem.F.plainAttrs_dict PySem.F.slot_dict_get PySem.F.type_dict_get
    (thn ((pe_glob (v := .ref A) hg hm rfl hd).run pins s σ H (fun x H1 => x = .ref A ∧ H1 = H) I ⟨rfl, rfl⟩) fun u s1 ⟨x, H1, I1, rx, ex, eh⟩ => ?_)
  subst ex eh
  obtain rfl : u = Value.ref A := rx
  obtain ⟨t1, t2⟩ := kd_facts KD I1
  refine ⟨t1, t2, ?_⟩
  obtain ⟨P0, G, st, r, st', m, e, k⟩ := h
  obtain ⟨⟨ws, s2⟩, e1, e⟩ := Rs.bind_inv e
  obtain ⟨⟨x1, s3⟩, e2, e1⟩ := Rs.bind_inv e1
  obtain ⟨⟨xs, s4⟩, e3, e1⟩ := Rs.bind_inv e1
  obtain ⟨⟨x2, s5⟩, e4, e3⟩ := Rs.bind_inv e3
  obtain ⟨rfl, rfl⟩ : xs = [x2] ∧ s4 = s5 := by
    have := Rs.ok.inj e3
    exact ⟨(congrArg Prod.fst this).symm, (congrArg Prod.snd this).symm⟩
  obtain ⟨rfl, rfl⟩ : ws = [x1, x2] ∧ s2 = s4 := by
    have := Rs.ok.inj e1
    exact ⟨(congrArg Prod.fst this).symm, (congrArg Prod.snd this).symm⟩
  rw [show backTo pos (starEach [a, b] X.env) = [(false, eval a X.env), (false, eval b X.env)] by rw [star_of hs, star_of hs2]; rfl]
  refine Calls.callWith_builtin rfl (Calls.evalArgs_plain (Calls.spliced_cons (thn ((pz_of ha).run pins s1 σ _ (fun v H2 => ∃ G2, Ext P0 G G2 ∧ Sim X.K P0 G2 s3 σ H2 ∧ Tp X.K G2 x1 v) I1 ⟨P0, G, st, x1, s3, m, e2, fun v H2 G2 x2 m2 t2 => ⟨G2, x2, m2, t2⟩⟩) fun iv s6 ⟨y, H2, I2, ry, G2, y2, m2, t2⟩ =>
    Calls.spliced_cons (thn ((pz_of hb).run pins s6 σ _ (fun v H3 => ∃ G3, Ext P0 G2 G3 ∧ Sim X.K P0 G3 s2 σ H3 ∧ Tp X.K G3 x2 v) I2 ⟨P0, G2, s3, x2, s2, m2, e4, fun v H3 G3 x3 m3 t3 => ⟨G3, x3, m3, t3⟩⟩) fun iv2 s7 ⟨y', H3, I3, ry', G3, y3, m3, t3⟩ => Calls.spliced_nil ?_))))
  cases x1 with
  | str z =>
    cases e
    simp [Tp] at t2
    subst t2
    obtain ⟨t, rfl⟩ := _root_.id ry
    obtain ⟨v, rv, tv⟩ := get_val (X := X) KD hl z (G := G3) ry' t3
    refine call_meetsIn PySem.F.slot_dict_get (kd_type KD I3) PySem.F.entry_dict_get (PySem.F.args_dict_get_3 _ _ _) (meets_dict_get_default (PySem.strKind X.prog X.w) A (PySem.strKind_is X.prog X.w z t) KD.low iv2) ⟨_, PySem.W.mapOf_K (prog := X.prog) I3.kIn KD.at_ KD.lit, ?_⟩
    exact ⟨v, H3, I3.tok _, rv, k v H3 G3 (y2.trans y3) m3 tv⟩
  | _ => cases e
/-! ### targets with places -/
def gE (K : PySem.W.Frag) (g : GF) (ts : List Nat) : TG := fun v σ H Q => ∃ P0 G s x s', Sim K P0 G s σ H ∧ Tp K G x v ∧ g x s = .ok s' ∧
  ∀ σ' H' G', Ext P0 G G' → Sim K P0 G' s' σ' H' → σ'.length = σ.length → (∀ i, i ∉ ts → σ'[i]? = σ[i]?) → Q σ' H'
def gEs (K : PySem.W.Frag) (gs : List GF) (ts : List Nat) : TGs := fun vs σ H Q => ∃ P0 G s xs s', Sim K P0 G s σ H ∧ TpL K G xs vs ∧ gAll gs xs s = .ok s' ∧
  ∀ σ' H' G', Ext P0 G G' → Sim K P0 G' s' σ' H' → σ'.length = σ.length → (∀ i, i ∉ ts → σ'[i]? = σ[i]?) → Q σ' H'
theorem pg_weak {tg : Expr} {g : GF} {ts : List Nat} (h : PG X tg (gD X.K g ts)) : PG X tg (gE X.K g ts) := pg_imp h fun v σ H Q q => by
  obtain ⟨P0, G, s, x, s', m, t, e, k⟩ := q
  exact ⟨P0, G, s, x, s', m, t, e, fun σ' m' l' k' => k σ' H G .refl m' l' k'⟩
theorem pgs_allE : ∀ {es : List Expr} {gs : List (GF × List Nat)}, Paired (fun e (g : GF × List Nat) => PG X e (gE X.K g.1 g.2) ∧ ∀ es, (assignEach (e :: es) X.env).map (·.2) = assign e X.env :: (assignEach es X.env).map (·.2)) es gs → PGs X es (gEs X.K (gs.map (·.1)) (gs.flatMap (·.2)))
  | [], _, .nil => pgs_imp pgs_nil fun v σ H Q q => by
    obtain ⟨P0, G, s, y, s', m, t, e, k⟩ := q
    obtain ⟨rfl, rfl⟩ := gAll_nil e
    refine ⟨by simpa [TpL] using t, k σ H G .refl m rfl fun i _ => rfl⟩
  | e :: es, _, @Paired.cons _ _ _ _ g _ gs h t => pgs_imp (pgs_cons h.1 (pgs_allE t) (h.2 es)) fun v σ H Q q => by
    obtain ⟨P0, G, s, y, s', m, ty, ee, k⟩ := q
    obtain ⟨x, r, s1, rfl, e1, e2⟩ := gAll_cons ee
    simp only [TpL] at ty
    obtain ⟨w, ws, rfl, t1, t2⟩ := ty
    refine ⟨w, ws, rfl, P0, G, s, x, s1, m, t1, e1, fun σ1 H1 G1 x1 m1 l1' k1 => ⟨P0, G1, s1, r, s', m1, TpL.mono x1.1 _ _ t2, e2, fun σ2 H2 G2 x2 m2 l2' k2 => k σ2 H2 G2 (x1.trans x2) m2 (l2'.trans l1') fun i hi => ?_⟩⟩
    simp only [List.flatMap_cons, List.mem_append, not_or] at hi
    rw [k2 i hi.2, k1 i hi.1]
theorem pg_unpE {es : List Expr} {kk : Nat} {gs : List (GF × List Nat)} (hc : X.calm = true) (h : PGs X es (gEs X.K (gs.map (·.1)) (gs.flatMap (·.2)))) (hn : (assignEach es X.env).length = gs.length) (hst : (assignEach es X.env).findIdx? (·.1) = none) :
    PG X (.Tuple es kk pos) (gE X.K (gUnp (gs.map (·.1))) (gs.flatMap (·.2))) := by
  refine ⟨fun pins s σ H v u Q I r q => ?_⟩
  obtain ⟨P0, G, st, x, s', m, t, e, k⟩ := q
  cases x with
  | tuple xs =>
    have e' : (if xs.length = (gs.map (·.1)).length then gAll (gs.map (·.1)) xs st else .bad) = .ok s' := e
    split at e'
    · next hlen =>
      simp only [Tp] at t
      obtain ⟨a, vs, rfl, ha, tv⟩ := t
      refine (pg_tup (n := gs.length) hc h hn hst).run pins s σ H _ u Q I r ⟨a, vs, rfl, m.fro.sqt ha, by rw [tv.length, hlen]; simp, P0, G, st, xs, s', m, tv, e', k⟩
    · cases e'
  | list xs =>
    have e' : (if xs.length = (gs.map (·.1)).length then gAll (gs.map (·.1)) xs st else .bad) = .ok s' := e
    split at e'
    · next hlen =>
      simp only [Tp] at t
      obtain ⟨a, vs, rfl, ha, tv⟩ := t
      refine (pg_lst (n := gs.length) hc h hn hst).run pins s σ H _ u Q I r ⟨a, vs, rfl, .of (m.fro _ _ ha), by rw [tv.length, hlen]; simp, P0, G, st, xs, s', m, tv, e', k⟩
    · cases e'
  | _ => cases e
theorem gPut_inv {i : Nat} {fi : XF} {x : D} {s s' : S} (h : gPut i fi x s = .ok s') : ∃ zs k s2 xs j, s[i]? = some (some (.own zs)) ∧ fi s = .ok (.d (.int k), s2) ∧ s2[i]? = some (some (.own xs)) ∧ ixN xs.length k = some j ∧ s' = s2.set i (some (.own (xs.set j x))) := by
  unfold gPut at h
  split at h
  · next zs h0 =>
    obtain ⟨⟨r, s2⟩, e1, h⟩ := Rs.bind_inv h
    split at h
    · next k xs hr hx =>
      obtain ⟨j, e2, h⟩ := Rs.bind_inv h
      cases h
      simp only at hr hx
      subst hr
      exact ⟨zs, k, s2, xs, j, h0, e1, hx, gv_inv e2, rfl⟩
    · cases h
  · cases h
theorem pg_putF {i : Nat} {x : Str} {fi : XF} {px tp : Pos} (hx : X.N[i]? = some x) (hv : Vis X.env.scope x) (hd : (x == ("__debug__" : Str)) = false) (hcd : (x == ("__classdict__" : Str)) = false) (hb : PE X b (tXF X.K fi)) (hn : notSl b = true) :
    PG X (.Subscript (.Name x px) b tp) (gE X.K (gPut i fi) []) := pg_imp (pg_sub (pe_var hx hv hd hcd) hb set_list (sub_assign hn X.env)) fun v σ H Q q => by
  obtain ⟨P0, G, s, y, s', m, t, e, k⟩ := q
  obtain ⟨zs, kk, s2, xs, j, h0, e1, h1, hj, rfl⟩ := gPut_inv e
  obtain ⟨l, ws0, ev, _⟩ := m.own i zs h0
  refine ⟨.ref l, ev, P0, G, s, .d (.int kk), s2, m, e1, fun w H2 G2 x2 m2 r2 => ?_⟩
  obtain ⟨l', ws, ea, ga, qa, ha, ta⟩ := m2.own i xs h1
  rw [ev] at ea; cases ea
  refine ⟨l, ws, kk, j, rfl, int_of r2, ha, by rw [ta.length]; exact hj, ?_⟩
  exact k σ _ G2 x2 (m2.write h1 ev (ta.set (Tp.mono x2.1 _ _ t) j)) rfl fun _ _ => rfl
theorem ps_tgE {pn : List (Nat × Addr)} {tg e : Expr} {g : GF} {ts : List Nat} (hi : ∀ p ∈ pn, p.1 ∉ ts) (he : PE X e (tXF X.K f)) (hg : PG X tg (gE X.K g ts)) (hs : swapsWithSole [tg] e pos.line X.env = pure false) (hw : swappedStores [tg] e X.env = pure none) (h1 : (assignEach [tg] X.env).map (·.2) = [assign tg X.env]) :
    PS X (.Assign [tg] e pos) (tSF X.K pn (sTg g f)) := ps_imp (ps_asg (pz_of he) hg hs hw h1) fun D σ H q => by
  obtain ⟨P0, G, s, fl, s', m, hp, e, k⟩ := q
  obtain ⟨r, e1, e⟩ := Rs.bind_inv e
  obtain ⟨s2, e2, e⟩ := Rs.bind_inv e
  cases e
  refine ⟨P0, G, s, r.1, r.2, m, e1, fun v H1 G1 x1 m1 t1 => ⟨P0, G1, r.2, r.1, _, m1, t1, e2, fun σ2 H2 G2 x2 m2 l2 k2 => k σ2 H2 G2 (x1.trans x2) m2 (fun p hp' => ?_) l2⟩⟩
  rw [k2 p.1 (hi p hp')]
  exact hp p hp'
end
end Ek

/-! ## Z: defs that hand back a row of lists -/
namespace Ek
open PySem L2 PySem.Spec PyProof.Rows
section
variable {X : Cx} {pn : List (Nat × Addr)} {e : Expr} {es : List Expr} {pos p : Pos}
theorem RRs.mapH {K : PySem.W.Frag} {P0 G H H' : Hp} {s s' : S} {σ σ' : L2.St} : ∀ {rs : List R} {vs : List V}, RRs K P0 G s σ H rs vs → (∀ (k : Nat) r v, rs[k]? = some r → vs[k]? = some v → RR K P0 G s σ H r v → RR K P0 G s' σ' H' r v) → RRs K P0 G s' σ' H' rs vs
  | [], _, h, _ => h
  | r :: rs, vs, h, f => by
    obtain ⟨v, ws, rfl, h1, h2, h3⟩ := h
    exact ⟨v, ws, rfl, f 0 r v rfl rfl h1, h2.mapH fun k r v e e' => f (k + 1) r v (by simpa using e) (by simpa using e'), h3⟩
theorem px_mv {i : Nat} {x : Str} (hN : X.N[i]? = some x) (hv : Vis X.env.scope x) (hd : (x == ("__debug__" : Str)) = false) (hcd : (x == ("__classdict__" : Str)) = false) : PE X (.Name x p) (tXF X.K (cMv i)) := pe_imp (pe_var hN hv hd hcd) fun σ H Q q => by
  obtain ⟨P0, G, s, r, s', m, e, k⟩ := q
  unfold cMv at e
  split at e
  · next x hs =>
    cases e
    obtain ⟨v, ev, tv⟩ := m.dat i x hs
    exact ⟨v, ev, k v H G .refl m tv⟩
  · next xs hs =>
    cases e
    obtain ⟨l, vs, ev, hg, hq, hh, tv⟩ := m.own i xs hs
    have get : ∀ (j : Nat) r, (s.set i none)[j]? = some (some r) → j ≠ i ∧ s[j]? = some (some r) := fun j r ej => by
      rcases getElem?_set_some ej with ⟨_, z⟩ | ⟨ne, z⟩
      · cases z
      · exact ⟨fun z => ne z.symm, z⟩
    have m' : Sim X.K P0 G (s.set i none) σ H := m.less (by simp) fun j r ej => (get j r ej).2
    refine ⟨.ref l, ev, k (.ref l) H G .refl m' ⟨l, vs, rfl, hg, hq, hh, tv, fun j ys ej hj => ?_⟩⟩
    obtain ⟨z1, z2⟩ := get j _ ej
    exact z1 (m.sep j i ys xs l z2 hs hj ev)
  · cases e
theorem ps_row {fs : List XF} (ha : PA X es (tRA X.K (rArgs fs))) (hl : fs.length ≤ szMax) : PS X (.Return (some (.List es p)) pos) (tSF X.K pn (sRow fs)) := ps_imp (ps_ret (pe_lst ha)) fun D σ H q => by
  obtain ⟨P0, G, s, fl, s', m, hp, e, k⟩ := q
  obtain ⟨r, e1, e⟩ := Rs.bind_inv e
  cases e
  refine ⟨P0, G, s, r.1, r.2, m, e1, fun vs H1 G1 x1 m1 r1 => ⟨by rw [r1.len, rArgs_len e1]; exact size_ok hl, fun a ha => ?_⟩⟩
  refine k (.ref a) σ _ G1 x1 (m1.alloc ha) hp ⟨a, vs, rfl, upd_same, m1.prot.none ha, r1.mapH fun j r v ej ev rr => ?_⟩
  cases r with
  | d x => exact rr
  | scr ns => exact rr
  | own ys =>
    obtain ⟨b, us, rfl, z1, z2, z3, z4⟩ := rr
    refine ⟨b, us, rfl, z1, z2, ?_, z4⟩
    rw [upd_ne (fun z => by rw [z, ha] at z3; cases z3)]
    exact z3
def tRW (K : PySem.W.Frag) (f : FS) (as : List OF) : TE := fun σ H Q => ∃ P0 G s o rs, Sim K P0 G s σ H ∧ oArgs as s = .ok o ∧ doCallR f o.1 o.2 = .ok rs ∧ ∀ v H' G', Ext P0 G G' → Sim K P0 G' o.2 σ H' → RW K P0 G' o.2 σ H' rs v → Q v H'
theorem callR_read {K : PySem.W.Frag} {f : FS} {os : List O} {vs : List V} {P0 G H : Hp} {s : S} {σ : L2.St} {Q : VK} {rs : List R} (m : Sim K P0 G s σ H) (hv : vs.length = os.length) (ho : ∀ (k : Nat) o v, os[k]? = some o → vs[k]? = some v → OR K G σ o v)
    (hl : os.length = f.ps.length) (e : doCallR f os s = .ok rs) (k : ∀ v H' G', Ext P0 G G' → Sim K P0 G' s σ H' → RW K P0 G' s σ H' rs v → Q v H') : spF K f vs H Q (fun _ _ _ => False) := by
  refine .inr (.inr ?_)
  unfold doCallR at e
  obtain ⟨g, e1, e⟩ := Rs.bind_inv e
  obtain ⟨xs, e2, e⟩ := Rs.bind_inv e
  have e1 := gv_inv e1
  have e := gv_inv e
  obtain ⟨xl, xg⟩ := derefs_get (gv_inv e2)
  have dat : ∀ (i : Nat) o x v, os[i]? = some o → vs[i]? = some v → derefD o s = some x → Tp K G x v := fun i o x v h1 h2 h3 => by
    have oo := ho i o v h1 h2
    cases o with
    | v y => cases h3; exact oo
    | sl j =>
      have oo' : σ[j]? = some (some v) := oo
      unfold derefD at h3
      cases hs : s[j]? with
      | none => simp [hs] at h3
      | some u =>
        cases u with
        | none => simp [hs] at h3
        | some y =>
          cases y with
          | d z =>
            simp [hs] at h3; subst h3
            obtain ⟨v', ev, t⟩ := m.dat j z hs
            rw [oo'] at ev; cases ev
            exact t
          | own _ => simp [hs] at h3
          | scr _ => simp [hs] at h3
  refine ⟨G, xs, g, rs, by omega, by omega, m.fro, fun k x v hx hv' => ?_, e1, e, fun v H' G' g1 g2 g3 g4 rw' => ?_⟩
  · obtain ⟨o, h1, h2⟩ := xg k x hx
    rw [if_neg (fun z => nomatch z)] at h2
    exact dat k o x v h1 hv' h2
  · have x0 : Ext P0 G G' := ⟨g1, fun a o ha => (g2 a o ha).imp id fun z => m.prot.none z⟩
    have free : ∀ a u, G a = none → H a = some u → G' a = none := fun a u z1 z2 => by
      cases q : G' a with
      | none => rfl
      | some o =>
        rcases g2 a o q with z | z
        · rw [z1] at z; cases z
        · rw [z2] at z; cases z
    have m' : Sim K P0 G' s σ H' := by
      refine ⟨m.len, fun a o ha => g4 a o (m.prot a o ha), g3, fun i x hi => ?_, fun i ys hi => ?_, fun i ns hi => ?_, m.sep⟩
      · obtain ⟨u, e, t⟩ := m.dat i x hi
        exact ⟨u, e, Tp.mono g1 _ _ t⟩
      · obtain ⟨a, ws, e, g, q, hh, t⟩ := m.own i ys hi
        exact ⟨a, ws, e, free a _ g hh, q, g4 a _ hh, TpL.mono g1 _ _ t⟩
      · obtain ⟨a, e, t⟩ := m.scr i ns hi
        exact ⟨a, e, g1.sql t⟩
    obtain ⟨a, us, rfl, q1, q2, q3⟩ := rw'
    refine k _ H' G' x0 m' ⟨a, us, rfl, q1, m.prot.none q2, q3.map fun j r v ej ev rr => ?_⟩
    cases r with
    | d x => exact rr
    | scr ns => exact rr
    | own zs =>
      obtain ⟨b, ws, rfl, h1, h2, h3, h4, _⟩ := rr
      refine ⟨b, ws, rfl, h1, m.prot.none h2, h3, h4, fun i ys hi hb => ?_⟩
      obtain ⟨a, ws', e, g, q, hh, t⟩ := m.own i ys hi
      rw [hb] at e; cases e
      rw [h2] at hh; cases hh
theorem px_callR {x : Str} {f : FS} {as : List OF} (C : CallOk X x f) (hg : Gl X x) (hd : (x == ("__debug__" : Str)) = false) (hs : (e :: es).all notStar = true) (ha : PA X (e :: es) (tOA X.K (oArgs as))) (hl : as.length = f.ps.length) :
    PE X (.Call (.Name x p) (e :: es) [] pos) (tRW X.K f as) := by
  obtain ⟨k, ad, fd, F, hr, hm, hk, hb, _⟩ := C.ex
  simp only [List.all_cons, Bool.and_eq_true] at hs
  refine pe_imp (pe_call (E := fun _ _ _ => False) F hr hg hm hk hb .nil (fun _ _ _ _ _ _ _ h => h.elim) ha hd (star_of hs.1 _ _) (noStars hs.2)) fun σ H Q q => ?_
  obtain ⟨P0, G, s, o, rs, m, e1, ee, kk⟩ := q
  refine ⟨P0, G, s, o.1, o.2, m, e1, fun vs H1 G1 x1 m1 o1 => ?_⟩
  show spF X.K f (vs ++ []) H1 Q _
  rw [List.append_nil]
  exact callR_read m1 o1.1 o1.2 (by rw [oArgs_len e1]; exact hl) ee fun v H' G' x2 m2 r2 => kk v H' G' (x1.trans x2) m2 r2
def gRW (K : PySem.W.Frag) (is : List Nat) : TGs := fun vs σ H Q => ∃ P0 G s rs, Sim K P0 G s σ H ∧ RRs K P0 G s σ H rs vs ∧ is.length = rs.length ∧ ∀ σ', Sim K P0 G (putAll is rs s) σ' H → σ'.length = σ.length → (∀ i, i ∉ is → σ'[i]? = σ[i]?) → Q σ' H
theorem pgs_row : ∀ {es : List Expr} {is : List Nat}, Paired (fun e i => PG X e (gName i) ∧ ∀ es, (assignEach (e :: es) X.env).map (·.2) = assign e X.env :: (assignEach es X.env).map (·.2)) es is → PGs X es (gRW X.K is)
  | [], _, .nil => pgs_imp pgs_nil fun v σ H Q q => by
    obtain ⟨P0, G, s, rs, m, rr, hl, k⟩ := q
    cases rs with
    | nil => cases rr; exact ⟨rfl, k σ m rfl fun _ _ => rfl⟩
    | cons _ _ => cases hl
  | e :: es, _, @Paired.cons _ _ _ _ i _ is h t => pgs_imp (pgs_cons h.1 (pgs_row t) (h.2 es)) fun v σ H Q q => by
    obtain ⟨P0, G, s, rs, m, rr, hl, k⟩ := q
    cases rs with
    | nil => cases hl
    | cons r rs =>
      obtain ⟨w, ws, rfl, h1, h2, h3⟩ := rr
      refine ⟨w, ws, rfl, ?_⟩
      show gRW X.K is ws (σ.set i (some w)) H Q
      refine ⟨P0, G, s.set i (some r), rs, m.store i h1, h2.map fun k r' u er eu rr => rr.stored m fun xs ys z1 z2 => ?_, by simpa using hl, fun σ' m' l' k' => k σ' m' (by rw [l']; simp) fun j hj => ?_⟩
      · subst z2
        exact h3 xs z1 k u ys eu er
      · simp only [List.mem_cons, not_or] at hj
        rw [k' j hj.2, List.getElem?_set_ne (fun z => hj.1 z.symm)]
theorem ps_unR {ts : List Expr} {kk : Nat} {tp cp : Pos} {x : Str} {f : FS} {as : List OF} {is : List Nat} (hi : ∀ p ∈ pn, p.1 ∉ is) (hc : X.calm = true) (C : CallOk X x f) (hg : Gl X x) (hd : (x == ("__debug__" : Str)) = false) (hs : (e :: es).all notStar = true) (ha : PA X (e :: es) (tOA X.K (oArgs as))) (hl : as.length = f.ps.length)
    (ht : PGs X ts (gRW X.K is)) (hn : (assignEach ts X.env).length = is.length) (hst : (assignEach ts X.env).findIdx? (·.1) = none) :
    PS X (.Assign [.Tuple ts kk tp] (.Call (.Name x p) (e :: es) [] cp) pos) (tSF X.K pn (sUnR is f as)) := ps_imp (ps_asg (px_callR C hg hd hs ha hl) (pg_lst (n := is.length) hc ht hn hst) rfl rfl rfl) fun D σ H q => by
  obtain ⟨P0, G, s, fl, s', m, hp, ee, k⟩ := q
  obtain ⟨o, e1, ee⟩ := Rs.bind_inv ee
  obtain ⟨rs, e2, ee⟩ := Rs.bind_inv ee
  split at ee
  case isFalse => cases ee
  next hlen =>
  cases ee
  refine ⟨P0, G, s, o, rs, m, e1, e2, fun v H1 G1 x1 m1 r1 => ?_⟩
  obtain ⟨a, vs, rfl, q1, q2, q3⟩ := r1
  refine ⟨a, vs, rfl, .of q1, by rw [q3.len, hlen], P0, G1, o.2, rs, m1, q3, hlen, fun σ2 m2 l2 k2 => k σ2 H1 G1 x1 m2 (fun p hp' => ?_) l2⟩
  rw [k2 p.1 (hi p hp')]
  exact hp p hp'
end
end Ek

/-! ## L: from the text to what it does -/
namespace Ek
open PySem L2 PySem.Spec PyProof.Rows
def badX : XF := fun _ => .bad
def badT : TF := fun _ => .bad
def badA : AF := fun _ => .bad
def badS : SF := fun _ => .bad
structure Ev where
  x : Scope → Expr → XF
  t : Scope → Expr → TF
def slotOf (N : List Str) (sc : Scope) (x : Str) : Option Nat :=
  if (x == ("__debug__" : Str)) || (x == ("__classdict__" : Str)) then none
  else match sc.names.lookup x with
    | some .local => N.idxOf? x
    | some .cell => N.idxOf? x
    | some .free => N.idxOf? x
    | _ => none
def locOf (N : List Str) (sc : Scope) (ok : Str → Bool) (x : Str) : Option Nat :=
  if ok x then match sc.names.lookup x with
    | some .local => N.idxOf? x
    | some .cell => N.idxOf? x
    | _ => none
  else none
def isGl (sc : Scope) (x : Str) : Bool := (sc.names.lookup x == some .globalImplicit) && !(x == ("__debug__" : Str))
section
variable (M : En) (N : List Str)
def opd (E : Ev) (sc : Scope) (e : Expr) : OF := match e with
  | .Name id _ => (match slotOf N sc id with
    | some i => oName i
    | none => oX (E.x sc e))
  | _ => oX (E.x sc e)
def pfO (E : Ev) (sc : Scope) (e : Option Expr) : PF := match e with
  | none => pNo
  | some e => pAt (E.x sc e)
def b1Names : List String := ["int", "abs", "tuple", "sum", "all", "any", "str"]
def b2Names : List String := ["max", "min"]
def findN (l : List String) (x : Str) : Option String := l.find? fun n => Str.ofString n == x
/-- the names of classes in isinstance's second place -/
def tyOne (sc : Scope) : Expr → Option String
  | .Name t _ => (match findN tyNames t with
    | some n => if isGl sc (Str.ofString n) && M.bi (Str.ofString n) then some n else none
    | none => none)
  | _ => none
def tyList (sc : Scope) : List Expr → Option (List String)
  | [] => some []
  | e :: r => match tyOne M sc e, tyList sc r with
    | some n, some l => some (n :: l)
    | _, _ => none
def argO (E : Ev) (sc : Scope) (io : Option Nat) (k : Nat) (e : Expr) : OF := if io = some k then opd N E sc e else oX (E.x sc e)
def argOs (E : Ev) (sc : Scope) (io : Option Nat) : Nat → List Expr → List OF
  | _, [] => []
  | k, e :: r => argO N E sc io k e :: argOs E sc io (k + 1) r
def argKs (E : Ev) (sc : Scope) (f : FS) : List Keyword → List OF
  | [] => []
  | ⟨nm, e, _⟩ :: r => argO N E sc f.io (match nm with | some x => (f.ps.idxOf? x).getD 1000 | none => 1000) e :: argKs E sc f r
def bCall (E : Ev) (sc : Scope) (id : Str) (args : List Expr) : XF :=
  if id = Str.ofString "isinstance" then (match args with
    | [a, b] => if notStar a then (match b with
      | .Tuple es _ _ => (match tyList M sc es with | some ns => if ns.length ≤ 100 then cIsi (opd N E sc a) ns else badX | none => badX)
      | _ => (match tyOne M sc b with | some n => cIsi (opd N E sc a) [n] | none => badX)) else badX
    | _ => badX)
  else if id = Str.ofString "len" then (match args with | [a] => if notStar a then cLenOf (opd N E sc a) else badX | _ => badX)
  else if id = Str.ofString "list" then (match args with | [a] => if notStar a then cListOf (opd N E sc a) else badX | _ => badX)
  else match args with
    | [a] => if notStar a then (match findN b1Names id with | some n => cUn (dB1 n) (opd N E sc a) | none => badX) else badX
    | [a, b] => if notStar a && notStar b then (match findN b2Names id with | some n => cBin (dB2 n) (opd N E sc a) (opd N E sc b) | none => badX) else badX
    | _ => badX
def fCall (E : Ev) (sc : Scope) (f : FS) (args : List Expr) (kws : List Keyword) : XF :=
  if f.sr.isSome then (match args, kws with
    | [.Name x _], [] => (match slotOf N sc x with | some i => if f.ps.length = 1 then cCallS f i else badX | none => badX)
    | _, _ => badX)
  else if args.all notStar then
    if kws.isEmpty then (if args.isEmpty then (if f.ps.length = 0 then cCall f [] else badX) else if args.length = f.ps.length then cCall f (argOs N E sc f.io 0 args) else badX)
    else match kwNames kws with
      | some ks => if f.kl.contains ks then cCallK f ks (argOs N E sc f.io 0 args) (argKs N E sc f kws) else badX
      | none => badX
  else badX
def mutNames : List String := ["append", "extend", "pop"]
def methNames : List String := ["join", "count"]
def mCall (E : Ev) (sc : Scope) (o : Expr) (m : Str) (args : List Expr) : XF :=
  if args.all notStar && decide (args.length < 20) then match findN mutNames m with
    | some n => (match o with
      | .Name x _ => (match slotOf N sc x with | some i => cMut i (dMut n) (args.map (E.x sc)) | none => badX)
      | _ => badX)
    | none => (match findN methNames m with
      | some n => if args.isEmpty then badX else if plainBase o then cMeth n (opd N E sc o) (args.map (E.x sc)) else badX
      | none => badX)
  else badX
/-- a dict of the module -/
def dctOf (sc : Scope) : Expr → Option (List (Str × D))
  | .Name id _ => if isGl sc id then M.ds id else none
  | _ => none
def gCall (E : Ev) (sc : Scope) (kvs : List (Str × D)) (args : List Expr) : XF := match args with
  | [a] => if notStar a then cDget kvs [E.x sc a] else badX
  | [a, b] => if notStar a && notStar b then cDget kvs [E.x sc a, E.x sc b] else badX
  | _ => badX
def aCall (E : Ev) (sc : Scope) (o : Expr) (m : Str) (args : List Expr) : XF := match dctOf M sc o with
  | some kvs => if m = Str.ofString "get" then gCall E sc kvs args else badX
  | none => if args.isEmpty && decide (m = Str.ofString "bit_length") then (if plainBase o then cMeth0 "bit_length" (opd N E sc o) else badX) else mCall N E sc o m args
def cmpF (E : Ev) (sc : Scope) (op : CmpOp) (a b : Expr) : XF := match dctOf M sc b with
  | some kvs => (match op with
    | .In => cDin false kvs (opd N E sc a)
    | .NotIn => cDin true kvs (opd N E sc a)
    | _ => badX)
  | none => cCmp op (opd N E sc a) (opd N E sc b)
def tupT : Expr → Bool
  | .Tuple .. => true
  | _ => false
def itF (E : Ev) (sc : Scope) (tg e : Expr) : AF := match e with
  | .Call (.Name id _) args [] _ => if id = Str.ofString "range" ∧ isGl sc id = true ∧ M.bi id = true then (match args with
      | [a] => if notStar a then wR1 (E.x sc a) else badA
      | [a, b] => if notStar a && notStar b then wR2 (E.x sc a) (E.x sc b) else badA
      | _ => badA)
    else if id = Str.ofString "zip" ∧ isGl sc id = true ∧ M.bi id = true ∧ tupT tg = true then (match args with
      | [a, b] => if notStar a && notStar b then wZip (E.x sc a) (E.x sc b) else badA
      | _ => badA)
    else if id = Str.ofString "enumerate" ∧ isGl sc id = true ∧ M.bi id = true ∧ tupT tg = true then (match args with
      | [a] => if notStar a then wEnum (E.x sc a) else badA
      | _ => badA)
    else wIt (E.x sc e)
  | .Set _ _ _ => badA
  | _ => wIt (E.x sc e)
/-- a target: a name, names, names within -/
def tgN (sc : Scope) (ok : Str → Bool) : Expr → Option (GF × List Nat)
  | .Name x _ => (locOf N sc ok x).map fun i => (gSet i, [i])
  | _ => none
def tgNs (f : Expr → Option (GF × List Nat)) : List Expr → Option (List (GF × List Nat))
  | [] => some []
  | e :: r => match f e, tgNs f r with
    | some g, some l => some (g :: l)
    | _, _ => none
def tgT (f : Expr → Option (GF × List Nat)) : Expr → Option (GF × List Nat)
  | .Tuple es _ _ => (tgNs f es).map fun gs => (gUnp (gs.map (·.1)), gs.flatMap (·.2))
  | e => f e
def tgF (sc : Scope) (ok : Str → Bool) (e : Expr) : Option (GF × List Nat) := tgT (tgT (tgN N sc ok)) e
/-- .. names and places -/
def tgP (E : Ev) (sc : Scope) : Expr → Option (GF × List Nat)
  | .Subscript (.Name x _) b _ => (match slotOf N sc x with
    | some i => if notSl b then some (gPut i (E.x sc b), []) else none
    | none => none)
  | e => tgN N sc (fun _ => true) e
def tgEF (E : Ev) (sc : Scope) (e : Expr) : Option (GF × List Nat) := tgT (tgP N E sc) e
def ownOf (scope : Scope) : List (Str × Nat) := scope.names.filterMap fun p => if p.2 == .local || p.2 == .cell then (N.idxOf? p.1).map fun i => (p.1, i) else none
def okOf (scope : Scope) (x : Str) : Bool := (scope.names.lookup x == some .local) || (scope.names.lookup x == some .cell)
def notSet : Expr → Bool
  | .Set _ _ _ => false
  | _ => true
def ifsF (E : Ev) (sc : Scope) : List Expr → TF
  | [] => tTrue
  | [c] => E.t sc c
  | _ => badT
def subl (a b : List Nat) : Bool := a.all fun i => b.contains i
def compF (E : Ev) (sc : Scope) (elt : Expr) (gens : List Comprehension) (scope : Scope) : XF :=
  if blkC N sc scope (ownOf N scope) then match gens with
    | [⟨tg, iter, ifs, 0⟩] => (match tgF N (relS scope sc) (okOf scope) tg with
      | some (g, ts) => if subl ts ((ownOf N scope).map (·.2)) && notSet iter then cLc (itF M E sc tg iter) ((ownOf N scope).map (·.2)) g (ifsF E (relS scope sc) ifs) (E.x (relS scope sc) elt) else badX
      | none => badX)
    | [⟨tg, iter, ifs, 0⟩, ⟨tg1, iter1, ifs1, 0⟩] => (match tgF N (relS scope sc) (okOf scope) tg, tgF N (relS scope sc) (okOf scope) tg1 with
      | some (g, ts), some (g1, ts1) => if subl ts ((ownOf N scope).map (·.2)) && subl ts1 ((ownOf N scope).map (·.2)) && notSet iter && notSet iter1 then
          cLc2 (itF M E sc tg iter) ((ownOf N scope).map (·.2)) g (ifsF E (relS scope sc) ifs) (itF M E (relS scope sc) tg1 iter1) ts1 g1 (ifsF E (relS scope sc) ifs1) (E.x (relS scope sc) elt) else badX
      | _, _ => badX)
    | _ => badX
  else badX
def stepX (E : Ev) (sc : Scope) (e : Expr) : XF := match e with
  | .Constant .none _ _ => cC .none
  | .Constant (.bool b) _ _ => cC (.bool b)
  | .Constant (.int i) _ _ => cC (.int i)
  | .Constant (.str x) _ _ => cC (.str x)
  | .Name id _ => (match slotOf N sc id with
    | some i => cName i
    | none => if isGl sc id then (match M.cs id with | some d => cC d | none => badX) else badX)
  | .BinOp a op b _ => cBin (dBin op) (opd N E sc a) (opd N E sc b)
  | .UnaryOp .USub a _ => cUn (dUn .USub) (opd N E sc a)
  | .UnaryOp .Not a _ => cNot (tTru (opd N E sc a))
  | .BoolOp .And vs _ => cAnds (vs.map (E.x sc))
  | .BoolOp .Or vs _ => cOrs (vs.map (E.x sc))
  | .IfExp c a b _ => cIf (E.t sc c) (E.x sc a) (E.x sc b)
  | .Compare a [op] [b] _ => if behindInMarks op b then badX else cmpF M N E sc op a b
  | .Compare a [op, op'] [b, c] _ => if lastMarks [op, op'] [b, c] then badX else cChain op op' (opd N E sc a) (opd N E sc b) (opd N E sc c)
  | .Tuple es _ _ => if es.all notStar && decide (es.length ≤ 1000) then cTup (es.map (E.x sc)) else badX
  | .List es _ => if es.all notStar && decide (es.length ≤ 1000) then cLst (es.map (E.x sc)) else badX
  | .Subscript a s _ => (match s with
    | .Slice lo hi none _ => cSl (opd N E sc a) (pfO E sc lo) (pfO E sc hi)
    | .Slice none none (some (.UnaryOp .USub (.Constant (.int 1) _ _) _)) _ => cUn dRev (opd N E sc a)
    | .Slice _ _ _ _ => badX
    | _ => (match a with
      | .Name id _ => (match slotOf N sc id with
        | some _ => cBin dIx (opd N E sc a) (opd N E sc s)
        | none => if isGl sc id then (match M.ds id with | some kvs => cDix kvs (opd N E sc s) | none => cBin dIx (opd N E sc a) (opd N E sc s)) else badX)
      | _ => cBin dIx (opd N E sc a) (opd N E sc s)))
  | .ListComp elt gens scope _ => compF M N E sc elt gens scope
  | .Call (.Name id _) args kws _ => if isGl sc id then (match M.fs id with
      | some f => fCall N E sc f args kws
      | none => if M.bi id && kws.isEmpty then bCall M N E sc id args else badX) else badX
  | .Call (.Attribute o m apos) args [] pos => if apos.endLine == pos.line then aCall M N E sc o m args else badX
  | _ => badX
def stepT (E : Ev) (sc : Scope) (e : Expr) : TF := match e with
  | .UnaryOp .Not a _ => tNotF (E.t sc a)
  | .BoolOp .And vs _ => tAnds (vs.map (E.t sc))
  | .BoolOp .Or vs _ => tOrs (vs.map (E.t sc))
  | .Compare a [op] [b] _ => if behindInMarks op b then badT else tBl (cmpF M N E sc op a b)
  | .Compare a [op, op'] [b, c] _ => if lastMarks [op, op'] [b, c] then badT else tBl (cChain op op' (opd N E sc a) (opd N E sc b) (opd N E sc c))
  | .Compare _ _ _ _ => badT
  | .IfExp _ _ _ _ => badT
  | e => tTru (opd N E sc e)
def evs : Nat → Ev
  | 0 => ⟨fun _ _ => badX, fun _ _ => badT⟩
  | n + 1 => ⟨stepX M N (evs n), stepT M N (evs n)⟩

/-! ### statements -/
/-- swappedStores of a tuple's names and a tuple, read -/
def swD (sc : Scope) (ts vs : List Expr) : Option (Option (List Str)) :=
  if (!(ts.length == 2 || ts.length == 3) || vs.length != ts.length) = true then some none
  else if (vs.any fun | .Starred .. => true | _ => false) = true then some none
  else
    let line := (ts.head?.map (·.pos.line)).getD 0
    let names := ts.filterMap fun
      | .Name id pos => if sc.names.lookup id == some .local && pos.line == line then some id else none
      | _ => none
    if (names.length != ts.length || names.eraseDups.length != names.length) = true then some none
    else if vs.all (foldedForSure 8) = true then some none
    else if vs.all (constantsAlone 8) = true then none
    else some (some names)
def swB (sc : Scope) (x : Str) (p : Pos) (e : Expr) : Bool := match e with
  | .ListComp _ _ scope pos => sc.names.lookup x == some .local && p.line == pos.line && !(scope.names.any fun (n, k) => n == x && (k == .local || k == .cell))
  | _ => false
def noComp : Expr → Bool
  | .ListComp .. | .SetComp .. | .DictComp .. => false
  | _ => true
def isLo (sc : Scope) (x : Str) : Bool := sc.names.lookup x == some .local
def mvX (E : Ev) (sc : Scope) (e : Expr) : XF := match e with
  | .Name x _ => (match slotOf N sc x with | some i => cMv i | none => E.x sc e)
  | _ => E.x sc e
/-- a call that hands back a row -/
def rowF (E : Ev) (sc : Scope) (e : Expr) : Option (FS × List OF) := match e with
  | .Call (.Name id _) args [] _ => if isGl sc id then (match M.fs id with
      | some f => if f.rr.isSome && args.all notStar && !args.isEmpty && decide (args.length = f.ps.length) then some (f, argOs N E sc f.io 0 args) else none
      | none => none) else none
  | _ => none
def locsOf (sc : Scope) : List Expr → Option (List Nat)
  | [] => some []
  | .Name x _ :: r => (match locOf N sc (fun _ => true) x, locsOf sc r with | some i, some l => some (i :: l) | _, _ => none)
  | _ => none
def asgF (E : Ev) (sc : Scope) (io : List Nat) (tg e : Expr) : SF := match tg with
  | .Name x _ => (match locOf N sc (fun _ => true) x with
    | some i => if io.contains i then badS else sSet i (E.x sc e)
    | none => badS)
  | .Subscript (.Name x _) b _ => (match slotOf N sc x with
    | some i => if notSl b then sPut i (E.x sc b) (E.x sc e) else badS
    | none => badS)
  | .Tuple ts _ _ =>
    (match e with
    | .Tuple vs _ _ => (match swD sc ts vs with
      | none => badS
      | some none => (match tgF N sc (fun _ => true) tg with
        | some (g, is) => if is.any (io.contains ·) then badS else sTg g (E.x sc e)
        | none => (match tgEF N E sc tg with
          | some (g, is) => if is.any (io.contains ·) then badS else sTg g (E.x sc e)
          | none => badS))
      | some (some names) => (match ts, vs with
        | [.Name x _, .Name y _], [a, b] => (match locOf N sc (fun _ => true) x, locOf N sc (fun _ => true) y with
          | some i, some j => if [i, j].any (io.contains ·) || !notStar a || !notStar b || !(isLo sc x && isLo sc y && decide (names = [x, y]) && decide (i ≠ j)) then badS else sPar [i, j] [E.x sc a, E.x sc b]
          | _, _ => badS)
        | [.Name x _, .Name y _, .Name z _], [a, b, c] => (match locOf N sc (fun _ => true) x, locOf N sc (fun _ => true) y, locOf N sc (fun _ => true) z with
          | some i, some j, some k => if [i, j, k].any (io.contains ·) || !notStar a || !notStar b || !notStar c || !(isLo sc x && isLo sc y && isLo sc z && decide (names = [x, y, z]) && decide (i ≠ j) && decide (i ≠ k) && decide (j ≠ k)) then badS else sPar [i, j, k] [E.x sc a, E.x sc b, E.x sc c]
          | _, _, _ => badS)
        | _, _ => badS))
    | _ => (match rowF M N E sc e, locsOf N sc ts with
      | some (f, as), some is => if is.any (io.contains ·) then badS else sUnR is f as
      | _, _ => (match tgF N sc (fun _ => true) tg with
        | some (g, is) => if is.any (io.contains ·) then badS else sTg g (E.x sc e)
        | none => (match tgEF N E sc tg with
          | some (g, is) => if is.any (io.contains ·) then badS else sTg g (E.x sc e)
          | none => badS))))
  | _ => badS
def stm (E : Ev) (sc : Scope) (io : List Nat) (B : List Stmt → SF) (st : Stmt) : SF := match st with
  | .Assign [tg] e _ => asgF M N E sc io tg e
  | .AugAssign (.Name x _) op e _ => (match locOf N sc (fun _ => true) x with
    | some i => if io.contains i then badS else sAug i (dIop op) (opd N E sc e)
    | none => badS)
  | .AugAssign (.Subscript (.Name x _) b _) op e _ => (match slotOf N sc x with
    | some i => if notSl b then sPutOp i (E.x sc b) (dIop op) (E.x sc e) else badS
    | none => badS)
  | .If c a b _ => sIf (E.t sc c) (B a) (B b)
  | .For tg iter body [] _ => (match tgF N sc (fun _ => true) tg with
    | some (g, is) => if is.any (io.contains ·) || !notSet iter then badS else sFor (itF M E sc tg iter) g (B body)
    | none => badS)
  | .While c body [] _ => sWh M.fuel (E.t sc c) (B body)
  | .Return none _ => sRet0
  | .Return (some e) _ => (match e with
    | .Name x _ => (match slotOf N sc x with
      | some i => sRetN i
      | none => sRet (E.x sc e))
    | .List es _ => if M.row && es.all notStar && decide (es.length ≤ 1000) then sRow (es.map (mvX N E sc)) else sRet (E.x sc e)
    | _ => sRet (E.x sc e))
  | .Expr (.Constant (.str _) _ _) _ => sSkip
  | .Expr e _ => if noComp e then sDrop (E.x sc e) else badS
  | .Pass _ => sSkip
  | .Break _ => sBrk
  | .Continue _ => sCnt
  | _ => badS
def stms (E : Ev) (sc : Scope) (io : List Nat) : Nat → List Stmt → SF
  | 0, _ => badS
  | _ + 1, [] => sSkip
  | n + 1, st :: r => sSeq (stm M N E sc io (stms E sc io n) st) (stms E sc io n r)
end
end Ek

/-! ## M: what the text does is what it was read as -/
namespace Ek
open PySem L2 PySem.Spec PyProof.Rows
/-- where the text stands -/
structure TxtOk (M : En) (N : List Str) (sc : Scope) (ok : Str → Bool) (X : Cx) : Prop where
  calm : X.calm = true
  nd : X.N.Nodup
  n : X.N = N
  scp : X.env.scope = sc
  kind : sc.kind = .function
  units : X.A.units + 100 < cLine
  fs : ∀ x f, M.fs x = some f → CallOk X x f
  bi : ∀ x, M.bi x = true → X.mg x = none
  cs : ∀ x d, M.cs x = some d → ∃ v u, X.mg x = some u ∧ RelV v u ∧ Tp X.K (fun _ => none) d v
  ds : ∀ x kvs, M.ds x = some kvs → DictOk X x kvs
  st : ∀ x, ok x = true → (sc.names.lookup x = some .local ∨ sc.names.lookup x = some .cell) → X.fn x = true ∨ X.env.scope.names.lookup x = some .local
section
variable {X : Cx} {e tg iter : Expr} {pn : List (Nat × Addr)} {st : Stmt}
theorem pe_bad : PE X e (tXF X.K badX) := ⟨fun pins s σ H Q I h => by obtain ⟨P0, G, s, r, s', m, e, k⟩ := h; cases e⟩
theorem pt_bad : PT X e (tTF X.K badT) := ⟨fun pins s σ H Q I h => by obtain ⟨P0, G, s, r, s', m, e, k⟩ := h; cases e⟩
theorem pi_bad : PI X tg iter (iAF X.K badA) := ⟨fun pins s σ H Q I h => by obtain ⟨P0, G, s, r, s', m, e, k⟩ := h; cases e⟩
theorem ps_bad : PS X st (tSF X.K pn badS) := ⟨fun pins s σ H Q I h => by obtain ⟨P0, G, s, r, s', m, hp, e, k⟩ := h; cases e⟩
theorem pss_bad {sts : List Stmt} : PSs X sts (tSF X.K pn badS) := ⟨fun pins s σ H Q I h => by obtain ⟨P0, G, s, r, s', m, hp, e, k⟩ := h; cases e⟩
end
theorem idx_get {N : List Str} {x : Str} {i : Nat} (h : N.idxOf? x = some i) : N[i]? = some x := by
  unfold List.idxOf? at h
  obtain ⟨h1, h2, _⟩ := List.findIdx?_eq_some_iff_getElem.mp h
  rw [List.getElem?_eq_getElem h1]
  have : N[i] = x := by simpa using h2
  rw [this]
section
variable {M : En} {N : List Str} {sc : Scope} {ok : Str → Bool} {X : Cx}
theorem TxtOk.slot (C : TxtOk M N sc ok X) {x : Str} {i : Nat} (h : slotOf N sc x = some i) : X.N[i]? = some x ∧ Vis X.env.scope x ∧ (x == ("__debug__" : Str)) = false ∧ (x == ("__classdict__" : Str)) = false := by
  unfold slotOf at h
  split at h
  · cases h
  next hd =>
  simp only [Bool.or_eq_true, not_or, Bool.not_eq_true] at hd
  rw [C.n, C.scp]
  split at h
  · next e => exact ⟨idx_get h, .inl e, hd⟩
  · next e => exact ⟨idx_get h, .inr (.inl e), hd⟩
  · next e => exact ⟨idx_get h, .inr (.inr e), hd⟩
  · cases h
theorem TxtOk.loc (C : TxtOk M N sc ok X) {x : Str} {i : Nat} (h : locOf N sc ok x = some i) : X.N[i]? = some x ∧ Loc X.env.scope x ∧ (X.fn x = true ∨ X.env.scope.names.lookup x = some .local) := by
  unfold locOf at h
  split at h
  case isFalse => cases h
  next ho =>
  split at h
  · next e => exact ⟨by rw [C.n]; exact idx_get h, by rw [C.scp]; exact .inl e, C.st x ho (.inl e)⟩
  · next e => exact ⟨by rw [C.n]; exact idx_get h, by rw [C.scp]; exact .inr e, C.st x ho (.inr e)⟩
  · cases h
theorem TxtOk.gl (C : TxtOk M N sc ok X) {x : Str} (h : isGl sc x = true) : Gl X x ∧ (x == ("__debug__" : Str)) = false := by
  unfold isGl at h
  simp only [Bool.and_eq_true, beq_iff_eq, Bool.not_eq_true'] at h
  refine ⟨?_, h.2⟩
  show X.env.scope.names.lookup x = _
  rw [C.scp]; exact h.1
theorem findN_some {l : List String} {x : Str} {n : String} (h : findN l x = some n) : x = Str.ofString n ∧ n ∈ l := by
  unfold findN at h
  have h1 := List.find?_some h
  exact ⟨by simpa using (beq_iff_eq.mp h1).symm, List.mem_of_find?_eq_some h⟩
/-- the ways of the parts are right -/
def EvOk (M : En) (N : List Str) (E : Ev) : Prop := ∀ (sc : Scope) (ok : Str → Bool) (X : Cx), TxtOk M N sc ok X → (∀ e, PE X e (tXF X.K (E.x sc e))) ∧ ∀ e, PT X e (tTF X.K (E.t sc e))
variable {E : Ev}
theorem opd_ok (hE : EvOk M N E) (C : TxtOk M N sc ok X) (e : Expr) : PE X e (tOF X.K (opd N E sc e)) := by
  unfold opd
  split
  · split
    · next i hi =>
      obtain ⟨h1, h2, h3, h4⟩ := C.slot hi
      exact po_name h1 h2 h3 h4
    · exact po_of ((hE sc ok X C).1 _)
  · exact po_of ((hE sc ok X C).1 _)
theorem pfO_ok (hE : EvOk M N E) (C : TxtOk M N sc ok X) (e : Option Expr) : PO X e (tPF X.K (pfO E sc e)) := by
  cases e with
  | none => exact po_no
  | some e => exact po_at ((hE sc ok X C).1 e)
theorem args_ok (hE : EvOk M N E) (C : TxtOk M N sc ok X) : ∀ es : List Expr, es.all notStar = true → Paired (fun e f => PE X e (tXF X.K f) ∧ ∀ es, starEach (e :: es) X.env = (false, eval e X.env) :: starEach es X.env) es (es.map (E.x sc))
  | [], _ => .nil
  | e :: es, h => by
    simp only [List.all_cons, Bool.and_eq_true] at h
    exact .cons ⟨(hE sc ok X C).1 e, fun es => star_of h.1 es X.env⟩ (args_ok hE C es h.2)
theorem argO_ok (hE : EvOk M N E) (C : TxtOk M N sc ok X) (io : Option Nat) (k : Nat) (e : Expr) : PE X e (tOF X.K (argO N E sc io k e)) := by
  unfold argO
  split
  · exact opd_ok hE C e
  · exact po_of ((hE sc ok X C).1 e)
theorem argOs_ok (hE : EvOk M N E) (C : TxtOk M N sc ok X) (io : Option Nat) : ∀ (es : List Expr) (k : Nat), es.all notStar = true → Paired (fun e f => PE X e (tOF X.K f) ∧ ∀ es, starEach (e :: es) X.env = (false, eval e X.env) :: starEach es X.env) es (argOs N E sc io k es)
  | [], _, _ => .nil
  | e :: es, k, h => by
    simp only [List.all_cons, Bool.and_eq_true] at h
    exact .cons ⟨argO_ok hE C io k e, fun es => star_of h.1 es X.env⟩ (argOs_ok hE C io es (k + 1) h.2)
theorem argOs_len (io : Option Nat) : ∀ (es : List Expr) (k : Nat), (argOs N E sc io k es).length = es.length
  | [], _ => rfl
  | e :: es, k => by simp [argOs, argOs_len io es (k + 1)]
theorem argKs_ok (hE : EvOk M N E) (C : TxtOk M N sc ok X) (f : FS) : ∀ kws : List Keyword, Paired (fun (k : Keyword) f => PE X k.value (tOF X.K f)) kws (argKs N E sc f kws)
  | [] => .nil
  | ⟨nm, e, p⟩ :: r => .cons (argO_ok hE C _ _ e) (argKs_ok hE C f r)
theorem tests_ok (hE : EvOk M N E) (C : TxtOk M N sc ok X) : ∀ es : List Expr, Paired (fun e f => PT X e (tTF X.K f)) es (es.map (E.t sc))
  | [] => .nil
  | e :: es => .cons ((hE sc ok X C).2 e) (tests_ok hE C es)
theorem vals_ok (hE : EvOk M N E) (C : TxtOk M N sc ok X) : ∀ es : List Expr, Paired (fun e f => PE X e (tXF X.K f)) es (es.map (E.x sc))
  | [] => .nil
  | e :: es => .cons ((hE sc ok X C).1 e) (vals_ok hE C es)
theorem tyOne_some {e : Expr} {n : String} (C : TxtOk M N sc ok X) (h : tyOne M sc e = some n) : (∃ p, e = .Name (Str.ofString n) p) ∧ n ∈ tyNames ∧ Gl X (Str.ofString n) ∧ X.mg (Str.ofString n) = none := by
  unfold tyOne at h
  split at h
  · split at h
    · next n' hn =>
      split at h
      · next hg =>
        cases h
        simp only [Bool.and_eq_true] at hg
        obtain ⟨rfl, h2⟩ := findN_some hn
        exact ⟨⟨_, rfl⟩, h2, (C.gl hg.1).1, C.bi _ hg.2⟩
      · cases h
    · cases h
  · cases h
theorem tyList_some (C : TxtOk M N sc ok X) : ∀ {es : List Expr} {ns : List String}, tyList M sc es = some ns → ∃ ps : List Pos, ns.length = ps.length ∧ es = (ns.zip ps).map (fun (q : String × Pos) => Expr.Name (Str.ofString q.1) q.2) ∧ ∀ n ∈ ns, n ∈ tyNames ∧ Gl X (Str.ofString n) ∧ X.mg (Str.ofString n) = none
  | [], ns, h => by cases h; exact ⟨[], rfl, rfl, fun _ h => nomatch h⟩
  | e :: es, ns, h => by
    unfold tyList at h
    split at h
    · next n l h1 h2 =>
      cases h
      obtain ⟨⟨p, rfl⟩, h3⟩ := tyOne_some C h1
      obtain ⟨ps, h4, rfl, h5⟩ := tyList_some C h2
      refine ⟨p :: ps, by simp [h4], rfl, fun m hm => ?_⟩
      rcases List.mem_cons.mp hm with rfl | hm
      · exact h3
      · exact h5 m hm
    · cases h
theorem bCall_ok (hE : EvOk M N E) (C : TxtOk M N sc ok X) {id : Str} {args : List Expr} {p pos : Pos} (hg : Gl X id) (hm : X.mg id = none) : PE X (.Call (.Name id p) args [] pos) (tXF X.K (bCall M N E sc id args)) := by
  unfold bCall
  split
  · next e =>
    subst e
    split
    · next a b =>
      split
      case isFalse => exact pe_bad
      next hs =>
      split
      · next es kk pp =>
        split
        · next ns hn =>
          split
          · next hl =>
            obtain ⟨ps, h1, rfl, h2⟩ := tyList_some C hn
            exact px_isiT h1 hl h2 hg hm (opd_ok hE C a) hs
          · exact pe_bad
        · exact pe_bad
      · split
        · next n hn =>
          obtain ⟨⟨p2, rfl⟩, h1, h2, h3⟩ := tyOne_some C hn
          exact px_isi h1 hg hm h2 h3 (opd_ok hE C a) hs
        · exact pe_bad
    · exact pe_bad
  split
  · next e =>
    subst e
    split
    · split
      · next hs => exact px_len C.calm hg hm (opd_ok hE C _) hs
      · exact pe_bad
    · exact pe_bad
  split
  · next e =>
    subst e
    split
    · split
      · next hs => exact px_list C.calm hg hm (opd_ok hE C _) hs
      · exact pe_bad
    · exact pe_bad
  split
  · split
    · next hs =>
      split
      · next n hn =>
        obtain ⟨rfl, _⟩ := findN_some hn
        exact px_b1 C.calm hg hm (opd_ok hE C _) hs
      · exact pe_bad
    · exact pe_bad
  · split
    · next hs =>
      simp only [Bool.and_eq_true] at hs
      split
      · next n hn =>
        obtain ⟨rfl, _⟩ := findN_some hn
        exact px_b2 C.calm hg hm (opd_ok hE C _) (opd_ok hE C _) hs.1 hs.2
      · exact pe_bad
    · exact pe_bad
  · exact pe_bad
theorem bCall_ok' (hE : EvOk M N E) (C : TxtOk M N sc ok X) {id : Str} {args : List Expr} {kws : List Keyword} {p pos : Pos} (hk : kws.isEmpty = true) (hg : Gl X id) (hm : X.mg id = none) : PE X (.Call (.Name id p) args kws pos) (tXF X.K (bCall M N E sc id args)) := by
  cases kws with
  | nil => exact bCall_ok hE C hg hm
  | cons _ _ => cases hk
theorem fCall_ok (hE : EvOk M N E) (C : TxtOk M N sc ok X) {id : Str} {f : FS} {args : List Expr} {kws : List Keyword} {p pos : Pos} (hg : Gl X id) (hd : (id == ("__debug__" : Str)) = false) (hf : CallOk X id f) :
    PE X (.Call (.Name id p) args kws pos) (tXF X.K (fCall N E sc f args kws)) := by
  unfold fCall
  split
  · split
    · next x q =>
      split
      · next i hi =>
        obtain ⟨h1, h2, h3, h4⟩ := C.slot hi
        split
        · next hl => exact px_callS hf hg hd h1 h2 h3 h4 hl
        · exact pe_bad
      · exact pe_bad
    · exact pe_bad
  split
  case isFalse => exact pe_bad
  next hs =>
  split
  · next hk =>
    have : kws = [] := by cases kws with | nil => rfl | cons _ _ => cases hk
    subst this
    split
    · next he =>
      cases args with
      | cons _ _ => cases he
      | nil =>
        split
        · next hl => exact px_call0 hf hg hd hl
        · exact pe_bad
    next he =>
    split
    · next hl =>
      cases args with
      | nil => exact absurd rfl he
      | cons a r => exact px_call hf hg hd hs (pa_oargs (argOs_ok hE C f.io _ 0 hs)) (by rw [argOs_len]; exact hl)
    · exact pe_bad
  · split
    · next ks hks =>
      split
      · next hc =>
        have hin : ks ∈ f.kl := by simpa using hc
        cases args with
        | nil => exact px_callK0 hf hks hin hg hd (pk_oargs (argKs_ok hE C f kws))
        | cons a r => exact px_callK hf hks hin hg hd hs (pa_oargs (argOs_ok hE C f.io _ 0 hs)) (pk_oargs (argKs_ok hE C f kws))
      · exact pe_bad
    · exact pe_bad
theorem mCall_ok (hE : EvOk M N E) (C : TxtOk M N sc ok X) {o : Expr} {m : Str} {args : List Expr} {apos pos : Pos} (hl : (apos.endLine == pos.line) = true) : PE X (.Call (.Attribute o m apos) args [] pos) (tXF X.K (mCall N E sc o m args)) := by
  unfold mCall
  split
  case isFalse => exact pe_bad
  next hs =>
  simp only [Bool.and_eq_true, decide_eq_true_eq] at hs
  split
  · next n hn =>
    obtain ⟨rfl, _⟩ := findN_some hn
    split
    · next x px =>
      split
      · next i hi =>
        obtain ⟨h1, h2, h3, h4⟩ := C.slot hi
        cases args with
        | nil => exact px_mut0 h1 h2 h3 h4 hl
        | cons a r => exact px_mut h1 h2 h3 h4 (pa_args (args_ok hE C _ hs.1)) hs.1 hs.2 hl
      · exact pe_bad
    · exact pe_bad
  · split
    · next n hn =>
      obtain ⟨rfl, _⟩ := findN_some hn
      split
      · exact pe_bad
      next he =>
      split
      · next hb =>
        cases args with
        | nil => exact absurd rfl he
        | cons a r => exact px_meth (opd_ok hE C o) (pa_args (args_ok hE C _ hs.1)) hs.1 hs.2 hb hl
      · exact pe_bad
    · exact pe_bad
theorem set_folded {e : Expr} (h : notSet e = true) (env : Env) (x : Value) : foldedSetIterable e env x = pure x := by
  cases e <;> first | (cases h; done) | rfl
theorem itF_ok (hE : EvOk M N E) (C : TxtOk M N sc ok X) (e : Expr) : PI X tg e (iAF X.K (itF M E sc tg e)) := by
  unfold itF
  split
  · split
    · next hr =>
      obtain ⟨rfl, h2, h3⟩ := hr
      have hg := (C.gl h2).1
      have hm := C.bi _ h3
      split
      · split
        · next hs => exact pi_r1 hg hm ((hE sc ok X C).1 _) hs
        · exact pi_bad
      · split
        · next hs =>
          simp only [Bool.and_eq_true] at hs
          exact pi_r2 hg hm ((hE sc ok X C).1 _) ((hE sc ok X C).1 _) hs.1 hs.2
        · exact pi_bad
      · exact pi_bad
    · split
      · next hr =>
        obtain ⟨rfl, h2, h3, h4⟩ := hr
        have hg := (C.gl h2).1
        have hm := C.bi _ h3
        cases tg with
        | Tuple elts kk tpos =>
          split
          · split
            · next hs =>
              simp only [Bool.and_eq_true] at hs
              exact pi_zipF hg hm ((hE sc ok X C).1 _) ((hE sc ok X C).1 _) hs.1 hs.2
            · exact pi_bad
          · exact pi_bad
        | _ => cases h4
      · split
        · next hr =>
          obtain ⟨rfl, h2, h3, h4⟩ := hr
          have hg := (C.gl h2).1
          have hm := C.bi _ h3
          cases tg with
          | Tuple elts kk tpos =>
            split
            · split
              · next hs => exact pi_enumF hg hm ((hE sc ok X C).1 _) hs
              · exact pi_bad
            · exact pi_bad
          | _ => cases h4
        · exact pi_it ((hE sc ok X C).1 _)
  · exact pi_bad
  · exact pi_it ((hE sc ok X C).1 _)
/-! ### targets -/
def TgOk (X : Cx) (f : Expr → Option (GF × List Nat)) : Prop := ∀ e g ts, f e = some (g, ts) → PG X e (gD X.K g ts) ∧ ∀ es, (assignEach (e :: es) X.env).map (·.2) = assign e X.env :: (assignEach es X.env).map (·.2) ∧ (assignEach (e :: es) X.env).map (·.1) = false :: (assignEach es X.env).map (·.1)
theorem tgN_ok (C : TxtOk M N sc ok X) : TgOk X (tgN N sc ok) := fun e g ts h => by
  unfold tgN at h
  split at h
  · next x p =>
    cases hl : locOf N sc ok x with
    | none => rw [hl] at h; cases h
    | some i =>
      rw [hl] at h; cases h
      obtain ⟨h1, h2, h3⟩ := C.loc hl
      exact ⟨pg_nameF C.nd h1 h2 h3, fun es => ⟨rfl, rfl⟩⟩
  · cases h
theorem tgNs_ok {f : Expr → Option (GF × List Nat)} (hf : TgOk X f) : ∀ {es : List Expr} {gs : List (GF × List Nat)}, tgNs f es = some gs →
    Paired (fun e (g : GF × List Nat) => PG X e (gD X.K g.1 g.2) ∧ ∀ es, (assignEach (e :: es) X.env).map (·.2) = assign e X.env :: (assignEach es X.env).map (·.2)) es gs ∧ (assignEach es X.env).length = gs.length ∧ (assignEach es X.env).map (·.1) = gs.map fun _ => false
  | [], gs, h => by cases h; exact ⟨.nil, rfl, rfl⟩
  | e :: es, gs, h => by
    unfold tgNs at h
    split at h
    · next g l h1 h2 =>
      cases h
      obtain ⟨a1, a2, a3⟩ := tgNs_ok hf h2
      obtain ⟨b1, b2⟩ := hf e g.1 g.2 h1
      refine ⟨.cons ⟨b1, fun es => (b2 es).1⟩ a1, ?_, ?_⟩
      · have := congrArg List.length (b2 es).1
        simp only [List.length_map, List.length_cons] at this
        rw [this, a2]; rfl
      · rw [(b2 es).2, a3]; rfl
    · cases h
theorem tgT_ok (C : TxtOk M N sc ok X) {f : Expr → Option (GF × List Nat)} (hf : TgOk X f) : TgOk X (tgT f) := fun e g ts h => by
  unfold tgT at h
  split at h
  · next es k p =>
    cases hg : tgNs f es with
    | none => rw [hg] at h; cases h
    | some gs =>
      rw [hg] at h; cases h
      obtain ⟨a1, a2, a3⟩ := tgNs_ok hf hg
      refine ⟨pg_unp C.calm (pgs_all a1) a2 ?_, fun es => ⟨rfl, rfl⟩⟩
      rw [List.findIdx?_eq_none_iff]
      intro q hq
      have : q.1 ∈ (assignEach es X.env).map (·.1) := List.mem_map_of_mem hq
      rw [a3] at this
      simpa using (List.mem_map.mp this).elim fun _ h => h.2.symm
  · exact hf e g ts h
theorem tgF_ok (C : TxtOk M N sc ok X) {e : Expr} {g : GF} {ts : List Nat} (h : tgF N sc ok e = some (g, ts)) : PG X e (gD X.K g ts) ∧ (assignEach [e] X.env).map (·.2) = [assign e X.env] := by
  have := tgT_ok C (tgT_ok C (tgN_ok C)) e g ts h
  exact ⟨this.1, (this.2 []).1⟩
def TgOkE (X : Cx) (f : Expr → Option (GF × List Nat)) : Prop := ∀ e g ts, f e = some (g, ts) → PG X e (gE X.K g ts) ∧ ∀ es, (assignEach (e :: es) X.env).map (·.2) = assign e X.env :: (assignEach es X.env).map (·.2) ∧ (assignEach (e :: es) X.env).map (·.1) = false :: (assignEach es X.env).map (·.1)
theorem tgP_ok (hE : EvOk M N E) (C : TxtOk M N sc (fun _ => true) X) : TgOkE X (tgP N E sc) := fun e g ts h => by
  unfold tgP at h
  split at h
  · next x p b q =>
    split at h
    · next i hi =>
      split at h
      · next hn =>
        cases h
        obtain ⟨h1, h2, h3, h4⟩ := C.slot hi
        exact ⟨pg_putF h1 h2 h3 h4 ((hE _ _ X C).1 b) hn, fun es => ⟨rfl, rfl⟩⟩
      · cases h
    · cases h
  · obtain ⟨h1, h2⟩ := tgN_ok C e g ts h
    exact ⟨pg_weak h1, h2⟩
theorem tgNs_okE {f : Expr → Option (GF × List Nat)} (hf : TgOkE X f) : ∀ {es : List Expr} {gs : List (GF × List Nat)}, tgNs f es = some gs →
    Paired (fun e (g : GF × List Nat) => PG X e (gE X.K g.1 g.2) ∧ ∀ es, (assignEach (e :: es) X.env).map (·.2) = assign e X.env :: (assignEach es X.env).map (·.2)) es gs ∧ (assignEach es X.env).length = gs.length ∧ (assignEach es X.env).map (·.1) = gs.map fun _ => false
  | [], gs, h => by cases h; exact ⟨.nil, rfl, rfl⟩
  | e :: es, gs, h => by
    unfold tgNs at h
    split at h
    · next g l h1 h2 =>
      cases h
      obtain ⟨a1, a2, a3⟩ := tgNs_okE hf h2
      obtain ⟨b1, b2⟩ := hf e g.1 g.2 h1
      refine ⟨.cons ⟨b1, fun es => (b2 es).1⟩ a1, ?_, ?_⟩
      · have := congrArg List.length (b2 es).1
        simp only [List.length_map, List.length_cons] at this
        rw [this, a2]; rfl
      · rw [(b2 es).2, a3]; rfl
    · cases h
theorem tgEF_ok (hE : EvOk M N E) (C : TxtOk M N sc (fun _ => true) X) {e : Expr} {g : GF} {ts : List Nat} (h : tgEF N E sc e = some (g, ts)) : PG X e (gE X.K g ts) ∧ (assignEach [e] X.env).map (·.2) = [assign e X.env] := by
  unfold tgEF tgT at h
  split at h
  · next es k p =>
    cases hg : tgNs (tgP N E sc) es with
    | none => rw [hg] at h; cases h
    | some gs =>
      rw [hg] at h; cases h
      obtain ⟨a1, a2, a3⟩ := tgNs_okE (tgP_ok hE C) hg
      refine ⟨pg_unpE C.calm (pgs_allE a1) a2 ?_, rfl⟩
      rw [List.findIdx?_eq_none_iff]
      intro q hq
      have : q.1 ∈ (assignEach es X.env).map (·.1) := List.mem_map_of_mem hq
      rw [a3] at this
      simpa using (List.mem_map.mp this).elim fun _ h => h.2.symm
  · obtain ⟨h1, h2⟩ := tgP_ok hE C e g ts h
    exact ⟨h1, (h2 []).1⟩
/-! ### comprehensions -/
theorem relS_eq {scope : Scope} {C : Addr} {cl : List (Str × Addr)} {env : Env} : (compEnvC scope cl C env).scope = relS scope env.scope := rfl
theorem TxtOk.blk (C : TxtOk M N sc ok X) {scope : Scope} {s : Shared} {H : Hp} {Ca : Addr} {cl : List (Str × Addr)} {fp : List Addr} (hk : scope.kind = .function) : TxtOk M N (relS scope sc) (okOf scope) (X.blk s H scope (compEnvC scope cl Ca X.env) fp) where
  calm := C.calm
  nd := C.nd
  n := C.n
  scp := by
    show relS scope X.env.scope = _
    rw [C.scp]
  kind := hk
  units := C.units
  fs := fun x f h => ⟨(C.fs x f h).ex⟩
  bi := C.bi
  cs := C.cs
  ds := fun x k h => ⟨(C.ds x k h).ex⟩
  st := fun x ho _ => by
    unfold okOf at ho
    simp only [Bool.or_eq_true, beq_iff_eq] at ho
    rcases ho with ho | ho
    · refine .inr ?_
      show (relS scope X.env.scope).names.lookup x = _
      exact lookup_relS_keep (by decide) ho
    · refine .inl ?_
      show (scope.names.lookup x == some .cell) = true
      rw [ho]; rfl
theorem ifs_ok (hE : EvOk M N E) (C : TxtOk M N sc ok X) (ifs : List Expr) : PTs X ifs (tTF X.K (ifsF E sc ifs)) := by
  unfold ifsF
  split
  · refine ⟨fun pins s σ H Q I h => pts_nil.run pins s σ H Q I ?_⟩
    obtain ⟨P0, G, st, b, st', m, e, k⟩ := h
    cases e
    exact k H G .refl m
  · exact pts_one ((hE sc ok X C).2 _)
  · refine ⟨fun pins s σ H Q I h => ?_⟩
    obtain ⟨P0, G, st, b, st', m, e, k⟩ := h
    cases e
theorem subl_mem {a b : List Nat} (h : subl a b = true) : ∀ i ∈ a, i ∈ b := fun i hi => by
  have := List.all_eq_true.mp h i hi
  simpa using this
theorem compF_ok (hE : EvOk M N E) (C : TxtOk M N sc ok X) {elt : Expr} {gens : List Comprehension} {scope : Scope} {pos : Pos} : PE X (.ListComp elt gens scope pos) (tXF X.K (compF M N E sc elt gens scope)) := by
  unfold compF
  split
  case isFalse => exact pe_bad
  next hb =>
  have hb' : BlkOk X.N X.env.scope scope (ownOf N scope) := by
    rw [C.n, C.scp]
    exact blkOk_by hb
  have hk := hb'.kind
  split
  · next tg iter ifs =>
    split
    · next g ts hg =>
      split
      · next hs =>
        simp only [Bool.and_eq_true] at hs
        exact px_lc C.calm C.nd (itF_ok hE C iter) hb' (subl_mem hs.1) (fun s H Ca cl fp => (tgF_ok (C.blk hk) hg).1) (fun s H Ca cl fp => ifs_ok hE (C.blk hk) ifs) (fun s H Ca cl fp => (hE _ _ _ (C.blk hk)).1 elt) (set_folded hs.2 X.env)
      · exact pe_bad
    · exact pe_bad
  · next tg iter ifs tg1 iter1 ifs1 =>
    split
    · next g ts g1 ts1 hg hg1 =>
      split
      · next hs =>
        simp only [Bool.and_eq_true] at hs
        exact px_lc2 C.calm C.nd (itF_ok hE C iter) hb' (subl_mem hs.1.1.1) (fun _ h => h) (subl_mem hs.1.1.2) (fun s H Ca cl fp => (tgF_ok (C.blk hk) hg).1) (fun s H Ca cl fp => ifs_ok hE (C.blk hk) ifs)
          (fun s H Ca cl fp => itF_ok hE (C.blk hk) iter1) (fun s H Ca cl fp => (tgF_ok (C.blk hk) hg1).1) (fun s H Ca cl fp => ifs_ok hE (C.blk hk) ifs1) (fun s H Ca cl fp => (hE _ _ _ (C.blk hk)).1 elt) (set_folded hs.1.2 X.env) (set_folded hs.2)
      · exact pe_bad
    · exact pe_bad
  · exact pe_bad
theorem dctOf_some (C : TxtOk M N sc ok X) {e : Expr} {kvs : List (Str × D)} (h : dctOf M sc e = some kvs) : ∃ id p, e = .Name id p ∧ Gl X id ∧ (id == ("__debug__" : Str)) = false ∧ DictOk X id kvs := by
  unfold dctOf at h
  split at h
  · next id p =>
    split at h
    · next hg => exact ⟨id, p, rfl, (C.gl hg).1, (C.gl hg).2, C.ds _ _ h⟩
    · cases h
  · cases h
theorem cmpF_ok (hE : EvOk M N E) (C : TxtOk M N sc ok X) {op : CmpOp} {a b : Expr} {pos : Pos} (hb : behindInMarks op b = false) : PE X (.Compare a [op] [b] pos) (tXF X.K (cmpF M N E sc op a b)) := by
  have hu : X.A.units + 65 < cLine := by have := C.units; omega
  unfold cmpF
  split
  · next kvs hk =>
    obtain ⟨id, p, rfl, h1, h2, h3⟩ := dctOf_some C hk
    split
    · exact px_din h1 h2 h3 (opd_ok hE C a) hb
    · exact px_dnin h1 h2 h3 (opd_ok hE C a) hb
    · exact pe_bad
  · exact px_cmp (opd_ok hE C _) (opd_ok hE C _) hb fun x y k h => cmp_ok hu h
theorem cmpT_ok (hE : EvOk M N E) (C : TxtOk M N sc ok X) {op : CmpOp} {a b : Expr} {pos : Pos} (hb : behindInMarks op b = false) : PT X (.Compare a [op] [b] pos) (tTF X.K (tBl (cmpF M N E sc op a b))) := by
  have hu : X.A.units + 65 < cLine := by have := C.units; omega
  unfold cmpF
  split
  · next kvs hk =>
    obtain ⟨id, p, rfl, h1, h2, h3⟩ := dctOf_some C hk
    split
    · exact pt_din h1 h2 h3 (opd_ok hE C a) hb
    · exact pt_dnin h1 h2 h3 (opd_ok hE C a) hb
    · exact ⟨fun pins s σ H Q I h => by obtain ⟨P0, G, s, r, s', m, e, k⟩ := h; cases e⟩
  · exact pt_cmp hu (opd_ok hE C _) (opd_ok hE C _) hb
theorem aCall_ok (hE : EvOk M N E) (C : TxtOk M N sc ok X) {o : Expr} {m : Str} {args : List Expr} {apos pos : Pos} (hl : (apos.endLine == pos.line) = true) : PE X (.Call (.Attribute o m apos) args [] pos) (tXF X.K (aCall M N E sc o m args)) := by
  unfold aCall
  split
  · next kvs hk =>
    obtain ⟨id, p, rfl, h1, h2, h3⟩ := dctOf_some C hk
    split
    · next hm =>
      subst hm
      unfold gCall
      split
      · split
        · next hs => exact px_dget1 h1 h2 h3 ((hE sc ok X C).1 _) hs hl
        · exact pe_bad
      · split
        · next hs =>
          simp only [Bool.and_eq_true] at hs
          exact px_dget2 h1 h2 h3 ((hE sc ok X C).1 _) ((hE sc ok X C).1 _) hs.1 hs.2 hl
        · exact pe_bad
      · exact pe_bad
    · exact pe_bad
  · split
    · next hs =>
      simp only [Bool.and_eq_true, decide_eq_true_eq] at hs
      obtain ⟨h1, rfl⟩ := hs
      have : args = [] := by cases args with | nil => rfl | cons _ _ => cases h1
      subst this
      split
      · next hb => exact px_meth0 (opd_ok hE C o) rfl hb hl
      · exact pe_bad
    · exact mCall_ok hE C hl
/-! ### the step -/
theorem stepX_ok (hE : EvOk M N E) (C : TxtOk M N sc ok X) (e : Expr) : PE X e (tXF X.K (stepX M N E sc e)) := by
  have hu : X.A.units + 65 < cLine := by have := C.units; omega
  unfold stepX
  split
  · exact px_c pe_non tp_none
  · exact px_c pe_bl tp_bool
  · exact px_c pe_int tp_int
  · exact px_c pe_str tp_str
  · split
    · next i hi =>
      obtain ⟨h1, h2, h3, h4⟩ := C.slot hi
      exact px_name h1 h2 h3 h4
    · split
      · next hg =>
        split
        · next d hd =>
          obtain ⟨v, u, h1, h2, h3⟩ := C.cs _ d hd
          exact px_c (pe_glob (C.gl hg).1 h1 h2 (C.gl hg).2) h3
        · exact pe_bad
      · exact pe_bad
  · exact px_bin (opd_ok hE C _) (opd_ok hE C _) fun x y r h => bin_ok h
  · exact px_neg (opd_ok hE C _)
  · exact px_not (opd_ok hE C _)
  · next vs pos =>
    cases vs with
    | nil => exact ⟨fun pins s σ H Q I h => by obtain ⟨P0, G, st, b, st', m, e, k⟩ := h; cases e⟩
    | cons a r => exact px_ands (vals_ok hE C _) (by simp)
  · next vs pos =>
    cases vs with
    | nil => exact ⟨fun pins s σ H Q I h => by obtain ⟨P0, G, st, b, st', m, e, k⟩ := h; cases e⟩
    | cons a r => exact px_ors (vals_ok hE C _) (by simp)
  · exact px_if ((hE sc ok X C).2 _) ((hE sc ok X C).1 _) ((hE sc ok X C).1 _)
  · split
    · exact pe_bad
    · next hb => exact cmpF_ok hE C (by simpa using hb)
  · split
    · exact pe_bad
    · next hb => exact px_chain hu (opd_ok hE C _) (opd_ok hE C _) (opd_ok hE C _) (by simpa using hb)
  · split
    · next hs =>
      simp only [Bool.and_eq_true, decide_eq_true_eq] at hs
      exact px_tup (pa_args (args_ok hE C _ hs.1)) (by rw [List.length_map]; exact Nat.le_trans hs.2 (by decide))
    · exact pe_bad
  · split
    · next hs =>
      simp only [Bool.and_eq_true, decide_eq_true_eq] at hs
      exact px_lst (pa_args (args_ok hE C _ hs.1)) (by rw [List.length_map]; exact Nat.le_trans hs.2 (by decide))
    · exact pe_bad
  · next a s pos =>
    split
    · exact px_sl (opd_ok hE C _) (pfO_ok hE C _) (pfO_ok hE C _)
    · exact px_rev (opd_ok hE C _)
    · exact pe_bad
    · next h1 h3 h2 =>
      have hs : notSl s = true := by
        cases s <;> first | rfl | (exact absurd rfl (h2 _ _ _ _))
      split
      · split
        · exact px_ix (opd_ok hE C _) (opd_ok hE C _) (plain_ix hs) fun x y r h => ix_ok h
        · split
          · next hg =>
            split
            · next kvs hk => exact px_dix (C.gl hg).1 (C.gl hg).2 (C.ds _ _ hk) (opd_ok hE C _) hs
            · exact px_ix (opd_ok hE C _) (opd_ok hE C _) (plain_ix hs) fun x y r h => ix_ok h
          · exact pe_bad
      · exact px_ix (opd_ok hE C _) (opd_ok hE C _) (plain_ix hs) fun x y r h => ix_ok h
  · exact compF_ok hE C
  · split
    · next hg =>
      split
      · next f hf => exact fCall_ok hE C (C.gl hg).1 (C.gl hg).2 (C.fs _ f hf)
      · split
        · next hb =>
          simp only [Bool.and_eq_true] at hb
          exact bCall_ok' hE C hb.2 (C.gl hg).1 (C.bi _ hb.1)
        · exact pe_bad
    · exact pe_bad
  · split
    · next hl => exact aCall_ok hE C hl
    · exact pe_bad
  · exact pe_bad
theorem stepT_ok (hE : EvOk M N E) (C : TxtOk M N sc ok X) (e : Expr) : PT X e (tTF X.K (stepT M N E sc e)) := by
  have hu : X.A.units + 65 < cLine := by have := C.units; omega
  unfold stepT
  split
  · exact pt_notF ((hE sc ok X C).2 _)
  · next vs pos =>
    cases vs with
    | nil => exact ⟨fun pins s σ H Q I h => by obtain ⟨P0, G, st, b, st', m, e, k⟩ := h; cases e⟩
    | cons a r => exact (pw_ands (tests_ok hE C _) (by simp)).pt
  · next vs pos =>
    cases vs with
    | nil => exact ⟨fun pins s σ H Q I h => by obtain ⟨P0, G, st, b, st', m, e, k⟩ := h; cases e⟩
    | cons a r => exact (pw_ors (tests_ok hE C _) (by simp)).pt
  · split
    · exact pt_bad
    · next hb => exact cmpT_ok hE C (by simpa using hb)
  · split
    · exact pt_bad
    · next hb => exact pt_chainF hu (opd_ok hE C _) (opd_ok hE C _) (opd_ok hE C _) (by simpa using hb)
  · exact pt_bad
  · exact pt_bad
  · next h1 h2 h3 h4 h5 h6 h7 =>
    refine pt_tru (opd_ok hE C _) fun whole => ?_
    cases e with
    | UnaryOp op a p =>
      cases op with
      | Not => exact absurd rfl (h1 _ _)
      | _ => rfl
    | BoolOp op vs p =>
      cases op with
      | And => exact absurd rfl (h2 _ _)
      | Or => exact absurd rfl (h3 _ _)
    | Compare a ops cs p => exact absurd rfl (h6 _ _ _ _)
    | IfExp a b c p => exact absurd rfl (h7 _ _ _ _)
    | _ => rfl
theorem evs_ok : ∀ n : Nat, EvOk M N (evs M N n)
  | 0 => fun sc ok X C => ⟨fun _ => pe_bad, fun _ => pt_bad⟩
  | n + 1 => fun sc ok X C => ⟨fun e => stepX_ok (evs_ok n) C e, fun e => stepT_ok (evs_ok n) C e⟩
end
end Ek

/-! ## N: statements, defs -/
namespace Ek
open PySem L2 PySem.Spec PyProof.Rows
section
variable {M : En} {N : List Str} {sc : Scope} {X : Cx} {E : Ev} {pn : List (Nat × Addr)}
theorem swaps_no {e : Expr} (h : noComp e = true) (t : Option Expr) (l : Nat) (env : Env) : swapsWith e t l env = pure false := by
  cases e <;> first | (cases h; done) | rfl
theorem swaps_tg {e : Expr} {tg : Expr} (h : ∀ x p, tg ≠ .Name x p) (l : Nat) (env : Env) : swapsWith e (some tg) l env = pure false := by
  unfold swapsWith
  split
  · cases tg <;> first | rfl | (exact absurd rfl (h _ _))
  · rfl
theorem swaps_name {e : Expr} {x : Str} {p : Pos} {l : Nat} (hk : X.env.scope.kind = .function) (h : swB X.env.scope x p e = false) (hne : (∃ a b c d, e = .ListComp a b c d) ∨ noComp e = true) : swapsWith e (some (.Name x p)) l X.env = pure false := by
  rcases hne with ⟨a, b, c, d, rfl⟩ | hne
  · have hb : X.env.blockKind = .function := by unfold Env.blockKind; rw [hk]; rfl
    unfold swapsWith
    show pure (X.env.blockKind == .function && X.env.kindOf x == some .local && p.line == (Expr.ListComp a b c d).pos.line && !(c.names.any fun (n, k) => n == x && (k == .local || k == .cell))) = _
    have h' : (X.env.scope.names.lookup x == some .local && p.line == d.line && !(c.names.any fun (n, k) => n == x && (k == .local || k == .cell))) = false := h
    have e1 : (X.env.blockKind == ScopeKind.function) = true := by rw [hb]; rfl
    rw [e1, Bool.true_and]
    show pure (X.env.scope.names.lookup x == some .local && p.line == d.line && !(c.names.any fun (n, k) => n == x && (k == .local || k == .cell))) = _
    rw [h']
  · exact swaps_no hne _ _ _
theorem swD_ok {ts vs : List Expr} {k k2 : Nat} {p p2 : Pos} {r : Option (List Str)} (hk : X.env.scope.kind = .function) (h : swD X.env.scope ts vs = some r) : swappedStores [.Tuple ts k p] (.Tuple vs k2 p2) X.env = pure r := by
  have hb : X.env.blockKind = .function := by unfold Env.blockKind; rw [hk]; rfl
  unfold swD at h
  unfold swappedStores
  show (if (!(ts.length == 2 || ts.length == 3) || vs.length != ts.length || X.env.blockKind != .function) = true then pure none else _) = _
  have e1 : (X.env.blockKind != ScopeKind.function) = false := by rw [hb]; rfl
  rw [e1, Bool.or_false]
  split at h
  · next h1 => cases h; rw [if_pos h1]
  next h1 =>
  rw [if_neg h1]
  split at h
  · next h2 => cases h; exact if_pos h2
  next h2 =>
  refine Eq.trans (if_neg h2) ?_
  simp only at h
  split at h
  · next h3 =>
    cases h
    exact if_pos h3
  next h3 =>
  refine Eq.trans (if_neg h3) ?_
  split at h
  · next h4 => cases h; exact if_pos h4
  next h4 =>
  refine Eq.trans (if_neg h4) ?_
  split at h
  · cases h
  next h5 =>
  cases h
  exact if_neg h5
theorem sw_none {tg e : Expr} (h : (∀ es k p, tg ≠ .Tuple es k p) ∧ (∀ es p, tg ≠ .List es p) ∨ ∀ es k p, e ≠ .Tuple es k p) : swappedStores [tg] e X.env = pure none := by
  cases tg with
  | Tuple ts k p =>
    cases e with
    | Tuple vs k2 p2 =>
      rcases h with ⟨h, _⟩ | h
      · exact absurd rfl (h _ _ _)
      · exact absurd rfl (h _ _ _)
    | _ => rfl
  | List ts p =>
    cases e with
    | Tuple vs k2 p2 =>
      rcases h with ⟨_, h⟩ | h
      · exact absurd rfl (h _ _)
      · exact absurd rfl (h _ _ _)
    | _ => rfl
  | _ => rfl
theorem pin_of {io : List Nat} (hpn : pn.map (·.1) = io) {i : Nat} (h : io.contains i = false) : ∀ p ∈ pn, p.1 ≠ i := fun p hp e => by
  have : i ∈ io := by rw [← hpn, ← e]; exact List.mem_map_of_mem hp
  rw [List.contains_iff_mem.mpr this] at h
  cases h
theorem pin_all {io is : List Nat} (hpn : pn.map (·.1) = io) (h : is.any (io.contains ·) = false) : ∀ p ∈ pn, p.1 ∉ is := fun p hp e => by
  have h1 : p.1 ∈ io := by rw [← hpn]; exact List.mem_map_of_mem hp
  have : is.any (io.contains ·) = true := List.any_eq_true.mpr ⟨p.1, e, List.contains_iff_mem.mpr h1⟩
  rw [this] at h; cases h
/-- a statement's context -/
structure TxtS (M : En) (N : List Str) (sc : Scope) (X : Cx) (pn : List (Nat × Addr)) (io : List Nat) : Prop where
  txt : TxtOk M N sc (fun _ => true) X
  pins : pn.map (·.1) = io
  passes : PassesOwn (model X.prog X.w) X.A X.env X.xe
theorem lc_set {io : List Nat} (hE : EvOk M N E) (C : TxtS M N sc X pn io) {i : Nat} {x : Str} {p pos spos : Pos} {elt : Expr} {gens : List Comprehension} {scope : Scope} (hl : locOf N sc (fun _ => true) x = some i) (hi : io.contains i = false) (hsw : swB X.env.scope x p (.ListComp elt gens scope pos) = true) :
    PS X (.Assign [.Name x p] (.ListComp elt gens scope pos) spos) (tSF X.K pn (sSet i (compF M N E sc elt gens scope))) := by
  have C1 := C.txt
  obtain ⟨h1, h2, h3⟩ := C1.loc hl
  have hk : X.env.scope.kind = .function := by rw [C1.scp]; exact C1.kind
  have sw : X.env.scope.names.lookup x = some .local ∧ (p.line == pos.line) = true ∧ (scope.names.any fun (n, k) => n == x && (k == .local || k == .cell)) = false := by
    have h' : (X.env.scope.names.lookup x == some .local && p.line == pos.line && !(scope.names.any fun (n, k) => n == x && (k == .local || k == .cell))) = true := hsw
    simp only [Bool.and_eq_true, beq_iff_eq, Bool.not_eq_true'] at h'
    exact ⟨h'.1.1, by simpa using h'.1.2, h'.2⟩
  have bad : PS X (.Assign [.Name x p] (.ListComp elt gens scope pos) spos) (tSF X.K pn (sSet i badX)) := ⟨fun pins s σ H Q I h => by obtain ⟨P0, G, s, r, s', m, hp, e, k⟩ := h; cases e⟩
  unfold compF
  split
  case isFalse => exact bad
  next hb =>
  have hb' : BlkOk X.N X.env.scope scope (ownOf N scope) := by
    rw [C1.n, C1.scp]
    exact blkOk_by hb
  have hkk := hb'.kind
  split
  · next tg iter ifs =>
    split
    · next g ts hg =>
      split
      · next hs =>
        simp only [Bool.and_eq_true] at hs
        refine ps_imp (ps_setLc (te := tZF X.K (E.x (relS scope sc) elt)) (tt := tTF X.K (ifsF E (relS scope sc) ifs)) (g := gD X.K g ts) C1.calm C1.nd h1 sw.1 (sw_true hk sw.1 sw.2.1 sw.2.2) (itF_ok hE C1 iter) hb' (fun s H Ca cl fp => (tgF_ok (C1.blk hkk) hg).1) (fun s H Ca cl fp => ifs_ok hE (C1.blk hkk) ifs) (fun s H Ca cl fp => pz_of ((hE _ _ _ (C1.blk hkk)).1 elt)) (set_folded hs.2 X.env)) fun D σ H q => ?_
        exact set_read (X := X) (pin_of C.pins hi) (fun σ H Q h => lc_read (subl_mem hs.1) h) q
      · exact bad
    · exact bad
  · next tg iter ifs tg1 iter1 ifs1 =>
    split
    · next g ts g1 ts1 hg hg1 =>
      split
      · next hs =>
        simp only [Bool.and_eq_true] at hs
        refine ps_imp (ps_setLc2 (vs1 := ts1) (te := tZF X.K (E.x (relS scope sc) elt)) (tt := tTF X.K (ifsF E (relS scope sc) ifs)) (tt1 := tTF X.K (ifsF E (relS scope sc) ifs1)) (g := gD X.K g ts) (g1 := gD X.K g1 ts1) (wi1 := iAF X.K (itF M E (relS scope sc) tg1 iter1)) C1.calm C1.nd h1 sw.1 (sw_true hk sw.1 sw.2.1 sw.2.2) (itF_ok hE C1 iter) hb' (subl_mem hs.1.1.2) (fun s H Ca cl fp => (tgF_ok (C1.blk hkk) hg).1) (fun s H Ca cl fp => ifs_ok hE (C1.blk hkk) ifs)
          (fun s H Ca cl fp => itF_ok hE (C1.blk hkk) iter1) (fun s H Ca cl fp => (tgF_ok (C1.blk hkk) hg1).1) (fun s H Ca cl fp => ifs_ok hE (C1.blk hkk) ifs1) (fun s H Ca cl fp => pz_of ((hE _ _ _ (C1.blk hkk)).1 elt)) (set_folded hs.1.2 X.env) (set_folded hs.2)) fun D σ H q => ?_
        exact set_read (X := X) (pin_of C.pins hi) (fun σ H Q h => lc2_read (subl_mem hs.1.1.1) (fun _ h => h) (subl_mem hs.1.1.2) h) q
      · exact bad
    · exact bad
  · exact bad
/-- the ways that statements may have of a comprehension's text: what was read as its own -/
def EvLc (M : En) (N : List Str) (E0 E : Ev) : Prop := ∀ sc elt gens scope pos, E.x sc (.ListComp elt gens scope pos) = compF M N E0 sc elt gens scope
def EvBad (E : Ev) : Prop := ∀ sc e, noComp e = false → (∀ a b c d, e ≠ .ListComp a b c d) → E.x sc e = badX
theorem locs_ok (C : TxtOk M N sc (fun _ => true) X) : ∀ {ts : List Expr} {is : List Nat}, locsOf N sc ts = some is → Paired (fun e i => PG X e (gName i) ∧ ∀ es, (assignEach (e :: es) X.env).map (·.2) = assign e X.env :: (assignEach es X.env).map (·.2)) ts is ∧ (assignEach ts X.env).length = is.length ∧ (assignEach ts X.env).map (·.1) = is.map fun _ => false
  | [], is, h => by cases h; exact ⟨.nil, rfl, rfl⟩
  | e :: ts, is, h => by
    unfold locsOf at h
    split at h
    · cases ‹_ = []›
    · next x p r he =>
      cases he
      split at h
      · next i l h1 h2 =>
        cases h
        obtain ⟨a1, a2, a3⟩ := locs_ok C h2
        obtain ⟨b1, b2, b3⟩ := C.loc h1
        refine ⟨.cons ⟨pg_name C.nd b1 b2 b3, fun es => rfl⟩ a1, ?_, ?_⟩
        · show (assignEach ts X.env).length + 1 = l.length + 1
          rw [a2]
        · show false :: (assignEach ts X.env).map (·.1) = _
          rw [a3]; rfl
      · cases h
    · cases h
theorem row_ok {io : List Nat} (hE : EvOk M N E) (C : TxtS M N sc X pn io) {ts : List Expr} {kk : Nat} {tp pos : Pos} {e : Expr} {f : FS} {as : List OF} {is : List Nat} (hr : rowF M N E sc e = some (f, as)) (hl : locsOf N sc ts = some is) (hio : is.any (io.contains ·) = false) :
    PS X (.Assign [.Tuple ts kk tp] e pos) (tSF X.K pn (sUnR is f as)) := by
  have C1 := C.txt
  unfold rowF at hr
  split at hr
  · next id p args cp =>
    split at hr
    · next hg =>
      split at hr
      · next f' hf =>
        split at hr
        · next hc =>
          cases hr
          simp only [Bool.and_eq_true, Bool.not_eq_true', decide_eq_true_eq] at hc
          obtain ⟨⟨⟨h1, h2⟩, h3⟩, h4⟩ := hc
          cases args with
          | nil => cases h3
          | cons a r =>
            obtain ⟨a1, a2, a3⟩ := locs_ok C1 hl
            refine ps_unR (pin_all C.pins hio) C1.calm (C1.fs _ f hf) (C1.gl hg).1 (C1.gl hg).2 h2 (pa_oargs (argOs_ok hE C1 f.io _ 0 h2)) (by rw [argOs_len]; exact h4) (pgs_row a1) a2 ?_
            rw [List.findIdx?_eq_none_iff]
            intro q hq
            have : q.1 ∈ (assignEach ts X.env).map (·.1) := List.mem_map_of_mem hq
            rw [a3] at this
            simpa using (List.mem_map.mp this).elim fun _ h => h.2.symm
        · cases hr
      · cases hr
    · cases hr
  · cases hr
theorem mvX_ok (hE : EvOk M N E) (C : TxtOk M N sc (fun _ => true) X) (e : Expr) : PE X e (tXF X.K (mvX N E sc e)) := by
  unfold mvX
  split
  · split
    · next i hi =>
      obtain ⟨h1, h2, h3, h4⟩ := C.slot hi
      exact px_mv h1 h2 h3 h4
    · exact (hE _ _ X C).1 _
  · exact (hE _ _ X C).1 _
theorem mvs_ok (hE : EvOk M N E) (C : TxtOk M N sc (fun _ => true) X) : ∀ es : List Expr, es.all notStar = true → Paired (fun e f => PE X e (tXF X.K f) ∧ ∀ es, starEach (e :: es) X.env = (false, eval e X.env) :: starEach es X.env) es (es.map (mvX N E sc))
  | [], _ => .nil
  | e :: es, h => by
    simp only [List.all_cons, Bool.and_eq_true] at h
    exact .cons ⟨mvX_ok hE C e, fun es => star_of h.1 es X.env⟩ (mvs_ok hE C es h.2)
theorem asgF_ok {io : List Nat} {E0 : Ev} (hE : EvOk M N E) (hE0 : EvOk M N E0) (hL : EvLc M N E0 E) (hB : EvBad E) (C : TxtS M N sc X pn io) {tg e : Expr} {pos : Pos} : PS X (.Assign [tg] e pos) (tSF X.K pn (asgF M N E sc io tg e)) := by
  have C1 := C.txt
  have hk : X.env.scope.kind = .function := by rw [C1.scp]; exact C1.kind
  unfold asgF
  split
  · next x p =>
    split
    · next i hi =>
      obtain ⟨h1, h2, h3⟩ := C1.loc hi
      split
      · exact ps_bad
      next hio =>
      have hio' : io.contains i = false := by simpa using hio
      have plain : ((∃ a b c d, e = .ListComp a b c d) ∨ noComp e = true) → swB X.env.scope x p e = false → PS X (.Assign [.Name x p] e pos) (tSF X.K pn (sSet i (E.x sc e))) := fun hne hsw =>
        ps_setF (pin_of C.pins hio') C1.nd h1 h2 ((hE _ _ X C1).1 e) (swaps_name hk hsw hne) h3
      by_cases hlc : ∃ a b c d, e = .ListComp a b c d
      · obtain ⟨a, b, c, d, rfl⟩ := hlc
        cases hsw : swB X.env.scope x p (.ListComp a b c d) with
        | true =>
          rw [hL]
          exact lc_set hE0 C hi hio' hsw
        | false => exact plain (.inl ⟨a, b, c, d, rfl⟩) hsw
      · cases hnc : noComp e with
        | true =>
          refine plain (.inr hnc) ?_
          cases e <;> first | rfl | (cases hnc)
        | false =>
          rw [hB sc e hnc fun a b c d z => hlc ⟨a, b, c, d, z⟩]
          exact ⟨fun pins s σ H Q I h => by obtain ⟨P0, G, s, r, s', m, hp, e, k⟩ := h; cases e⟩
    · exact ps_bad
  · next x px b tp =>
    split
    · next i hi =>
      obtain ⟨h1, h2, h3, h4⟩ := C1.slot hi
      split
      · next hn =>
        exact ps_putF h1 h2 h3 h4 ((hE _ _ X C1).1 b) ((hE _ _ X C1).1 e) hn (show swapsWith e (some (.Subscript (.Name x px) b tp)) pos.line X.env = pure false from swaps_tg (by intro _ _ z; cases z) _ _) (sw_none (.inl ⟨(by intro _ _ _ z; cases z), by intro _ _ z; cases z⟩))
      · exact ps_bad
    · exact ps_bad
  · next ts kk p =>
    have sole : swapsWithSole [.Tuple ts kk p] e pos.line X.env = pure false := show swapsWith e (some (.Tuple ts kk p)) pos.line X.env = pure false from swaps_tg (by intro _ _ z; cases z) _ _
    split
    · next vs k2 p2 =>
      split
      · exact ps_bad
      · next hsw =>
        split
        · next g is hg =>
          split
          · exact ps_bad
          next hio =>
          obtain ⟨g1, g2⟩ := tgF_ok C1 hg
          exact ps_tgF (pin_all C.pins (by simpa using hio)) ((hE _ _ X C1).1 _) g1 sole (swD_ok hk (by rw [C1.scp]; exact hsw)) g2
        · split
          · next g is hg =>
            split
            · exact ps_bad
            next hio =>
            obtain ⟨g1, g2⟩ := tgEF_ok hE C1 hg
            exact ps_tgE (pin_all C.pins (by simpa using hio)) ((hE _ _ X C1).1 _) g1 sole (swD_ok hk (by rw [C1.scp]; exact hsw)) g2
          · exact ps_bad
      · next names hsw =>
        split
        · next x px y py a b =>
          split
          · next i j hi hj =>
            split
            · exact ps_bad
            next hio =>
            simp only [Bool.or_eq_true, not_or, Bool.not_eq_true, Bool.not_eq_false', Bool.and_eq_true, decide_eq_true_eq, isLo, beq_iff_eq] at hio
            obtain ⟨⟨⟨hio, ha⟩, hb⟩, ⟨⟨hx, hy⟩, hn⟩, hij⟩ := hio
            obtain ⟨h1, h2, h3⟩ := C1.loc hi
            obtain ⟨j1, j2, j3⟩ := C1.loc hj
            subst hn
            rw [← C1.scp] at hx hy
            refine ps_par2F (fun k hk p hp e => pin_all C.pins hio p hp (by rw [e]; exact hk)) C1.calm C1.nd h1 j1 hij hx hy (pa_rargs (.cons ⟨(hE _ _ X C1).1 a, fun es => star_of ha es X.env⟩ (.cons ⟨(hE _ _ X C1).1 b, fun es => star_of hb es X.env⟩ .nil))) (swD_ok hk (by rw [C1.scp]; exact hsw))
          · exact ps_bad
        · next x px y py z pz a b c =>
          split
          · next i j l hi hj hl =>
            split
            · exact ps_bad
            next hio =>
            simp only [Bool.or_eq_true, not_or, Bool.not_eq_true, Bool.not_eq_false', Bool.and_eq_true, decide_eq_true_eq, isLo, beq_iff_eq] at hio
            obtain ⟨⟨⟨⟨hio, ha⟩, hb⟩, hc⟩, ⟨⟨⟨⟨⟨hx, hy⟩, hz⟩, hn⟩, hij⟩, hil⟩, hjl⟩ := hio
            obtain ⟨h1, h2, h3⟩ := C1.loc hi
            obtain ⟨j1, j2, j3⟩ := C1.loc hj
            obtain ⟨l1, l2, l3⟩ := C1.loc hl
            subst hn
            rw [← C1.scp] at hx hy hz
            refine ps_par3F (fun k hk p hp e => pin_all C.pins hio p hp (by rw [e]; exact hk)) C1.calm C1.nd h1 j1 l1 hij hil hjl hx hy hz (pa_rargs (.cons ⟨(hE _ _ X C1).1 a, fun es => star_of ha es X.env⟩ (.cons ⟨(hE _ _ X C1).1 b, fun es => star_of hb es X.env⟩ (.cons ⟨(hE _ _ X C1).1 c, fun es => star_of hc es X.env⟩ .nil)))) (swD_ok hk (by rw [C1.scp]; exact hsw))
          · exact ps_bad
        · exact ps_bad
    · next hnt =>
      split
      · next f as is hr hl =>
        split
        · exact ps_bad
        next hio => exact row_ok hE C hr hl (by simpa using hio)
      split
      · next g is hg =>
        split
        · exact ps_bad
        next hio =>
        obtain ⟨g1, g2⟩ := tgF_ok C1 hg
        exact ps_tgF (pin_all C.pins (by simpa using hio)) ((hE _ _ X C1).1 _) g1 sole (sw_none (.inr fun es k p z => hnt _ _ _ z)) g2
      · split
        · next g is hg =>
          split
          · exact ps_bad
          next hio =>
          obtain ⟨g1, g2⟩ := tgEF_ok hE C1 hg
          exact ps_tgE (pin_all C.pins (by simpa using hio)) ((hE _ _ X C1).1 _) g1 sole (sw_none (.inr fun es k p z => hnt _ _ _ z)) g2
        · exact ps_bad
  · exact ps_bad
theorem stm_ok {io : List Nat} {E0 : Ev} (hE : EvOk M N E) (hE0 : EvOk M N E0) (hL : EvLc M N E0 E) (hB : EvBad E) (C : TxtS M N sc X pn io) {B : List Stmt → SF} (hBd : ∀ sts, PSs X sts (tSF X.K pn (B sts))) (st : Stmt) : PS X st (tSF X.K pn (stm M N E sc io B st)) := by
  have C1 := C.txt
  unfold stm
  split
  · exact asgF_ok hE hE0 hL hB C
  · split
    · next i hi =>
      obtain ⟨h1, h2, h3⟩ := C1.loc hi
      split
      · exact ps_bad
      next hio => exact ps_augF (pin_of C.pins (by simpa using hio)) C1.nd h1 h2 (opd_ok hE C1 _) h3
    · exact ps_bad
  · split
    · next i hi =>
      obtain ⟨h1, h2, h3, h4⟩ := C1.slot hi
      split
      · next hn => exact ps_putOpF h1 h2 h3 h4 ((hE _ _ X C1).1 _) ((hE _ _ X C1).1 _) hn
      · exact ps_bad
    · exact ps_bad
  · exact ps_ifF ((hE _ _ X C1).2 _) (hBd _) (hBd _)
  · split
    · next g is hg =>
      split
      · exact ps_bad
      next hio =>
      simp only [Bool.or_eq_true, not_or, Bool.not_eq_true, Bool.not_eq_false'] at hio
      exact ps_forF (pin_all C.pins hio.1) C.passes C1.calm (itF_ok hE C1 _) (tgF_ok C1 hg).1 (hBd _) (set_folded hio.2 X.env)
    · exact ps_bad
  · exact ps_whF C.passes ((hE _ _ X C1).2 _) (hBd _)
  · exact ps_ret0F
  · split
    · split
      · next i hi =>
        obtain ⟨h1, h2, h3, h4⟩ := C1.slot hi
        exact ps_retNF h1 h2 h3 h4
      · exact ps_retF ((hE _ _ X C1).1 _)
    · split
      · next hc =>
        simp only [Bool.and_eq_true, decide_eq_true_eq] at hc
        refine ps_row (pa_rargs (mvs_ok hE C1 _ hc.1.2)) ?_
        rw [List.length_map]
        exact Nat.le_trans hc.2 (by decide)
      · exact ps_retF ((hE _ _ X C1).1 _)
    · exact ps_retF ((hE _ _ X C1).1 _)
  · exact ps_imp ps_doc fun D σ H q => by
      obtain ⟨P0, G, s, fl, s', m, hp, e, k⟩ := q
      cases e
      exact k σ H G .refl m hp rfl
  · split
    · next hn => exact ps_exprF ((hE _ _ X C1).1 _) (swaps_no hn _ _ _)
    · exact ps_bad
  · exact ps_passF
  · exact ps_brkF
  · exact ps_cntF
  · exact ps_bad
theorem stms_ok {io : List Nat} {E0 : Ev} (hE : EvOk M N E) (hE0 : EvOk M N E0) (hL : EvLc M N E0 E) (hB : EvBad E) (C : TxtS M N sc X pn io) : ∀ (n : Nat) (sts : List Stmt), PSs X sts (tSF X.K pn (stms M N E sc io n sts))
  | 0, _ => pss_bad
  | n + 1, [] => pss_nilF
  | n + 1, st :: r => pss_consF (stm_ok hE hE0 hL hB C (fun sts => stms_ok hE hE0 hL hB C n sts) st) (stms_ok hE hE0 hL hB C n r)
theorem evs_lc (n : Nat) : EvLc M N (evs M N n) (evs M N (n + 1)) := fun _ _ _ _ _ => rfl
theorem evs_badC (n : Nat) : EvBad (evs M N (n + 1)) := fun sc e h1 h2 => by
  cases e <;> first | (cases h1; done) | rfl | (exact absurd rfl (h2 _ _ _ _))
end
end Ek

/-! ## O: defs, the law -/
namespace Ek
open PySem L2 PySem.Spec PyProof.Rows
theorem entL_len {io : Option Nat} : ∀ (xs : List D) (k : Nat), (entL io k xs).length = xs.length
  | [], _ => rfl
  | x :: r, k => by simp [entL, entL_len r (k + 1)]
theorem entL_get {io : Option Nat} : ∀ (xs : List D) (k i : Nat) (r : R), (entL io k xs)[i]? = some (some r) → ∃ x, xs[i]? = some x ∧ ((io = some (k + i) ∧ ∃ ys, x = .list ys ∧ r = .own ys) ∨ ((io ≠ some (k + i) ∨ ∀ ys, x ≠ .list ys) ∧ r = .d x))
  | [], k, i, r, h => by simp [entL] at h
  | x :: xs, k, 0, r, h => by
    simp only [entL, List.getElem?_cons_zero, Option.some.injEq] at h
    refine ⟨x, rfl, ?_⟩
    split at h
    · next hio =>
      cases x with
      | list ys => cases h; exact .inl ⟨hio, ys, rfl, rfl⟩
      | _ => cases h; exact .inr ⟨.inr (fun ys z => nomatch z), rfl⟩
    · next hio => cases h; exact .inr ⟨.inl hio, rfl⟩
  | x :: xs, k, i + 1, r, h => by
    simp only [entL, List.getElem?_cons_succ] at h ⊢
    obtain ⟨y, e, q⟩ := entL_get xs (k + 1) i r h
    exact ⟨y, e, by rw [show k + (i + 1) = k + 1 + i by omega]; exact q⟩
theorem start_get {N : List Str} {vs : List V} {i : Nat} {v : V} (h : vs[i]? = some v) : (L2.start N vs)[i]? = some (some v) := by
  unfold L2.start
  have hi : i < vs.length := (List.getElem?_eq_some_iff.mp h).1
  rw [List.getElem?_append_left (by simpa using hi), List.getElem?_map, h]
  rfl
/-- a dict of the module -/
def DctIn (K : PySem.W.Frag) (w : World) (mg : Str → Option Value) (x : Str) (kvs : List (Str × D)) : Prop := ∃ a es n, mg x = some (.ref a) ∧ KDict K w a es n ∧ ∀ k, (kvs.lookup k = none ∧ PySem.W.nsIn K a k = some none) ∨ ∃ d u v, kvs.lookup k = some d ∧ PySem.W.nsIn K a k = some (some u) ∧ L2.RelV v u ∧ Tp K (fun _ => none) d v
mutual
/-- a value of the module is what it was read as -/
def dvB (K : PySem.W.Frag) : D → Value → Bool
  | .none, .none => true
  | .bool b, .bool c => b == c
  | .int i, .int j _ => decide (i = j)
  | .str x, .str y _ => decide (x = y)
  | .tuple ds, .ref a => (match K.lookup a with
    | some o => (match o.cls, o.data with
      | .type t, .seq its _ => decide (t = "tuple") && decide (its.size ≤ 1000) && dvL K ds its.toList
      | _, _ => false)
    | none => false)
  | _, _ => false
def dvL (K : PySem.W.Frag) : List D → List Value → Bool
  | [], [] => true
  | d :: ds, u :: us => dvB K d u && dvL K ds us
  | _, _ => false
end
mutual
theorem dvB_ok {K : PySem.W.Frag} : ∀ (d : D) (u : Value), dvB K d u = true → ∃ v, L2.RelV v u ∧ Tp K (fun _ => none) d v
  | .none, u, h => by
    cases u <;> first | (simp [dvB] at h; done) | exact ⟨.non, rfl, by simp [Tp]⟩
  | .bool b, u, h => by
    cases u <;> first | (simp [dvB] at h; done) | (simp [dvB] at h; subst h; exact ⟨.bl b, rfl, by simp [Tp]⟩)
  | .int b, u, h => by
    cases u <;> first | (simp [dvB] at h; done) | (simp [dvB] at h; subst h; exact ⟨.int b, ⟨_, rfl⟩, by simp [Tp]⟩)
  | .str b, u, h => by
    cases u <;> first | (simp [dvB] at h; done) | (simp [dvB] at h; subst h; exact ⟨.str b, ⟨_, rfl⟩, by simp [Tp]⟩)
  | .list _, u, h => by cases u <;> simp [dvB] at h
  | .dict _, u, h => by cases u <;> simp [dvB] at h
  | .tuple ds, u, h => by
    cases u with
    | ref a =>
      simp only [dvB] at h
      split at h
      · next o ho =>
        split at h
        · next t its n hc hd =>
          simp only [Bool.and_eq_true, decide_eq_true_eq] at h
          obtain ⟨⟨rfl, hz⟩, hl⟩ := h
          obtain ⟨vs, h1, h2⟩ := dvL_ok ds its.toList hl
          refine ⟨.ref a, rfl, ?_⟩
          simp only [Tp]
          exact ⟨a, vs, rfl, .inr ⟨o, its, n, ho, hc, hd, Nat.le_trans hz (by decide), h1⟩, h2⟩
        · cases h
      · cases h
    | _ => simp [dvB] at h
theorem dvL_ok {K : PySem.W.Frag} : ∀ (ds : List D) (us : List Value), dvL K ds us = true → ∃ vs, Vals vs us ∧ TpL K (fun _ => none) ds vs
  | [], us, h => by
    cases us with
    | nil => exact ⟨[], .nil, .nil⟩
    | cons _ _ => simp [dvL] at h
  | d :: ds, us, h => by
    cases us with
    | nil => simp [dvL] at h
    | cons u us =>
      simp only [dvL, Bool.and_eq_true] at h
      obtain ⟨v, h1, h2⟩ := dvB_ok d u h.1
      obtain ⟨vs, h3, h4⟩ := dvL_ok ds us h.2
      exact ⟨v :: vs, .cons h1 h3, .cons h2 h4⟩
end
def dentB (K : PySem.W.Frag) : List (Str × D) → List DictEntry → Bool
  | [], [] => true
  | p :: r, e :: es => (match e.key with | .str x _ => decide (x = p.1) | _ => false) && dvB K p.2 e.val && dentB K r es
  | _, _ => false
theorem dentB_ok {K : PySem.W.Frag} : ∀ {kvs : List (Str × D)} {es : List DictEntry}, dentB K kvs es = true → es.any (·.refKey) = false ∧ ∀ k, (kvs.lookup k = none ∧ es.find? (·.key.isStr k) = none) ∨ ∃ d e v, kvs.lookup k = some d ∧ es.find? (·.key.isStr k) = some e ∧ L2.RelV v e.val ∧ Tp K (fun _ => none) d v
  | [], es, h => by
    cases es with
    | nil => exact ⟨rfl, fun k => .inl ⟨rfl, rfl⟩⟩
    | cons _ _ => simp [dentB] at h
  | (k0, d0) :: r, es, h => by
    cases es with
    | nil => simp [dentB] at h
    | cons e es =>
      obtain ⟨eh, ek, ev⟩ := e
      simp only [dentB, Bool.and_eq_true] at h
      obtain ⟨⟨h1, h2⟩, h3⟩ := h
      cases ek with
      | str x t =>
        simp only [decide_eq_true_eq] at h1
        subst h1
        obtain ⟨i1, i2⟩ := dentB_ok h3
        refine ⟨by rw [List.any_cons, i1]; rfl, fun k => ?_⟩
        obtain ⟨v, hv1, hv2⟩ := dvB_ok d0 ev h2
        by_cases hk : x = k
        · subst hk
          refine .inr ⟨d0, ⟨eh, .str x t, ev⟩, v, by simp [List.lookup], ?_, hv1, hv2⟩
          rw [List.find?_cons_of_pos]
          show (x == x) = true
          simp
        · have e1 : (((x, d0) :: r).lookup k) = r.lookup k := by
            rw [List.lookup_cons]
            rw [show (k == x) = false from by simpa using fun z => hk z.symm]
          have e2 : ((⟨eh, .str x t, ev⟩ :: es : List DictEntry).find? (·.key.isStr k)) = es.find? (·.key.isStr k) := by
            rw [List.find?_cons_of_neg]
            show ¬ ((x == k) = true)
            simpa using hk
          rw [e1, e2]
          exact i2 k
      | _ => cases h1
theorem dict_mk {K : PySem.W.Frag} {w : World} {mg : Str → Option Value} {x : Str} {a : Addr} {es : Array DictEntry} {n : Nat} {kvs : List (Str × D)} (g : mg x = some (.ref a)) (l : K.lookup a = some ⟨.type "dict", none, .dict es n, #[]⟩) (kl : PySem.W.KeysLit w.params es.toList) (lo : (a == sysModules) = false) (v : dentB K kvs es.toList = true) : DctIn K w mg x kvs := by
  obtain ⟨h1, h2⟩ := dentB_ok v
  refine ⟨a, es, n, g, ⟨l, kl, lo⟩, fun k => ?_⟩
  unfold PySem.W.nsIn
  rw [l]
  simp only
  rcases h2 k with ⟨q1, q2⟩ | ⟨d, e, v, q1, q2, q3, q4⟩
  · rw [q2]
    simp only [h1]
    exact .inl ⟨q1, rfl⟩
  · rw [q2]
    exact .inr ⟨d, e.val, v, q1, rfl, q3, q4⟩
theorem const_mk {K : PySem.W.Frag} {mg : Str → Option Value} {x : Str} {u : Value} {d : D} (g : mg x = some u) (v : dvB K d u = true) : ∃ v u, mg x = some u ∧ L2.RelV v u ∧ Tp K (fun _ => none) d v := by
  obtain ⟨v, h1, h2⟩ := dvB_ok d u v
  exact ⟨v, u, g, h1, h2⟩
/-- the facts of the module -/
structure ModOk (P : Program) (w : World) (K : PySem.W.Frag) (mg : Str → Option Value) (base : Heap) (M : En) (k : Nat) : Prop where
  fs : ∀ x f, M.fs x = some f → ∃ (ad : Addr) (fd : FuncData), FnOk P w K mg base CX0 k ad fd f.ps (spF K f) ∧ mg x = some (.ref ad) ∧ PySem.W.keepIn K (.ref ad) = true ∧ Binds K fd f.ps [] ∧
    ∀ ks ∈ f.kl, KBinds K fd f.ps ks (fun us ws => (pick f.ps ks us ws).getD []) (fun us ws => (pick f.ps ks us ws).getD [])
  bi : ∀ x, M.bi x = true → mg x = none
  cs : ∀ x d, M.cs x = some d → ∃ v u, mg x = some u ∧ RelV v u ∧ Tp K (fun _ => none) d v
  ds : ∀ x kvs, M.ds x = some kvs → DctIn K w mg x kvs
section
variable {P : Program} {w : World} {K : PySem.W.Frag} {mg : Str → Option Value} {base : Heap} {M : En} {k : Nat}
theorem ModOk.rowd (h : ModOk P w K mg base M k) (b : Bool) : ModOk P w K mg base { M with row := b } k := ⟨h.fs, h.bi, h.cs, h.ds⟩
theorem ModOk.fuel (h : ModOk P w K mg base M k) (n : Nat) : ModOk P w K mg base { M with fuel := n } k := ⟨h.fs, h.bi, h.cs, h.ds⟩
theorem txt_of (h : ModOk P w K mg base M k) {N ps : List Str} {qual : Str} {scope : Scope} {f : Addr} {cdv : Value} {A : Around} {outer : List Env} {s : Shared} {H : Hp} {E : XK} (S : FnScope N ps scope) (hr : Room k (A.deeper (envOfC qual scope s.heap.objs.size f cdv))) :
    TxtOk M N scope (fun _ => true) (cxOf CX0 P w K mg base N qual scope f cdv A outer s H E).nox where
  calm := rfl
  nd := S.nd
  n := rfl
  scp := rfl
  kind := S.kind
  units := by
    have := hr.un
    show (A.deeper (envOfC qual scope s.heap.objs.size f cdv)).units + 100 < cLine
    omega
  fs := fun x f hf => by
    obtain ⟨ad, fd, h1, h2, h3, h4, h5⟩ := h.fs x f hf
    exact ⟨k, ad, fd, h1, hr, h2, h3, h4, h5⟩
  bi := h.bi
  cs := h.cs
  ds := fun x kvs hk => ⟨h.ds x kvs hk⟩
  st := fun x _ _ => .inl rfl
/-- the body of a def, as it was read -/
def bodyF (M : En) (N : List Str) (st : Stmt) (io : List Nat) : SF := stms M N (evs M N 31) (defScope st) io 100 (defBody st)
theorem body_ok (h : ModOk P w K mg base M k) {N ps : List Str} {qual : Str} {st : Stmt} {f : Addr} {cdv : Value} {A : Around} {outer : List Env} {s : Shared} {H : Hp} {E : XK} (S : FnScope N ps (defScope st)) (hr : Room k (A.deeper (envOfC qual (defScope st) s.heap.objs.size f cdv)))
    {pn : List (Nat × Addr)} {io : List Nat} (hpn : pn.map (·.1) = io) :
    PSs (cxOf CX0 P w K mg base N qual (defScope st) f cdv A outer s H E).nox (defBody st) (tSF K pn (bodyF M N st io)) :=
  stms_ok (evs_ok 31) (evs_ok 30) (evs_lc 30) (evs_badC 30) ⟨txt_of h S hr, hpn, PassesOwn.never⟩ 100 (defBody st)
/-- the io parameter's place -/
def ioL : Option Nat → List Nat
  | none => []
  | some k => [k]
theorem fnRun_inv {n : Nat} {io : Option Nat} {body : SF} {xs : List D} {r : R} {ys : List D} (h : fnRun n io body xs = .ok (r, ys)) : ∃ fl s', body (entry n io xs) = .ok (fl, s') ∧ outOf io s' = some ys ∧ (∀ ns, r ≠ .scr ns) ∧ ((fl = .nx ∧ r = .d .none) ∨ fl = .rt r) := by
  obtain ⟨⟨fl, s'⟩, e1, h⟩ := Rs.bind_inv h
  refine ⟨fl, s', e1, ?_⟩
  cases fl with
  | nx =>
    obtain ⟨o, e2, h⟩ := Rs.bind_inv h
    cases h
    exact ⟨gv_inv e2, (fun ns z => nomatch z), .inl ⟨rfl, rfl⟩⟩
  | bk => cases h
  | ct => cases h
  | rt u =>
    cases u with
    | d x =>
      obtain ⟨o, e2, h⟩ := Rs.bind_inv h
      cases h
      exact ⟨gv_inv e2, (fun ns z => nomatch z), .inr rfl⟩
    | own x =>
      obtain ⟨o, e2, h⟩ := Rs.bind_inv h
      cases h
      exact ⟨gv_inv e2, (fun ns z => nomatch z), .inr rfl⟩
    | scr x => cases h
  | rw u => cases h
/-- THE RULE for a def: what its body does to its frame -/
theorem fn_ok {x qual : Str} {st : Stmt} {f : Addr} {fd : FuncData} {N : List Str} (fs : FS) (F : Fun K x qual st f fd) (S : FnScope N fs.ps (defScope st)) (h : ModOk P w K mg base M k)
    (hb : ∀ xs r ys, fs.run xs = some (r, ys) → xs.length = fs.ps.length → ∃ n, fnRun N.length fs.io (bodyF { M with fuel := n } N st (ioL fs.io)) xs = .ok (r, ys))
    (hb2 : ∀ g ns r, fs.sr = some g → g ns = some r → ∃ n, fnRunS N.length (bodyF { M with fuel := n } N st []) ns = .ok r)
    (hb3 : ∀ g xs rs, fs.rr = some g → g xs = some rs → xs.length = fs.ps.length → ∃ n, fnRunR N.length (bodyF { M with fuel := n } N st []) xs = .ok rs) : FnOk P w K mg base CX0 (k + 1) f fd fs.ps (spF K fs) := by
  refine F.ok S (fun vs H Q E hs => ?_) (fun cdv A outer s H vs Q E hr hs => ?_)
  · rcases hs with hs | hs | hs
    · obtain ⟨G, ad, xs, r, ys, hl, _⟩ := hs
      exact hl
    · obtain ⟨G, a, ns, g, r, rfl, hl, _⟩ := hs
      exact hl.symm
    · obtain ⟨G, xs, g, rs, hl, _⟩ := hs
      exact hl
  rcases hs with hs | hs | hs
  case inr.inr =>
    obtain ⟨G, xs, g, rs, hl, hxl, hG, ha, e1, e2, kont⟩ := hs
    obtain ⟨n, hrn⟩ := hb3 g xs rs e1 e2 hxl
    obtain ⟨⟨fl, s'⟩, e3, e4⟩ := Rs.bind_inv hrn
    have e5 : fl = .rw rs := by
      cases fl with
      | rw u => cases e4; rfl
      | _ => cases e4
    subst e5
    have nlen : xs.length ≤ N.length := by
      have h1 := S.pre
      have h2 := congrArg List.length h1
      rw [List.length_take] at h2
      omega
    have ent : ∀ (i : Nat) r, (entry N.length none xs)[i]? = some (some r) → ∃ x v, (L2.start N vs)[i]? = some (some v) ∧ r = .d x ∧ Tp K G x v := fun i r hr => by
      unfold entry at hr
      have hi : i < xs.length := by
        have : ¬ xs.length ≤ i := fun z => by
          rw [List.getElem?_append_right (by rw [entL_len]; exact z), entL_len] at hr
          have := List.mem_of_getElem? hr
          rw [List.mem_replicate] at this
          cases this.2
        omega
      rw [List.getElem?_append_left (by rw [entL_len]; exact hi)] at hr
      obtain ⟨x, hx, q⟩ := entL_get xs 0 i r hr
      have hv : vs[i]? = some vs[i] := List.getElem?_eq_getElem (by omega)
      rcases q with ⟨q1, _⟩ | ⟨_, q2⟩
      · cases q1
      · exact ⟨x, _, start_get hv, q2, ha i x _ hx hv⟩
    refine ⟨_, body_ok (h.fuel n) S hr (pn := []) rfl, H, G, _, _, s', ?_, (fun p hp => nomatch hp), e3, fun v σ' H' G' x' m' _ rr => ?_⟩
    · refine ⟨?_, .refl _, hG, fun i x hi => ?_, fun i x hi => ?_, fun i x hi => ?_, fun i j xs ys b hi => ?_⟩
      · unfold entry L2.start
        simp [entL_len]
        omega
      · obtain ⟨y, v, hv, q, t⟩ := ent i _ hi
        cases q; exact ⟨v, hv, t⟩
      · obtain ⟨y, v, hv, q, t⟩ := ent i _ hi
        cases q
      · obtain ⟨y, v, hv, q, t⟩ := ent i _ hi
        cases q
      · obtain ⟨y, v, hv, q, t⟩ := ent i _ hi
        cases q
    · obtain ⟨a, us, rfl, q1, q2, q3⟩ := rr
      refine kont _ H' G' x'.1 x'.2 m'.fro m'.prot ⟨a, us, rfl, q1, q2, q3.map fun j r v ej ev rr => ?_⟩
      cases r with
      | d x => exact rr
      | scr ns => exact rr
      | own zs =>
        obtain ⟨b, ws, rfl, z1, z2, z3, z4, _⟩ := rr
        exact ⟨b, ws, rfl, z1, z2, z3, z4, fun i ys hi => by simp at hi⟩
  case inr.inl =>
    obtain ⟨G, a, ns, g, r, rfl, hl, e1, e2, hS, hG, kont⟩ := hs
    obtain ⟨n, hrn⟩ := hb2 g ns r e1 e2
    obtain ⟨⟨fl, s'⟩, e3, e4⟩ := Rs.bind_inv hrn
    have e5 : fl = .rt r ∧ ∀ ns, r ≠ .scr ns := by
      cases fl with
      | rt u => cases u with
        | d x => cases e4; exact ⟨rfl, fun ns z => nomatch z⟩
        | own x => cases e4; exact ⟨rfl, fun ns z => nomatch z⟩
        | scr x => cases e4
      | _ => cases e4
    obtain ⟨rfl, nscr⟩ := e5
    refine ⟨_, body_ok (h.fuel n) S hr (pn := []) rfl, H, G, _, _, s', ?_, (fun p hp => nomatch hp), e3, fun v σ' H' G' x' m' _ rr => ?_⟩
    · have get : ∀ (i : Nat) r, (some (R.scr ns) :: List.replicate (N.length - 1) none : Ek.S)[i]? = some (some r) → i = 0 ∧ r = .scr ns := fun i r hi => by
        cases i with
        | zero => simp at hi; exact ⟨rfl, hi.symm⟩
        | succ i =>
          rw [List.getElem?_cons_succ] at hi
          have := List.mem_of_getElem? hi
          rw [List.mem_replicate] at this
          cases this.2
      have nlen : 1 ≤ N.length := by
        have h1 := S.pre
        have h2 := congrArg List.length h1
        rw [List.length_take] at h2
        omega
      refine ⟨by simp [L2.start], .refl _, hG, fun i x hi => ?_, fun i x hi => ?_, fun i x hi => ?_, fun i j xs ys b hi => ?_⟩
      · cases (get i _ hi).2
      · cases (get i _ hi).2
      · obtain ⟨rfl, e⟩ := get i _ hi
        cases e
        exact ⟨a, rfl, hS⟩
      · cases (get i _ hi).2
    · refine kont v H' G' x'.1 x'.2 m'.fro m'.prot ?_
      cases r with
      | d x => exact rr
      | own zs =>
        obtain ⟨b, ws, rfl, q1, q2, q3, q4, q5⟩ := rr
        exact ⟨b, ws, rfl, q1, q2, q3, q4⟩
      | scr ns => exact absurd rfl (nscr ns)
  obtain ⟨G, ad, xs, r, ys, hl, hxl, hio, hG, ha, hrun, kont⟩ := hs
  obtain ⟨n, hrn⟩ := hb xs r ys hrun hxl
  obtain ⟨fl, s', e1, e2, nscr, e3⟩ := fnRun_inv hrn
  let pn : List (Nat × Addr) := (ioL fs.io).map fun i => (i, ad)
  have hpn : pn.map (·.1) = ioL fs.io := by
    show ((ioL fs.io).map fun i => (i, ad)).map (·.1) = _
    rw [List.map_map]
    cases fs.io <;> rfl
  refine ⟨_, body_ok (h.fuel n) S hr hpn, ?_⟩
  -- the entry
  let P0 : Hp := fun b => if fs.io.isSome = true ∧ b = ad then none else H b
  have p0 : ∀ b, P0 b = none → H b = none ∨ (fs.io.isSome = true ∧ b = ad) := fun b hb => by
    by_cases z : fs.io.isSome = true ∧ b = ad
    · exact .inr z
    · have : P0 b = H b := if_neg z
      rw [this] at hb; exact .inl hb
  have p1 : ∀ b o, H b = some o → (fs.io.isSome = true → b ≠ ad) → P0 b = some o := fun b o hb hn => by
    have : P0 b = H b := if_neg fun z => hn z.1 z.2
    rw [this]; exact hb
  have argAt : ∀ (i : Nat) x, xs[i]? = some x → ∃ v, (L2.start N vs)[i]? = some (some v) ∧ ArgR K G H fs.io ad i x v := fun i x hx => by
    have hi : i < xs.length := (List.getElem?_eq_some_iff.mp hx).1
    have hv : vs[i]? = some vs[i] := List.getElem?_eq_getElem (by omega)
    exact ⟨_, start_get hv, ha i x _ hx hv⟩
  have ent : ∀ (i : Nat) r, (entry N.length fs.io xs)[i]? = some (some r) → ∃ x v, xs[i]? = some x ∧ (L2.start N vs)[i]? = some (some v) ∧ ((fs.io = some i ∧ v = .ref ad ∧ G ad = none ∧ ∃ zs ws, x = .list zs ∧ r = .own zs ∧ H ad = some (.lst ws) ∧ TpL K G zs ws) ∨ (fs.io ≠ some i ∧ r = .d x ∧ Tp K G x v)) := fun i r hr => by
    unfold entry at hr
    have hi : i < xs.length := by
      have : ¬ xs.length ≤ i := fun z => by
        rw [List.getElem?_append_right (by rw [entL_len]; exact z), entL_len] at hr
        have := List.mem_of_getElem? hr
        rw [List.mem_replicate] at this
        cases this.2
      omega
    rw [List.getElem?_append_left (by rw [entL_len]; exact hi)] at hr
    obtain ⟨x, hx, q⟩ := entL_get xs 0 i r hr
    rw [Nat.zero_add] at q
    obtain ⟨v, hv, hA⟩ := argAt i x hx
    refine ⟨x, v, hx, hv, ?_⟩
    unfold ArgR at hA
    rcases q with ⟨q1, zs, q2, q3⟩ | ⟨q1, q2⟩
    · rw [if_pos q1] at hA
      obtain ⟨a1, a2, zs', ws, a3, a4, a5⟩ := hA
      rw [q2] at a3; cases a3
      exact .inl ⟨q1, a1, a2, zs, ws, q2, q3, a4, a5⟩
    · by_cases hz : fs.io = some i
      · rw [if_pos hz] at hA
        obtain ⟨_, _, zs', ws, a3, _⟩ := hA
        rcases q1 with q1 | q1
        · exact absurd hz q1
        · exact absurd a3 (q1 _)
      · rw [if_neg hz] at hA
        exact .inr ⟨hz, q2, hA⟩
  have nlen : xs.length ≤ N.length := by
    have h1 := S.pre
    have h2 := congrArg List.length h1
    rw [List.length_take] at h2
    omega
  have m : Sim K P0 G (entry N.length fs.io xs) (L2.start N vs) H := by
    refine ⟨?_, fun a o hh => ?_, hG, fun i x hh => ?_, fun i zs hh => ?_, fun i ns hh => ?_, fun i j ys zs a hi hj _ _ => ?_⟩
    · unfold entry L2.start
      simp [entL_len]
      omega
    · by_cases z : fs.io.isSome = true ∧ a = ad
      · have : P0 a = none := if_pos z
        rw [this] at hh; cases hh
      · have : P0 a = H a := if_neg z
        rw [this] at hh; exact hh
    · obtain ⟨y, v, _, hv, q⟩ := ent i _ hh
      rcases q with ⟨_, _, _, zs, ws, _, q, _⟩ | ⟨_, q, t⟩
      · cases q
      · cases q; exact ⟨v, hv, t⟩
    · obtain ⟨y, v, _, hv, q⟩ := ent i _ hh
      rcases q with ⟨q0, rfl, q1, zs', ws, _, q, q2, q3⟩ | ⟨_, q, t⟩
      · cases q
        refine ⟨ad, ws, hv, q1, if_pos ⟨by rw [q0]; rfl, rfl⟩, q2, q3⟩
      · cases q
    · obtain ⟨y, v, _, hv, q⟩ := ent i _ hh
      rcases q with ⟨_, _, _, zs, ws, _, q, _⟩ | ⟨_, q, t⟩
      · cases q
      · cases q
    · obtain ⟨_, _, _, _, q⟩ := ent i _ hi
      obtain ⟨_, _, _, _, q'⟩ := ent j _ hj
      rcases q with ⟨q0, _⟩ | ⟨_, q, _⟩
      · rcases q' with ⟨q0', _⟩ | ⟨_, q', _⟩
        · rw [q0] at q0'; exact Option.some.inj q0'
        · cases q'
      · cases q
  have hpin : Pin pn (L2.start N vs) := fun p hp => by
    obtain ⟨i, hi, rfl⟩ := List.mem_map.mp hp
    have hio' : fs.io = some i := by
      cases hq : fs.io with
      | none => rw [hq] at hi; cases hi
      | some j =>
        rw [hq] at hi
        simp [ioL] at hi
        rw [hi]
    have hlt := hio i hio'
    have hx : xs[i]? = some xs[i] := List.getElem?_eq_getElem (by omega)
    obtain ⟨v, hv, hA⟩ := argAt i _ hx
    unfold ArgR at hA
    rw [if_pos hio'] at hA
    rw [hA.1] at hv
    exact hv
  have fin : ∀ v σ' H' G', Ext P0 G G' → Sim K P0 G' s' σ' H' → Pin pn σ' → RR K P0 G' s' σ' H' r v → Q v H' := fun v σ' H' G' x' m' pin' rr => by
    have own_io : fs.io.isSome = true → G' ad = none ∧ (∃ ws, H' ad = some (.lst ws) ∧ TpL K G' ys ws) ∧ ∃ i : Nat, s'[i]? = some (some (R.own ys)) ∧ σ'[i]? = some (some (V.ref ad)) := fun hsome => by
      cases hq : fs.io with
      | none => rw [hq] at hsome; cases hsome
      | some i =>
        rw [hq] at e2
        unfold outOf at e2
        simp only at e2
        split at e2
        · next zs hz =>
          cases e2
          have pi : σ'[i]? = some (some (.ref ad)) := pin' (i, ad) (List.mem_map.mpr ⟨i, by rw [hq]; simp [ioL], rfl⟩)
          obtain ⟨a, ws, q1, q2, q3, q4, q5⟩ := m'.own i _ hz
          rw [pi] at q1; cases q1
          exact ⟨q2, ⟨ws, q4, q5⟩, i, hz, pi⟩
        · cases e2
    refine kont v H' G' x'.1 (fun a o ho => ?_) m'.fro (fun a o ho hn => m'.prot a o (p1 a o ho hn)) (fun hs => ⟨(own_io hs).1, (own_io hs).2.1⟩) ?_
    · rcases x'.2 a o ho with z | z
      · exact .inl z
      · rcases p0 a z with z | ⟨z1, z2⟩
        · exact .inr z
        · rw [z2, (own_io z1).1] at ho; cases ho
    · cases r with
      | d x => exact rr
      | own zs =>
        obtain ⟨b, ws, rfl, q1, q2, q3, q4, q5⟩ := rr
        refine ⟨b, ws, rfl, q1, ?_, q3, q4⟩
        rcases p0 b q2 with z | ⟨z1, z2⟩
        · exact z
        · obtain ⟨_, _, i, hi, hi'⟩ := own_io z1
          subst z2
          exact absurd hi' (q5 i ys hi)
      | scr ns => exact absurd rfl (nscr ns)
  refine ⟨P0, G, _, fl, s', m, hpin, e1, ?_⟩
  rcases e3 with ⟨rfl, rfl⟩ | rfl
  · exact fun σ' H' G' x' m' p' l' => fin .non σ' H' G' x' m' p' (tp_none (K := K) (G := G'))
  · exact fun v σ' H' G' x' m' p' r' => fin v σ' H' G' x' m' p' r'
/-- the law's own promise -/
def spLaw (K : PySem.W.Frag) : Sp := fun vs H Q _ => ∃ (a : Addr) (ns : List Int), vs = [.ref a] ∧ SqL K H a (ns.map V.int) ∧ ns.length ≤ 63 ∧ (∀ z ∈ ns, Builtin.Int.intBits z ≤ 1048576) ∧ ∀ H', Q (.bl true) H'
theorem law_ok {x qual : Str} {st : Stmt} {f : Addr} {fd : FuncData} {N : List Str} {p : Str} (F : Fun K x qual st f fd) (S : FnScope N [p] (defScope st)) (h : ModOk P w K mg base M k)
    (hb : ∀ ns : List Int, ns.length ≤ 63 → (∀ z ∈ ns, Builtin.Int.intBits z ≤ 1048576) → ∃ n s', bodyF { M with fuel := n } N st [] (some (.scr ns) :: List.replicate (N.length - 1) none) = .ok (.rt (.d (.bool true)), s')) : FnOk P w K mg base CX0 (k + 1) f fd [p] (spLaw K) := by
  refine F.ok S (fun vs H Q E hs => ?_) (fun cdv A outer s H vs Q E hr hs => ?_)
  · obtain ⟨a, ns, rfl, _⟩ := hs
    rfl
  obtain ⟨a, ns, rfl, hS, hl, hbits, q⟩ := hs
  obtain ⟨n, s', e⟩ := hb ns hl hbits
  refine ⟨_, body_ok (h.fuel n) S hr (pn := []) rfl, H, H, _, _, s', ?_, (fun p hp => nomatch hp), e, fun v σ' H' G' x' m' _ rr => ?_⟩
  · have get : ∀ (i : Nat) r, (some (R.scr ns) :: List.replicate (N.length - 1) none : Ek.S)[i]? = some (some r) → i = 0 ∧ r = .scr ns := fun i r hi => by
      cases i with
      | zero => simp at hi; exact ⟨rfl, hi.symm⟩
      | succ i =>
        rw [List.getElem?_cons_succ] at hi
        have := List.mem_of_getElem? hi
        rw [List.mem_replicate] at this
        cases this.2
    refine ⟨by simp [L2.start], .refl _, .refl _, fun i x hi => ?_, fun i x hi => ?_, fun i x hi => ?_, fun i j ys zs b hi => ?_⟩
    · cases (get i _ hi).2
    · cases (get i _ hi).2
    · obtain ⟨rfl, e⟩ := get i _ hi
      cases e
      exact ⟨a, rfl, hS⟩
    · cases (get i _ hi).2
  · rw [bl_of rr]
    exact q H'
/-! ### how calls bind -/
theorem pick_len {α : Type} {ps ks : List Str} {us ws : List α} (hp : ps ≠ []) (h : ((pick ps ks us ws).getD []).length = ps.length) : us.length = ps.length - ks.length ∧ ws.length = ks.length := by
  unfold pick at h
  split at h
  · next hc => omega
  · exact absurd (List.eq_nil_of_length_eq_zero h.symm) hp
theorem vals_at : ∀ {vs : List V} {us : List Value} {k : Nat} {v : V} {u : Value}, Vals vs us → vs[k]? = some v → us[k]? = some u → RelV v u
  | _, _, k, v, u, h, e, e' => by
    obtain ⟨u', h1, h2⟩ := h.get e
    rw [e'] at h1; cases h1; exact h2
theorem vals_mk : ∀ {vs : List V} {us : List Value}, vs.length = us.length → (∀ (k : Nat) v u, vs[k]? = some v → us[k]? = some u → RelV v u) → Vals vs us
  | [], [], _, _ => .nil
  | v :: vs, u :: us, hl, h => .cons (h 0 v u rfl rfl) (vals_mk (by simpa using hl) fun k v u e e' => h (k + 1) v u (by simpa using e) (by simpa using e'))
theorem kb_mk {x qual : Str} {st : Stmt} {f : Addr} {fd : FuncData} {ps ks : List Str} (F : Fun K x qual st f fd) (hp : ps ≠ [])
    (h : ∀ (kV doc pm : Value) (an : Option Addr) (cdv ct : Value) (us ws : List Value), us.length = ps.length - ks.length → ws.length = ks.length →
      bindArgs (PySem.W.fnOf x qual (defArgs st) (defBody st) (defScope st) .none kV doc pm an cdv ct) ⟨us, ks.zip ws⟩ = pure (ps.zip ((pick ps ks us ws).getD []))) :
    KBinds K fd ps ks (fun us ws => (pick ps ks us ws).getD []) (fun us ws => (pick ps ks us ws).getD []) where
  to := fun s us ws _ hl => by
    obtain ⟨oc, od, kV, doc, pm, an, cdv, ct, osl, rfl, lk, hcd⟩ := F.ex
    obtain ⟨h1, h2⟩ := pick_len hp hl
    exact .of_eq (h kV doc pm an cdv ct us ws h1 h2)
  rel := fun {vs us zs ws} r r2 => by
    unfold pick
    have l1 := r.length
    have l2 := r2.length
    by_cases hc : us.length + ws.length = ps.length ∧ ks.length = ws.length
    · rw [if_pos hc, if_pos (by rw [l1, l2]; exact hc)]
      cases hpk : pickL ks vs zs 0 ps with
      | some l =>
        obtain ⟨xs, e1, e2, e3, e4⟩ := pickL_rel (F := fun v u => RelV v u) l1.symm (fun k v u e e' => vals_at r e e') l2.symm (fun k v u e e' => vals_at r2 e e') hpk
        rw [e1]
        exact vals_mk e2.symm e4
      | none =>
        cases hpk2 : pickL ks us ws 0 ps with
        | none => exact .nil
        | some l =>
          obtain ⟨xs, e1, _⟩ := pickL_rel (F := fun (u : Value) (v : V) => True) l1 (fun _ _ _ _ _ => trivial) l2 (fun _ _ _ _ _ => trivial) hpk2
          rw [hpk] at e1; cases e1
    · rw [if_neg hc, if_neg (by rw [l1, l2]; exact hc)]
      exact .nil
/-! ### the module's names, by lists -/
def lookS {α : Type} : List (String × α) → Str → Option α
  | [], _ => none
  | (n, a) :: r, x => if Str.ofString n = x then some a else lookS r x
theorem lookS_mem {α : Type} : ∀ {l : List (String × α)} {x : Str} {a : α}, lookS l x = some a → ∃ n, (n, a) ∈ l ∧ Str.ofString n = x
  | [], _, _, h => by cases h
  | (n, b) :: r, x, a, h => by
    unfold lookS at h
    split at h
    · next e => cases h; exact ⟨n, List.mem_cons_self, e⟩
    · obtain ⟨m, h1, h2⟩ := lookS_mem h
      exact ⟨m, List.mem_cons_of_mem _ h1, h2⟩
def mkEn (fs : List (String × FS)) (cs : List (String × D)) (ds : List (String × List (Str × D))) (bi : List String) : En where
  fs := lookS fs
  cs := lookS cs
  ds := lookS ds
  bi := fun x => bi.any fun n => Str.ofString n == x
  fuel := 0
  row := false
/-- a function that is proved -/
structure FnAt (P : Program) (w : World) (K : PySem.W.Frag) (mg : Str → Option Value) (base : Heap) (k : Nat) (x : Str) (f : FS) : Prop where
  ex : ∃ (ad : Addr) (fd : FuncData), FnOk P w K mg base CX0 k ad fd f.ps (spF K f) ∧ mg x = some (.ref ad) ∧ PySem.W.keepIn K (.ref ad) = true ∧ Binds K fd f.ps [] ∧
    ∀ ks ∈ f.kl, KBinds K fd f.ps ks (fun us ws => (pick f.ps ks us ws).getD []) (fun us ws => (pick f.ps ks us ws).getD [])
theorem FnAt.mono {x : Str} {f : FS} {j : Nat} (h : FnAt P w K mg base j x f) (hj : j ≤ k) : FnAt P w K mg base k x f := by
  obtain ⟨ad, fd, h1, h2⟩ := h.ex
  exact ⟨ad, fd, h1.mono hj, h2⟩
theorem modOk_mk {fs : List (String × FS)} {cs : List (String × D)} {ds : List (String × List (Str × D))} {bi : List String} (h1 : ∀ p ∈ fs, FnAt P w K mg base k (Str.ofString p.1) p.2) (h2 : ∀ n ∈ bi, mg (Str.ofString n) = none)
    (h3 : ∀ p ∈ cs, ∃ v u, mg (Str.ofString p.1) = some u ∧ RelV v u ∧ Tp K (fun _ => none) p.2 v)
    (h4 : ∀ p ∈ ds, DctIn K w mg (Str.ofString p.1) p.2) : ModOk P w K mg base (mkEn fs cs ds bi) k where
  fs := fun x f h => by
    obtain ⟨n, hm, rfl⟩ := lookS_mem h
    exact (h1 _ hm).ex
  bi := fun x h => by
    obtain ⟨n, hm, hn⟩ := List.any_eq_true.mp (show (bi.any fun n => Str.ofString n == x) = true from h)
    rw [← beq_iff_eq.mp hn]
    exact h2 n hm
  cs := fun x d h => by
    obtain ⟨n, hm, rfl⟩ := lookS_mem h
    exact h3 _ hm
  ds := fun x d h => by
    obtain ⟨n, hm, rfl⟩ := lookS_mem h
    exact h4 _ hm
end
end Ek

/-! ## P: a module's defs in a row -/
namespace Ek
open PySem L2 PySem.Spec PyProof.Rows
def okRs {α : Type} : Rs α → Option α
  | .ok a => some a
  | _ => none
theorem okRs_inv {α : Type} {o : Rs α} {a : α} (h : okRs o = some a) : o = .ok a := by
  cases o with
  | ok b => cases h; rfl
  | bad => cases h
  | exc c x s => cases h
/-- the fuel of a text's while loops -/
def FU : Nat := 10 ^ 12
/-- a def is what the evaluator makes of it -/
def mkFS (ps : List Str) (kl : List (List Str)) (io : Option Nat) (n : Nat) (body : SF) : FS := ⟨ps, kl, io, fun xs => okRs (fnRun n io body xs), none, none⟩
/-- a def that takes the script -/
def mkFSs (ps : List Str) (n : Nat) (body : SF) : FS := ⟨ps, [], none, fun _ => none, some fun ns => okRs (fnRunS n body ns), none⟩
/-- a def that hands back a row -/
def mkFSr (ps : List Str) (n : Nat) (body : SF) : FS := ⟨ps, [], none, fun _ => none, none, some fun xs => okRs (fnRunR n body xs)⟩
/-- a def that is called too deep -/
def noFS (ps : List Str) (kl : List (List Str)) (io : Option Nat) : FS := ⟨ps, kl, io, fun _ => none, none, none⟩
section
variable {P : Program} {w : World} {K : PySem.W.Frag} {mg : Str → Option Value} {base : Heap} {M : En} {k : Nat}
theorem fn_at {x qual : Str} {st : Stmt} {f : Addr} {fd : FuncData} {N ps : List Str} {kl : List (List Str)} {io : Option Nat} {sh : SF} (F : Fun K x qual st f fd) (g : mg x = some (.ref f)) (S : FnScope N ps (defScope st)) (h : ModOk P w K mg base M k)
    (e : bodyF { M with fuel := FU } N st (ioL io) = sh) (b : Binds K fd ps [])
    (kb : ∀ ks ∈ kl, KBinds K fd ps ks (fun us ws => (pick ps ks us ws).getD []) (fun us ws => (pick ps ks us ws).getD [])) : FnAt P w K mg base (k + 1) x (mkFS ps kl io N.length sh) :=
  ⟨⟨f, fd, fn_ok (mkFS ps kl io N.length sh) F S h (fun xs r ys hr _ => ⟨FU, by
    show fnRun N.length io (bodyF { M with fuel := FU } N st (ioL io)) xs = _
    rw [e]
    exact okRs_inv hr⟩) (fun g ns r hg => nomatch hg) (fun g xs rs hg => nomatch hg), g, F.kp, b, kb⟩⟩
theorem fn_atS {x qual : Str} {st : Stmt} {f : Addr} {fd : FuncData} {N ps : List Str} {sh : SF} (F : Fun K x qual st f fd) (g : mg x = some (.ref f)) (S : FnScope N ps (defScope st)) (h : ModOk P w K mg base M k)
    (e : bodyF { M with fuel := FU } N st [] = sh) (b : Binds K fd ps []) : FnAt P w K mg base (k + 1) x (mkFSs ps N.length sh) :=
  ⟨⟨f, fd, fn_ok (mkFSs ps N.length sh) F S h (fun xs r ys hr _ => (nomatch (show none = some (r, ys) from hr))) (fun g ns r hg hr => ⟨FU, by
    cases hg
    rw [e]
    exact okRs_inv hr⟩) (fun g xs rs hg => nomatch hg), g, F.kp, b, fun ks hk => nomatch hk⟩⟩
theorem fn_atR {x qual : Str} {st : Stmt} {f : Addr} {fd : FuncData} {N ps : List Str} {sh : SF} (F : Fun K x qual st f fd) (g : mg x = some (.ref f)) (S : FnScope N ps (defScope st)) (h : ModOk P w K mg base M k)
    (e : bodyF { M with fuel := FU, row := true } N st [] = sh) (b : Binds K fd ps []) : FnAt P w K mg base (k + 1) x (mkFSr ps N.length sh) :=
  ⟨⟨f, fd, fn_ok (M := { M with row := true }) (mkFSr ps N.length sh) F S (h.rowd true) (fun xs r ys hr _ => (nomatch (show none = some (r, ys) from hr))) (fun g ns r hg => nomatch hg) (fun g xs rs hg hr _ => ⟨FU, by
    cases hg
    show fnRunR N.length (bodyF { M with fuel := FU, row := true } N st []) xs = _
    rw [e]
    exact okRs_inv hr⟩), g, F.kp, b, fun ks hk => nomatch hk⟩⟩
theorem no_at {x qual : Str} {st : Stmt} {f : Addr} {fd : FuncData} {N ps : List Str} {kl : List (List Str)} {io : Option Nat} (F : Fun K x qual st f fd) (g : mg x = some (.ref f)) (S : FnScope N ps (defScope st)) (h : ModOk P w K mg base M k) (b : Binds K fd ps [])
    (kb : ∀ ks ∈ kl, KBinds K fd ps ks (fun us ws => (pick ps ks us ws).getD []) (fun us ws => (pick ps ks us ws).getD [])) : FnAt P w K mg base (k + 1) x (noFS ps kl io) :=
  ⟨⟨f, fd, fn_ok (noFS ps kl io) F S h (fun xs r ys hr _ => (nomatch (show none = some (r, ys) from hr))) (fun g ns r hg => nomatch hg) (fun g xs rs hg => nomatch hg), g, F.kp, b, kb⟩⟩
theorem an {α : Type} {p : α → Prop} : ∀ a ∈ ([] : List α), p a := fun _ h => nomatch h
theorem ac {α : Type} {p : α → Prop} {b : α} {l : List α} (h : p b) (t : ∀ a ∈ l, p a) : ∀ a ∈ b :: l, p a := List.forall_mem_cons.mpr ⟨h, t⟩
theorem law_at {x qual : Str} {st : Stmt} {f : Addr} {fd : FuncData} {N : List Str} {p : Str} {sh : SF} (F : Fun K x qual st f fd) (S : FnScope N [p] (defScope st)) (h : ModOk P w K mg base M k) (e : bodyF { M with fuel := FU } N st [] = sh)
    (hb : ∀ ns : List Int, ns.length ≤ 63 → (∀ z ∈ ns, Builtin.Int.intBits z ≤ 1048576) → ∃ s', sh (some (.scr ns) :: List.replicate (N.length - 1) none) = .ok (.rt (.d (.bool true)), s')) : FnOk P w K mg base CX0 (k + 1) f fd [p] (spLaw K) :=
  law_ok F S h fun ns h1 h2 => by
    obtain ⟨s', hs⟩ := hb ns h1 h2
    exact ⟨FU, s', by rw [e]; exact hs⟩
end
end Ek

/-! ## Q: the evaluator by what is asked of its answer -/
namespace Ek
open PySem L2
def dR : R → Option D
  | .d x => some x
  | _ => none
def blR : R → Option Bool
  | .d (.bool b) => some b
  | _ => none
def inR : R → Option Int
  | .d (.int b) => some b
  | _ => none
def owR : R → Option (List D)
  | .own b => some b
  | _ => none
def sqD : D → Option (List D)
  | .tuple xs => some xs
  | .list xs => some xs
  | _ => none
def stD : D → Option Str
  | .str k => some k
  | _ => none
def scR : R → Option (List Int)
  | .scr b => some b
  | _ => none
def derA (b : Bool) (o : O) (s : S) : Option D := if b = true then deref o s else derefD o s
def ioAt (io : Option Nat) (k : Nat) : Bool := decide (io = some k)
def bkR : Option (Option R) → Option R
  | some (some (.d x)) => some (.d x)
  | some (some (.scr x)) => some (.scr x)
  | _ => none
def enR (b : Bool) (x : D) : Option R := if b = true then (match x with | .list ys => some (.own ys) | x => some (.d x)) else some (.d x)
namespace Q0
open PySem L2
def Wp {α : Type} (x : Rs (α × S)) (Q : α → S → Prop) : Prop := ∃ a s, x = .ok (a, s) ∧ Q a s
def Wg (x : Rs S) (Q : S → Prop) : Prop := ∃ s, x = .ok s ∧ Q s
def Wo {α : Type} (o : Option α) (Q : α → Prop) : Prop := ∃ a, o = some a ∧ Q a
def Wq (o : Option (R × List D)) (Q : R → List D → Prop) : Prop := ∃ r ys, o = some (r, ys) ∧ Q r ys
def Ws (s : S) (Q : S → Prop) : Prop := Q s
def Br (c A B : Prop) : Prop := (c → A) ∧ (¬c → B)
def Ck (c A : Prop) : Prop := c ∧ A
section
variable {α β : Type}
theorem Br_true {A B : Prop} : Br True A B = A := by simp [Br]
theorem Br_false {A B : Prop} : Br False A B = B := by simp [Br]
theorem Ck_true {A : Prop} : Ck True A = A := by simp [Ck]
theorem wbind {x : Rs (α × S)} {f : α × S → Rs (β × S)} {Q : β → S → Prop} : Wp (x.bind f) Q = Wp x fun a s => Wp (f (a, s)) Q := by
  cases x with
  | ok p =>
    refine propext ⟨fun h => ⟨p.1, p.2, rfl, h⟩, fun ⟨a, s, e, h⟩ => ?_⟩
    cases e; exact h
  | bad => exact propext ⟨fun ⟨_, _, e, _⟩ => (by cases e), fun ⟨_, _, e, _⟩ => (by cases e)⟩
  | exc c x s => exact propext ⟨fun ⟨_, _, e, _⟩ => (by cases e), fun ⟨_, _, e, _⟩ => (by cases e)⟩
theorem wgbind {x : Rs (α × S)} {f : α × S → Rs S} {Q : S → Prop} : Wg (x.bind f) Q = Wp x fun a s => Wg (f (a, s)) Q := by
  cases x with
  | ok p =>
    refine propext ⟨fun h => ⟨p.1, p.2, rfl, h⟩, fun ⟨a, s, e, h⟩ => ?_⟩
    cases e; exact h
  | bad => exact propext ⟨fun ⟨_, e, _⟩ => (by cases e), fun ⟨_, _, e, _⟩ => (by cases e)⟩
  | exc c x s => exact propext ⟨fun ⟨_, e, _⟩ => (by cases e), fun ⟨_, _, e, _⟩ => (by cases e)⟩
theorem wpg {x : Rs S} {f : S → Rs (β × S)} {Q : β → S → Prop} : Wp (x.bind f) Q = Wg x fun s => Wp (f s) Q := by
  cases x with
  | ok p =>
    refine propext ⟨fun h => ⟨p, rfl, h⟩, fun ⟨s, e, h⟩ => ?_⟩
    cases e; exact h
  | bad => exact propext ⟨fun ⟨_, _, e, _⟩ => (by cases e), fun ⟨_, e, _⟩ => (by cases e)⟩
  | exc c x s => exact propext ⟨fun ⟨_, _, e, _⟩ => (by cases e), fun ⟨_, e, _⟩ => (by cases e)⟩
theorem wgg {x : Rs S} {f : S → Rs S} {Q : S → Prop} : Wg (x.bind f) Q = Wg x fun s => Wg (f s) Q := by
  cases x with
  | ok p =>
    refine propext ⟨fun h => ⟨p, rfl, h⟩, fun ⟨s, e, h⟩ => ?_⟩
    cases e; exact h
  | bad => exact propext ⟨fun ⟨_, e, _⟩ => (by cases e), fun ⟨_, e, _⟩ => (by cases e)⟩
  | exc c x s => exact propext ⟨fun ⟨_, e, _⟩ => (by cases e), fun ⟨_, e, _⟩ => (by cases e)⟩
theorem wgv {o : Option α} {f : α → Rs (β × S)} {Q : β → S → Prop} : Wp ((gv o).bind f) Q = Wo o fun a => Wp (f a) Q := by
  cases o with
  | some p =>
    refine propext ⟨fun h => ⟨p, rfl, h⟩, fun ⟨a, e, h⟩ => ?_⟩
    cases e; exact h
  | none => exact propext ⟨fun ⟨_, _, e, _⟩ => (by cases e), fun ⟨_, e, _⟩ => (by cases e)⟩
theorem wok {a : α} {s : S} {Q : α → S → Prop} : Wp (.ok (a, s)) Q = Q a s := propext ⟨fun ⟨_, _, e, h⟩ => (by cases e; exact h), fun h => ⟨a, s, rfl, h⟩⟩
theorem wbad {Q : α → S → Prop} : Wp .bad Q = False := propext ⟨fun ⟨_, _, e, _⟩ => (by cases e), fun h => h.elim⟩
theorem wgok {s : S} {Q : S → Prop} : Wg (.ok s) Q = Q s := propext ⟨fun ⟨_, e, h⟩ => (by cases e; exact h), fun h => ⟨s, rfl, h⟩⟩
theorem wgbad {Q : S → Prop} : Wg .bad Q = False := propext ⟨fun ⟨_, e, _⟩ => (by cases e), fun h => h.elim⟩
theorem wo_some {a : α} {Q : α → Prop} : Wo (some a) Q = Q a := propext ⟨fun ⟨_, e, h⟩ => (by cases e; exact h), fun h => ⟨a, rfl, h⟩⟩
theorem wo_none {Q : α → Prop} : Wo none Q = False := propext ⟨fun ⟨_, e, _⟩ => (by cases e), fun h => h.elim⟩
theorem wo_map {o : Option α} {f : α → β} {Q : β → Prop} : Wo (o.map f) Q = Wo o fun a => Q (f a) := by
  cases o with
  | some a => rw [Option.map_some, wo_some, wo_some]
  | none => rw [Option.map_none, wo_none, wo_none]
theorem wo_bind {o : Option α} {f : α → Option β} {Q : β → Prop} : Wo (o.bind f) Q = Wo o fun a => Wo (f a) Q := by
  cases o with
  | some a => rw [Option.bind_some, wo_some]
  | none => rw [Option.bind_none, wo_none, wo_none]
theorem wo_ite {c : Prop} [Decidable c] {o o' : Option α} {Q : α → Prop} : Wo (if c then o else o') Q = Br c (Wo o Q) (Wo o' Q) := by
  by_cases h : c <;> simp [h, Br]
theorem wo_ck {c : Prop} [Decidable c] {o : Option α} {Q : α → Prop} : Wo (if c then o else none) Q = Ck c (Wo o Q) := by
  by_cases h : c <;> simp [h, Ck, wo_none]
theorem wp_ite {c : Prop} [Decidable c] {o o' : Rs (α × S)} {Q : α → S → Prop} : Wp (if c then o else o') Q = Br c (Wp o Q) (Wp o' Q) := by
  by_cases h : c <;> simp [h, Br]
theorem wp_ck {c : Prop} [Decidable c] {o : Rs (α × S)} {Q : α → S → Prop} : Wp (if c then o else .bad) Q = Ck c (Wp o Q) := by
  by_cases h : c <;> simp [h, Ck, wbad]
theorem wg_ck {c : Prop} [Decidable c] {o : Rs S} {Q : S → Prop} : Wg (if c then o else .bad) Q = Ck c (Wg o Q) := by
  by_cases h : c <;> simp [h, Ck, wgbad]
theorem wq_some {a : R} {ys : List D} {Q : R → List D → Prop} : Wq (some (a, ys)) Q = Q a ys := propext ⟨fun ⟨_, _, e, h⟩ => (by cases e; exact h), fun h => ⟨a, ys, rfl, h⟩⟩
theorem wq_none {Q : R → List D → Prop} : Wq none Q = False := propext ⟨fun ⟨_, _, e, _⟩ => (by cases e), fun h => h.elim⟩
theorem wq_ck {c : Prop} [Decidable c] {o : Option (R × List D)} {Q : R → List D → Prop} : Wq (if c then o else none) Q = Ck c (Wq o Q) := by
  by_cases h : c <;> simp [h, Ck, wq_none]
theorem wq_map {o : Option α} {f : α → R × List D} {Q : R → List D → Prop} : Wq (o.map f) Q = Wo o fun a => Q (f a).1 (f a).2 := by
  cases o with
  | some a => rw [Option.map_some, wo_some]; exact wq_some
  | none => rw [Option.map_none, wo_none, wq_none]
theorem wgq {o : Option (R × List D)} {f : R × List D → Rs (β × S)} {Q : β → S → Prop} : Wp ((gv o).bind f) Q = Wq o fun r ys => Wp (f (r, ys)) Q := by
  cases o with
  | some p => rw [wq_some]; rfl
  | none => rw [wq_none]; exact wbad
theorem ws_cons {x : Option R} {s : List (Option R)} {Q : S → Prop} : Ws (x :: s) Q = Q (x :: s) := rfl
end
/-! ### readings -/
theorem scR_scr {x : List Int} : scR (.scr x) = some x := rfl
theorem fz_d {x : D} : fz (.d x) = some x := rfl
theorem fz_own {x : List D} : fz (.own x) = some (.list x) := rfl
theorem fz_scr {x : List Int} : fz (.scr x) = none := rfl
theorem dR_d {x : D} : dR (.d x) = some x := rfl
theorem dR_own {x : List D} : dR (.own x) = none := rfl
theorem blR_d {x : Bool} : blR (.d (.bool x)) = some x := rfl
theorem inR_d {x : Int} : inR (.d (.int x)) = some x := rfl
theorem owR_own {x : List D} : owR (.own x) = some x := rfl
theorem owR_d {x : D} : owR (.d x) = none := rfl
theorem sqD_t {x : List D} : sqD (.tuple x) = some x := rfl
theorem sqD_l {x : List D} : sqD (.list x) = some x := rfl
theorem stD_s {x : Str} : stD (.str x) = some x := rfl
/-! ### expressions -/
def Wn (r : R) (i : Nat) (s : S) (Q : R → S → Prop) : Prop := match r with
  | .d x => Q (.d x) s
  | .own xs => Ws (s.set i (some (.d (.list xs)))) fun s => Q (.d (.list xs)) s
  | .scr ns => Q (.scr ns) s
theorem Wn_d {x : D} {i : Nat} {s : S} {Q : R → S → Prop} : Wn (.d x) i s Q = Q (.d x) s := rfl
theorem Wn_own {xs : List D} {i : Nat} {s : S} {Q : R → S → Prop} : Wn (.own xs) i s Q = Ws (s.set i (some (.d (.list xs)))) fun s => Q (.d (.list xs)) s := rfl
theorem Wn_scr {xs : List Int} {i : Nat} {s : S} {Q : R → S → Prop} : Wn (.scr xs) i s Q = Q (.scr xs) s := rfl
section
variable {s : S} {i j : Nat}
theorem w_oName {Q : O → S → Prop} : Wp (oName i s) Q = Wo s[i]? fun o => Wo o fun _ => Q (.sl i) s := by
  unfold oName
  cases h : s[i]? with
  | none => rw [wo_none]; exact wbad
  | some o => rw [wo_some]; cases o with
    | none => rw [wo_none]; exact wbad
    | some r => rw [wo_some]; exact wok
theorem w_oX {f : XF} {Q : O → S → Prop} : Wp (oX f s) Q = Wp (f s) fun r s => Wo (fz r) fun x => Q (.v x) s := by
  unfold oX; simp only [wbind, wgv, wok]
theorem w_cC {x : D} {Q : R → S → Prop} : Wp (cC x s) Q = Q (.d x) s := wok
theorem w_cName {Q : R → S → Prop} : Wp (cName i s) Q = Wo s[i]? fun o => Wo o fun r => Wn r i s Q := by
  unfold cName
  cases h : s[i]? with
  | none => rw [wo_none]; exact wbad
  | some o => rw [wo_some]; cases o with
    | none => rw [wo_none]; exact wbad
    | some r => rw [wo_some]; cases r <;> exact wok
theorem w_cFz {f : XF} {Q : D → S → Prop} : Wp (cFz f s) Q = Wp (f s) fun r s => Wo (fz r) fun x => Q x s := by
  unfold cFz; simp only [wbind, wgv, wok]
theorem w_cArgs0 {Q : List D → S → Prop} : Wp (cArgs [] s) Q = Q [] s := wok
theorem w_cArgs1 {f : XF} {fs : List XF} {Q : List D → S → Prop} : Wp (cArgs (f :: fs) s) Q = Wp (cFz f s) fun x s => Wp (cArgs fs s) fun xs s => Q (x :: xs) s := by
  rw [cArgs]; simp only [wbind, wok]
theorem w_cTup {fs : List XF} {Q : R → S → Prop} : Wp (cTup fs s) Q = Wp (cArgs fs s) fun xs s => Q (.d (.tuple xs)) s := by
  unfold cTup; simp only [wbind, wok]
theorem w_cLst {fs : List XF} {Q : R → S → Prop} : Wp (cLst fs s) Q = Wp (cArgs fs s) fun xs s => Q (.own xs) s := by
  unfold cLst; simp only [wbind, wok]
theorem w_deref_v {x : D} {Q : D → Prop} : Wo (deref (.v x) s) Q = Q x := wo_some
theorem w_deref_s {Q : D → Prop} : Wo (deref (.sl i) s) Q = Wo s[i]? fun o => Wo o fun r => Wo (fz r) Q := by
  simp only [deref]
  cases h : s[i]? with
  | none => rw [wo_none, wo_none]
  | some o => rw [wo_some]; cases o with
    | none => rw [wo_none, wo_none]
    | some r => rw [wo_some]; cases r <;> rfl
theorem w_derefD_v {x : D} {Q : D → Prop} : Wo (derefD (.v x) s) Q = Q x := wo_some
theorem w_derefD_s {Q : D → Prop} : Wo (derefD (.sl i) s) Q = Wo s[i]? fun o => Wo o fun r => Wo (dR r) Q := by
  simp only [derefD]
  cases h : s[i]? with
  | none => rw [wo_none, wo_none]
  | some o => rw [wo_some]; cases o with
    | none => rw [wo_none, wo_none]
    | some r => rw [wo_some]; cases r <;> rfl
theorem w_cBin {g : D → D → Option R} {a b : OF} {Q : R → S → Prop} : Wp (cBin g a b s) Q = Wp (a s) fun o s => Wp (b s) fun o' s => Wo (deref o s) fun x => Wo (deref o' s) fun y => Wo (g x y) fun r => Q r s := by
  unfold cBin; simp only [wbind, wgv, wok]
theorem w_cCmp {op : CmpOp} {a b : OF} {Q : R → S → Prop} : Wp (cCmp op a b s) Q = Wp (a s) fun o s => Wp (b s) fun o' s => Wo (deref o s) fun x => Wo (deref o' s) fun y => Wo (dCmp op x y) fun k => Q (.d (.bool k)) s := by
  unfold cCmp; rw [w_cBin]; unfold bR; simp only [wo_map]
theorem w_cUn {g : D → Option R} {a : OF} {Q : R → S → Prop} : Wp (cUn g a s) Q = Wp (a s) fun o s => Wo (deref o s) fun x => Wo (g x) fun r => Q r s := by
  unfold cUn; simp only [wbind, wgv, wok]
theorem w_cChain {op op' : CmpOp} {a b c : OF} {Q : R → S → Prop} : Wp (cChain op op' a b c s) Q = Wp (a s) fun o s => Wp (b s) fun o' s => Wo (deref o s) fun x => Wo (deref o' s) fun y => Wo (dCmp op x y) fun k =>
    Br (k = true) (Wp (c s) fun o'' s => Wo (deref o' s) fun y' => Wo (deref o'' s) fun z => Wo (dCmp op' y' z) fun k' => Q (.d (.bool k')) s) (Q (.d (.bool false)) s) := by
  unfold cChain; simp only [wbind, wgv, wok, wp_ite]
theorem w_blR {r : R} {s : S} {f : Bool → Rs (R × S)} {Q : R → S → Prop} (x : Rs (R × S)) (h1 : ∀ b, r = .d (.bool b) → x = f b) (h2 : blR r = none → x = .bad) : Wp x Q = Wo (blR r) fun b => Wp (f b) Q := by
  cases h : blR r with
  | none => rw [h2 h, wo_none, wbad]
  | some b =>
    rw [wo_some]
    cases r with
    | d y => cases y with
      | bool c => cases h; rw [h1 _ rfl]
      | _ => cases h
    | _ => cases h
theorem w_cAnd {a b : XF} {Q : R → S → Prop} : Wp (cAnd a b s) Q = Wp (a s) fun r s => Wo (blR r) fun k => Br (k = true) (Wp (b s) Q) (Q (.d (.bool false)) s) := by
  unfold cAnd; rw [wbind]
  congr; funext r s
  rw [w_blR (r := r) (s := s) (f := fun k => if k = true then b s else .ok (.d (.bool false), s)) _ (fun k e => by subst e; cases k <;> rfl) (fun e => ?_)]
  · congr; funext k; rw [wp_ite, wok]
  · split <;> first | rfl | (next h => simp only at h; subst h; cases e)
theorem w_cOr {a b : XF} {Q : R → S → Prop} : Wp (cOr a b s) Q = Wp (a s) fun r s => Wo (blR r) fun k => Br (k = true) (Q (.d (.bool true)) s) (Wp (b s) Q) := by
  unfold cOr; rw [wbind]
  congr; funext r s
  rw [w_blR (r := r) (s := s) (f := fun k => if k = true then .ok (.d (.bool true), s) else b s) _ (fun k e => by subst e; cases k <;> rfl) (fun e => ?_)]
  · congr; funext k; rw [wp_ite, wok]
  · split <;> first | rfl | (next h => simp only at h; subst h; cases e)
theorem w_cAnds1 {a : XF} {Q : R → S → Prop} : Wp (cAnds [a] s) Q = Wp (a s) Q := rfl
theorem w_cAnds2 {a b : XF} {l : List XF} {Q : R → S → Prop} : Wp (cAnds (a :: b :: l) s) Q = Wp (cAnd a (cAnds (b :: l)) s) Q := rfl
theorem w_cOrs1 {a : XF} {Q : R → S → Prop} : Wp (cOrs [a] s) Q = Wp (a s) Q := rfl
theorem w_cOrs2 {a b : XF} {l : List XF} {Q : R → S → Prop} : Wp (cOrs (a :: b :: l) s) Q = Wp (cOr a (cOrs (b :: l)) s) Q := rfl
theorem w_cNot {t : TF} {Q : R → S → Prop} : Wp (cNot t s) Q = Wp (t s) fun b s => Q (.d (.bool (!b))) s := by
  unfold cNot; simp only [wbind, wok]
theorem w_cIf {t : TF} {a b : XF} {Q : R → S → Prop} : Wp (cIf t a b s) Q = Wp (t s) fun k s => Br (k = true) (Wp (a s) Q) (Wp (b s) Q) := by
  unfold cIf; simp only [wbind, wp_ite]
theorem w_tTru {a : OF} {Q : Bool → S → Prop} : Wp (tTru a s) Q = Wp (a s) fun o s => Wo (deref o s) fun x => Wo (dTru x) fun b => Q b s := by
  unfold tTru; simp only [wbind, wgv, wok]
theorem w_tBl {a : XF} {Q : Bool → S → Prop} : Wp (tBl a s) Q = Wp (a s) fun r s => Wo (blR r) fun b => Q b s := by
  unfold tBl; rw [wbind]
  congr; funext r s
  cases r with
  | d y => cases y with
    | bool c => rw [blR_d, wo_some]; exact wok
    | _ => exact wbad.trans wo_none.symm
  | _ => exact wbad.trans wo_none.symm
theorem w_tAndF {a b : TF} {Q : Bool → S → Prop} : Wp (tAndF a b s) Q = Wp (a s) fun k s => Br (k = true) (Wp (b s) Q) (Q false s) := by
  unfold tAndF; simp only [wbind, wp_ite, wok]
theorem w_tOrF {a b : TF} {Q : Bool → S → Prop} : Wp (tOrF a b s) Q = Wp (a s) fun k s => Br (k = true) (Q true s) (Wp (b s) Q) := by
  unfold tOrF; simp only [wbind, wp_ite, wok]
theorem w_tAnds1 {a : TF} {Q : Bool → S → Prop} : Wp (tAnds [a] s) Q = Wp (a s) Q := rfl
theorem w_tAnds2 {a b : TF} {l : List TF} {Q : Bool → S → Prop} : Wp (tAnds (a :: b :: l) s) Q = Wp (tAndF a (tAnds (b :: l)) s) Q := rfl
theorem w_tOrs1 {a : TF} {Q : Bool → S → Prop} : Wp (tOrs [a] s) Q = Wp (a s) Q := rfl
theorem w_tOrs2 {a b : TF} {l : List TF} {Q : Bool → S → Prop} : Wp (tOrs (a :: b :: l) s) Q = Wp (tOrF a (tOrs (b :: l)) s) Q := rfl
theorem w_tNotF {t : TF} {Q : Bool → S → Prop} : Wp (tNotF t s) Q = Wp (t s) fun b s => Q (!b) s := by
  unfold tNotF; simp only [wbind, wok]
theorem w_tTrue {Q : Bool → S → Prop} : Wp (tTrue s) Q = Q true s := wok
theorem w_pNo {Q : Option Int → S → Prop} : Wp (pNo s) Q = Q none s := wok
theorem w_pAt {f : XF} {Q : Option Int → S → Prop} : Wp (pAt f s) Q = Wp (f s) fun r s => Wo (inR r) fun i => Q (some i) s := by
  unfold pAt; rw [wbind]
  congr; funext r s
  cases r with
  | d y => cases y with
    | int c => rw [inR_d, wo_some]; exact wok
    | _ => exact wbad.trans wo_none.symm
  | _ => exact wbad.trans wo_none.symm
theorem w_cSl {a : OF} {lo hi : PF} {Q : R → S → Prop} : Wp (cSl a lo hi s) Q = Wp (a s) fun o s => Wp (lo s) fun i s => Wp (hi s) fun j s => Wo (deref o s) fun x => Wo (dSl x i j) fun r => Q r s := by
  unfold cSl; simp only [wbind, wgv, wok]
/-- list(o), len(o) -/
def Wl (m : String) (g : List Int → R) (o : O) (s : S) (Q : R → S → Prop) : Prop := match o with
  | .v x => Wo (dB1 m x) fun r => Q r s
  | .sl i => Wo s[i]? fun o => Wo o fun r => match r with
    | .scr ns => Q (g ns) s
    | .d x => Wo (dB1 m x) fun r => Q r s
    | .own xs => Wo (dB1 m (.list xs)) fun r => Q r s
def Wl2 (m : String) (g : List Int → R) (r : R) (s : S) (Q : R → S → Prop) : Prop := match r with
    | .scr ns => Q (g ns) s
    | .d x => Wo (dB1 m x) fun r => Q r s
    | .own xs => Wo (dB1 m (.list xs)) fun r => Q r s
theorem Wl_v {m : String} {g : List Int → R} {x : D} {Q : R → S → Prop} : Wl m g (.v x) s Q = Wo (dB1 m x) fun r => Q r s := rfl
theorem Wl_s {m : String} {g : List Int → R} {Q : R → S → Prop} : Wl m g (.sl i) s Q = Wo s[i]? fun o => Wo o fun r => Wl2 m g r s Q := rfl
theorem Wl2_scr {m : String} {g : List Int → R} {ns : List Int} {Q : R → S → Prop} : Wl2 m g (.scr ns) s Q = Q (g ns) s := rfl
theorem Wl2_d {m : String} {g : List Int → R} {x : D} {Q : R → S → Prop} : Wl2 m g (.d x) s Q = Wo (dB1 m x) fun r => Q r s := rfl
theorem Wl2_own {m : String} {g : List Int → R} {xs : List D} {Q : R → S → Prop} : Wl2 m g (.own xs) s Q = Wo (dB1 m (.list xs)) fun r => Q r s := rfl
theorem wl_pf {m : String} {g : List Int → R} {o : O} {s : S} {Q : R → S → Prop} : Wp (match o with
    | .sl i => (match s[i]? with
      | some (some (.scr ns)) => .ok (g ns, s)
      | _ => (gv (deref o s)).bind fun x => (gv (dB1 m x)).bind fun r => .ok (r, s))
    | o => (gv (deref o s)).bind fun x => (gv (dB1 m x)).bind fun r => .ok (r, s)) Q = Wl m g o s Q := by
  cases o with
  | v x =>
    simp only [wgv, wok]
    rw [w_deref_v]; rfl
  | sl i =>
    rw [Wl_s]
    simp only
    split
    · next ns h => rw [h, wo_some, wo_some]; exact wok
    · next h =>
      rw [wgv, w_deref_s]
      cases e : s[i]? with
      | none => rw [wo_none, wo_none]
      | some q => rw [wo_some, wo_some]; cases q with
        | none => rw [wo_none, wo_none]
        | some r => rw [wo_some, wo_some]; cases r with
          | scr ns => exact absurd e (h ns)
          | d x => rw [fz_d, wo_some, wgv]; simp only [wok]; rfl
          | own x => rw [fz_own, wo_some, wgv]; simp only [wok]; rfl
theorem w_cListOf {a : OF} {Q : R → S → Prop} : Wp (cListOf a s) Q = Wp (a s) fun o s => Wl "list" (fun ns => .own (ns.map .int)) o s Q := by
  unfold cListOf; rw [wbind]; congr; funext o s; exact wl_pf
theorem w_cLenOf {a : OF} {Q : R → S → Prop} : Wp (cLenOf a s) Q = Wp (a s) fun o s => Wl "len" (fun ns => .d (.int ns.length)) o s Q := by
  unfold cLenOf; rw [wbind]; congr; funext o s; exact wl_pf
theorem w_cIsi {a : OF} {cs : List String} {Q : R → S → Prop} : Wp (cIsi a cs s) Q = Wp (a s) fun o s => Wo (deref o s) fun x => Wo (typD x) fun t => Q (.d (.bool (cs.any (isTy t)))) s := by
  unfold cIsi; simp only [wbind, wgv, wok]
/-! ### calls -/
theorem w_oArgs0 {Q : List O → S → Prop} : Wp (oArgs [] s) Q = Q [] s := wok
theorem w_oArgs1 {f : OF} {fs : List OF} {Q : List O → S → Prop} : Wp (oArgs (f :: fs) s) Q = Wp (f s) fun x s => Wp (oArgs fs s) fun xs s => Q (x :: xs) s := by
  rw [oArgs]; simp only [wbind, wok]
theorem w_ioSlot0 {os : List O} {Q : Option Nat → Prop} : Wo (ioSlot none os s) Q = Q none := wo_some
def Wi (o : O) (s : S) (Q : Option Nat → Prop) : Prop := match o with
  | .sl i => Wo s[i]? fun o => Wo o fun r => Wo (owR r) fun _ => Q (some i)
  | .v _ => False
theorem Wi_s {Q : Option Nat → Prop} : Wi (.sl i) s Q = Wo s[i]? fun o => Wo o fun r => Wo (owR r) fun _ => Q (some i) := rfl
theorem w_ioSlot1 {k : Nat} {os : List O} {Q : Option Nat → Prop} : Wo (ioSlot (some k) os s) Q = Wo os[k]? fun o => Wi o s Q := by
  unfold ioSlot
  cases h : os[k]? with
  | none => simp only [h, wo_none]
  | some o =>
    simp only [h, wo_some]
    cases o with
    | v x => simp only [wo_none, Wi]
    | sl i =>
      simp only [Wi_s]
      cases e : s[i]? with
      | none => simp only [wo_none]
      | some q => cases q with
        | none => simp only [wo_none, wo_some]
        | some r => cases r <;> simp only [wo_none, wo_some, owR]
theorem derA_t {o : O} : derA true o s = deref o s := rfl
theorem derA_f {o : O} : derA false o s = derefD o s := rfl
theorem ioAt_n {k : Nat} : ioAt none k = false := rfl
theorem ioAt_s {j k : Nat} : ioAt (some j) k = Nat.beq j k := by
  unfold ioAt
  rw [Bool.eq_iff_iff]; simp
theorem w_derefs0 {io : Option Nat} {k : Nat} {Q : List D → Prop} : Wo (derefs io k [] s) Q = Q [] := wo_some
theorem w_derefs1 {io : Option Nat} {k : Nat} {o : O} {os : List O} {Q : List D → Prop} : Wo (derefs io k (o :: os) s) Q = Wo (derA (ioAt io k) o s) fun x => Wo (derefs io (k + 1) os s) fun xs => Q (x :: xs) := by
  rw [derefs]
  have e : derA (ioAt io k) o s = (if io = some k then deref o s else derefD o s) := by
    unfold derA ioAt
    by_cases h : io = some k <;> simp [h]
  rw [e]
  cases (if io = some k then deref o s else derefD o s) with
  | none => exact wo_none.trans wo_none.symm
  | some x => rw [wo_some]; cases derefs io (k + 1) os s with
    | none => exact wo_none.trans wo_none.symm
    | some xs => rw [wo_some, wo_some]
theorem w_putIo0 {ys : List D} {Q : S → Prop} : Ws (putIo none s ys) Q = Q s := rfl
theorem w_putIo1 {ys : List D} : putIo (some i) s ys = s.set i (some (.own ys)) := rfl
theorem w_doCall {f : FS} {os : List O} {Q : R → S → Prop} : Wp (doCall f os s) Q = Wo (ioSlot f.io os s) fun io => Wo (derefs f.io 0 os s) fun xs => Wq (f.run xs) fun r ys => Ws (putIo io s ys) fun s => Q r s := by
  unfold doCall
  rw [wgv]; congr; funext io; rw [wgv]; congr; funext xs; rw [wgq]; simp only [wok, Ws]
theorem w_cCall {f : FS} {as : List OF} {Q : R → S → Prop} : Wp (cCall f as s) Q = Wp (oArgs as s) fun os s => Wp (doCall f os s) Q := by
  unfold cCall; simp only [wbind]
theorem w_cCallK {f : FS} {ks : List Str} {as kws : List OF} {Q : R → S → Prop} : Wp (cCallK f ks as kws s) Q = Wp (oArgs as s) fun us s => Wp (oArgs kws s) fun ws s => Wo (pick f.ps ks us ws) fun os => Wp (doCall f os s) Q := by
  unfold cCallK; simp only [wbind, wgv]
theorem w_ownAt {β : Type} {F : List D → Rs (β × S)} {Q : β → S → Prop} : Wp ((ownAt s i).bind F) Q = Wo s[i]? fun o => Wo o fun r => Wo (owR r) fun xs => Wp (F xs) Q := by
  unfold ownAt
  cases s[i]? with
  | none => rw [wo_none]; exact wbad
  | some q => rw [wo_some]; cases q with
    | none => rw [wo_none]; exact wbad
    | some r => rw [wo_some]; cases r with
      | own x => rw [owR_own, wo_some]; rfl
      | d x => exact wbad.trans wo_none.symm
      | scr x => exact wbad.trans wo_none.symm
theorem cMut_eq {g : List D → List D → Option (R × List D)} {as : List XF} : cMut i g as s = (ownAt s i).bind fun _ => (cArgs as s).bind fun p => (ownAt p.2 i).bind fun xs => (gv (g xs p.1)).bind fun r => .ok (r.1, p.2.set i (some (.own r.2))) := by
  unfold cMut ownAt
  cases s[i]? with
  | none => rfl
  | some q => cases q with
    | none => rfl
    | some r => cases r with
      | d x => rfl
      | scr x => rfl
      | own x =>
        show (cArgs as s).bind _ = (cArgs as s).bind _
        congr 1; funext p
        cases p.2[i]? with
        | none => rfl
        | some q => cases q with
          | none => rfl
          | some r => cases r <;> rfl
theorem w_cMut {g : List D → List D → Option (R × List D)} {as : List XF} {Q : R → S → Prop} : Wp (cMut i g as s) Q = Wo s[i]? fun o => Wo o fun r => Wo (owR r) fun _ => Wp (cArgs as s) fun ys s => Wo s[i]? fun o => Wo o fun r => Wo (owR r) fun xs => Wq (g xs ys) fun r zs => Ws (s.set i (some (.own zs))) fun s => Q r s := by
  rw [cMut_eq]
  simp only [wbind, w_ownAt, wgq, wok, Ws]
theorem w_cMeth {m : String} {a : OF} {as : List XF} {Q : R → S → Prop} : Wp (cMeth m a as s) Q = Wp (a s) fun o s => Wo (derefD o s) fun x => Wp (cArgs as s) fun ys s => Wo (dMeth m x ys) fun r => Q r s := by
  unfold cMeth; simp only [wbind, wgv, wok]
theorem w_cDix {kvs : List (Str × D)} {a : OF} {Q : R → S → Prop} : Wp (cDix kvs a s) Q = Wp (a s) fun o s => Wo (deref o s) fun x => Wo (stD x) fun k => Wo (kvs.lookup k) fun r => Q (.d r) s := by
  unfold cDix; simp only [wbind, wgv]
  congr; funext o s; congr; funext x
  cases x with
  | str k => rw [stD_s, wo_some, wgv]; simp only [wok]
  | _ => exact wbad.trans wo_none.symm
theorem w_cCallS {f : FS} {Q : R → S → Prop} : Wp (cCallS f i s) Q = Wo s[i]? fun o => Wo o fun r => Wo (scR r) fun ns => Wo f.sr fun g => Wo (g ns) fun r => Q r s := by
  unfold cCallS
  cases h : s[i]? with
  | none => rw [wo_none]; exact wbad
  | some o => rw [wo_some]; cases o with
    | none => rw [wo_none]; exact wbad
    | some r => rw [wo_some]; cases r with
      | scr ns => rw [scR_scr, wo_some]; simp only [wgv, wok]
      | d x => exact wbad.trans wo_none.symm
      | own x => exact wbad.trans wo_none.symm
theorem w_cDin {neg : Bool} {kvs : List (Str × D)} {a : OF} {Q : R → S → Prop} : Wp (cDin neg kvs a s) Q = Wp (a s) fun o s => Wo (deref o s) fun x => Wo (stD x) fun k => Q (.d (.bool (cond neg (!(kvs.lookup k).isSome) (kvs.lookup k).isSome))) s := by
  unfold cDin; simp only [wbind, wgv]
  congr; funext o s; congr; funext x
  cases x with
  | str k => rw [stD_s, wo_some]; exact wok
  | _ => exact wbad.trans wo_none.symm
theorem cDget_eq {kvs : List (Str × D)} {f : XF} : cDget kvs [f] s = (cFz f s).bind fun p => (gv (stD p.1)).bind fun k => .ok (.d ((kvs.lookup k).getD .none), p.2) := by
  unfold cDget
  show ((cFz f s).bind fun p => (cArgs [] p.2).bind fun q => Rs.ok (p.1 :: q.1, q.2)).bind _ = _
  cases cFz f s with
  | bad => rfl
  | exc c x s => rfl
  | ok p => obtain ⟨x, s⟩ := p; cases x <;> rfl
theorem cDget_eq2 {kvs : List (Str × D)} {f g : XF} : cDget kvs [f, g] s = (cFz f s).bind fun p => (cFz g p.2).bind fun q => (gv (stD p.1)).bind fun k => .ok (.d ((kvs.lookup k).getD q.1), q.2) := by
  unfold cDget
  show ((cFz f s).bind fun p => (cArgs [g] p.2).bind fun q => Rs.ok (p.1 :: q.1, q.2)).bind _ = _
  cases cFz f s with
  | bad => rfl
  | exc c x s => rfl
  | ok p =>
    obtain ⟨x, s⟩ := p
    simp only [Rs.bind_ok]
    show (((cFz g s).bind fun p => (cArgs [] p.2).bind fun q => Rs.ok (p.1 :: q.1, q.2)).bind _).bind _ = _
    cases cFz g s with
    | bad => rfl
    | exc c x s => rfl
    | ok q => obtain ⟨y, s⟩ := q; cases x <;> rfl
theorem w_cDget1 {kvs : List (Str × D)} {f : XF} {Q : R → S → Prop} : Wp (cDget kvs [f] s) Q = Wp (cFz f s) fun x s => Wo (stD x) fun k => Q (.d ((kvs.lookup k).getD .none)) s := by
  rw [cDget_eq]; simp only [wbind, wgv, wok]
theorem w_cDget2 {kvs : List (Str × D)} {f g : XF} {Q : R → S → Prop} : Wp (cDget kvs [f, g] s) Q = Wp (cFz f s) fun x s => Wp (cFz g s) fun y s => Wo (stD x) fun k => Q (.d ((kvs.lookup k).getD y)) s := by
  rw [cDget_eq2]; simp only [wbind, wgv, wok]
theorem w_cMeth0 {m : String} {a : OF} {Q : R → S → Prop} : Wp (cMeth0 m a s) Q = Wp (a s) fun o s => Wo (derefD o s) fun x => Wo (dMeth0 m x) fun r => Q r s := by
  unfold cMeth0; simp only [wbind, wgv, wok]
/-! ### walks, targets, comprehensions -/
theorem w_wIt {f : XF} {Q : List D → S → Prop} : Wp (wIt f s) Q = Wp (cFz f s) fun x s => Wo (itOf x) fun xs => Q xs s := by
  unfold wIt; simp only [wbind, wgv, wok]
theorem w_wR1 {f : XF} {Q : List D → S → Prop} : Wp (wR1 f s) Q = Wp (f s) fun r s => Wo (inR r) fun n => Ck (okR n = true) (Q (rangeD 0 n) s) := by
  unfold wR1; rw [wbind]
  congr; funext r s
  cases r with
  | d y => cases y with
    | int c => rw [inR_d, wo_some]; exact wp_ck.trans (by rw [wok])
    | _ => exact wbad.trans wo_none.symm
  | _ => exact wbad.trans wo_none.symm
theorem w_wR2 {f g : XF} {Q : List D → S → Prop} : Wp (wR2 f g s) Q = Wp (f s) fun r s => Wp (g s) fun r' s => Wo (inR r) fun m => Wo (inR r') fun n => Ck (okR m = true ∧ okR n = true) (Q (rangeD m n) s) := by
  unfold wR2; rw [wbind]
  congr; funext r s; rw [wbind]; congr; funext r' s
  cases r with
  | d y => cases y with
    | int c =>
      rw [inR_d, wo_some]
      cases r' with
      | d y => cases y with
        | int c => rw [inR_d, wo_some]; exact wp_ck.trans (by rw [wok])
        | _ => exact wbad.trans wo_none.symm
      | _ => exact wbad.trans wo_none.symm
    | _ => exact wbad.trans wo_none.symm
  | _ => exact wbad.trans wo_none.symm
theorem w_wZip {f g : XF} {Q : List D → S → Prop} : Wp (wZip f g s) Q = Wp (cFz f s) fun x s => Wp (cFz g s) fun y s => Wo (itOf x) fun xs => Wo (itOf y) fun ys => Q (zipD xs ys) s := by
  unfold wZip
  simp only [wbind, w_cArgs1, w_cArgs0, wgv, wok]
theorem w_wEnum {f : XF} {Q : List D → S → Prop} : Wp (wEnum f s) Q = Wp (cFz f s) fun x s => Wo (itOf x) fun xs => Q (enumD 0 xs) s := by
  unfold wEnum; simp only [wbind, wgv, wok]
theorem enum_0 {k : Int} : enumD k [] = [] := rfl
theorem enum_1 {k : Int} {x : D} {xs : List D} : enumD k (x :: xs) = .tuple [.int k, x] :: enumD (k + 1) xs := rfl
theorem zip_0 {ys : List D} : zipD [] ys = [] := rfl
theorem zip_00 {xs : List D} : zipD xs [] = [] := by cases xs <;> rfl
theorem zip_1 {x y : D} {xs ys : List D} : zipD (x :: xs) (y :: ys) = .tuple [x, y] :: zipD xs ys := rfl
theorem w_gSet {x : D} {Q : S → Prop} : Wg (gSet i x s) Q = Ws (s.set i (some (.d x))) Q := wgok
theorem w_gAll0 {Q : S → Prop} : Wg (gAll [] [] s) Q = Q s := wgok
theorem w_gAll1 {g : GF} {gs : List GF} {x : D} {xs : List D} {Q : S → Prop} : Wg (gAll (g :: gs) (x :: xs) s) Q = Wg (g x s) fun s => Wg (gAll gs xs s) Q := by
  rw [gAll, wgg]
theorem wgvg {α : Type} {o : Option α} {f : α → Rs S} {Q : S → Prop} : Wg ((gv o).bind f) Q = Wo o fun a => Wg (f a) Q := by
  cases o with
  | some p => rw [wo_some]; rfl
  | none => rw [wo_none]; exact wgbad
theorem gPut_eq {ix : XF} {x : D} : gPut i ix x s = (gv (s[i]?.bind id)).bind fun r => (gv (owR r)).bind fun _ => (ix s).bind fun p => (gv (inR p.1)).bind fun k => (gv (p.2[i]?.bind id)).bind fun r => (gv (owR r)).bind fun xs => (gv (ixN xs.length k)).bind fun j => .ok (p.2.set i (some (.own (xs.set j x)))) := by
  unfold gPut
  cases s[i]? with
  | none => rfl
  | some o => cases o with
    | none => rfl
    | some r => cases r with
      | d x => rfl
      | scr x => rfl
      | own zs =>
        show (ix s).bind _ = (ix s).bind _
        congr 1; funext p
        obtain ⟨r, s2⟩ := p
        cases r with
        | own _ => rfl
        | scr _ => rfl
        | d y => cases y with
          | int k =>
            cases h : s2[i]? with
            | none => simp only [h]; rfl
            | some o => cases o with
              | none => simp only [h]; rfl
              | some r => cases r <;> simp only [h] <;> rfl
          | _ => rfl
theorem wo_bid {o : Option (Option R)} {Q : R → Prop} : Wo (o.bind id) Q = Wo o fun o => Wo o Q := by rw [wo_bind]; rfl
theorem w_gPut {ix : XF} {x : D} {Q : S → Prop} : Wg (gPut i ix x s) Q = Wo s[i]? fun o => Wo o fun r => Wo (owR r) fun _ => Wp (ix s) fun r s => Wo (inR r) fun k => Wo s[i]? fun o => Wo o fun r => Wo (owR r) fun xs => Wo (ixN xs.length k) fun j => Ws (s.set i (some (.own (xs.set j x)))) Q := by
  rw [gPut_eq]; simp only [wgvg, wgbind, wgok, wo_bid, Ws]
theorem w_gUnp {gs : List GF} {x : D} {Q : S → Prop} : Wg (gUnp gs x s) Q = Wo (sqD x) fun xs => Ck (xs.length = gs.length) (Wg (gAll gs xs s) Q) := by
  unfold gUnp
  cases x with
  | tuple xs => rw [sqD_t, wo_some]; exact wg_ck
  | list xs => rw [sqD_l, wo_some]; exact wg_ck
  | _ => exact wgbad.trans wo_none.symm
theorem w_cLc {it : AF} {own : List Nat} {tg : GF} {t : TF} {elt : XF} {Q : R → S → Prop} : Wp (cLc it own tg t elt s) Q = Wp (it s) fun xs s => Wp (lcL tg t elt own xs [] s) fun zs s' => Ws (backS s s' own) fun s => Q (.own zs) s := by
  unfold cLc; simp only [wbind, wok, Ws]
theorem w_lcL0 {own : List Nat} {tg : GF} {t : TF} {elt : XF} {acc : List D} {Q : List D → S → Prop} : Wp (lcL tg t elt own [] acc s) Q = Q acc s := wok
theorem w_lcL1 {own : List Nat} {tg : GF} {t : TF} {elt : XF} {x : D} {xs acc : List D} {Q : List D → S → Prop} : Wp (lcL tg t elt own (x :: xs) acc s) Q = Ws (wipeS s own) fun s => Wg (tg x s) fun s => Wp (t s) fun b s =>
    Br (b = true) (Wp (cFz elt s) fun y s => Ck (acc.length < szMax) (Wp (lcL tg t elt own xs (acc ++ [y]) s) Q)) (Wp (lcL tg t elt own xs acc s) Q) := by
  rw [lcL]; simp only [wpg, wbind, wp_ck, Ws]; simp only [wp_ite]; simp only [wbind, wp_ck]
theorem w_cLc2 {it it1 : AF} {own own1 : List Nat} {tg tg1 : GF} {t t1 : TF} {elt : XF} {Q : R → S → Prop} : Wp (cLc2 it own tg t it1 own1 tg1 t1 elt s) Q = Wp (it s) fun xs s => Wp (lc2L tg t it1 own1 tg1 t1 elt own xs [] s) fun zs s' => Ws (backS s s' own) fun s => Q (.own zs) s := by
  unfold cLc2; simp only [wbind, wok, Ws]
theorem w_lc2L0 {it1 : AF} {own own1 : List Nat} {tg tg1 : GF} {t t1 : TF} {elt : XF} {acc : List D} {Q : List D → S → Prop} : Wp (lc2L tg t it1 own1 tg1 t1 elt own [] acc s) Q = Q acc s := wok
theorem w_lc2L1 {it1 : AF} {own own1 : List Nat} {tg tg1 : GF} {t t1 : TF} {elt : XF} {x : D} {xs acc : List D} {Q : List D → S → Prop} : Wp (lc2L tg t it1 own1 tg1 t1 elt own (x :: xs) acc s) Q = Ws (wipeS s own) fun s => Wg (tg x s) fun s => Wp (t s) fun b s =>
    Br (b = true) (Wp (it1 s) fun ys s => Wp (lcL tg1 t1 elt own1 ys acc s) fun acc s => Wp (lc2L tg t it1 own1 tg1 t1 elt own xs acc s) Q) (Wp (lc2L tg t it1 own1 tg1 t1 elt own xs acc s) Q) := by
  rw [lc2L]; simp only [wpg, wbind, wp_ite, Ws]
theorem wipe0 : wipeS s [] = s := rfl
theorem wipe1 {l : List Nat} : wipeS s (i :: l) = (wipeS s l).set i none := rfl
theorem bk_n : bkR (some none) = none := rfl
theorem bk_d {x : D} : bkR (some (some (.d x))) = some (.d x) := rfl
theorem bk_s {x : List Int} : bkR (some (some (.scr x))) = some (.scr x) := rfl
theorem bk_o {x : List D} : bkR (some (some (.own x))) = none := rfl
theorem back0 {s0 : S} : backS s0 s [] = s := rfl
theorem back1 {s0 : S} {l : List Nat} : backS s0 s (i :: l) = (backS s0 s l).set i (bkR s0[i]?) := by
  rw [backS]
  rfl
/-! ### statements -/
def Sq (f : Fl) (A B : Prop) : Prop := match f with
  | .nx => A
  | _ => B
theorem Sq_nx {A B : Prop} : Sq .nx A B = A := rfl
theorem Sq_bk {A B : Prop} : Sq .bk A B = B := rfl
theorem Sq_ct {A B : Prop} : Sq .ct A B = B := rfl
theorem Sq_rt {r : R} {A B : Prop} : Sq (.rt r) A B = B := rfl
theorem Sq_rw {r : List R} {A B : Prop} : Sq (.rw r) A B = B := rfl
theorem w_sSkip {Q : Fl → S → Prop} : Wp (sSkip s) Q = Q .nx s := wok
theorem w_sSeq {a b : SF} {Q : Fl → S → Prop} : Wp (sSeq a b s) Q = Wp (a s) fun f s => Sq f (Wp (b s) Q) (Q f s) := by
  unfold sSeq; rw [wbind]
  congr; funext f s
  cases f with
  | nx => rfl
  | bk => exact wok
  | ct => exact wok
  | rt r => exact wok
  | rw r => exact wok
theorem w_sSet {f : XF} {Q : Fl → S → Prop} : Wp (sSet i f s) Q = Wp (f s) fun r s => Ws (s.set i (some r)) fun s => Q .nx s := by
  unfold sSet; simp only [wbind, wok, Ws]
theorem w_sTg {g : GF} {f : XF} {Q : Fl → S → Prop} : Wp (sTg g f s) Q = Wp (cFz f s) fun x s => Wg (g x s) fun s => Q .nx s := by
  unfold sTg; simp only [wbind, wpg, wok]
theorem w_rArgs0 {Q : List R → S → Prop} : Wp (rArgs [] s) Q = Q [] s := wok
theorem w_rArgs1 {f : XF} {fs : List XF} {Q : List R → S → Prop} : Wp (rArgs (f :: fs) s) Q = Wp (f s) fun x s => Wp (rArgs fs s) fun xs s => Q (x :: xs) s := by
  rw [rArgs]; simp only [wbind, wok]
theorem putAll0 {rs : List R} : putAll [] rs s = s := by cases rs <;> rfl
theorem putAll1 {is : List Nat} {r : R} {rs : List R} : putAll (i :: is) (r :: rs) s = putAll is rs (s.set i (some r)) := rfl
theorem w_sPar {is : List Nat} {fs : List XF} {Q : Fl → S → Prop} : Wp (sPar is fs s) Q = Wp (rArgs fs s) fun rs s => Ws (putAll is rs s) fun s => Q .nx s := by
  unfold sPar; simp only [wbind, wok, Ws]
def Mv (r : R) (i : Nat) (s : S) (Q : R → S → Prop) : Prop := match r with
  | .d x => Q (.d x) s
  | .own xs => Ws (s.set i none) fun s => Q (.own xs) s
  | _ => False
theorem Mv_d {x : D} {Q : R → S → Prop} : Mv (.d x) i s Q = Q (.d x) s := rfl
theorem Mv_own {xs : List D} {Q : R → S → Prop} : Mv (.own xs) i s Q = Ws (s.set i none) fun s => Q (.own xs) s := rfl
theorem w_cMv {Q : R → S → Prop} : Wp (cMv i s) Q = Wo s[i]? fun o => Wo o fun r => Mv r i s Q := by
  unfold cMv
  cases h : s[i]? with
  | none => rw [wo_none]; exact wbad
  | some o => rw [wo_some]; cases o with
    | none => rw [wo_none]; exact wbad
    | some r => rw [wo_some]; cases r with
      | d x => exact wok
      | own x => exact wok
      | scr x => exact wbad
theorem w_sRow {fs : List XF} {Q : Fl → S → Prop} : Wp (sRow fs s) Q = Wp (rArgs fs s) fun rs s => Q (.rw rs) s := by
  unfold sRow; simp only [wbind, wok]
theorem w_bindR {α β : Type} {x : Option α} {F : α → Rs β} {G : β → Rs (Fl × S)} {Q : Fl → S → Prop} : Wp (((gv x).bind F).bind G) Q = Wo x fun a => Wp ((F a).bind G) Q := by
  cases x with
  | none => rw [wo_none]; exact wbad
  | some a => rw [wo_some]; rfl
theorem w_sUnR {is : List Nat} {f : FS} {as : List OF} {Q : Fl → S → Prop} : Wp (sUnR is f as s) Q = Wp (oArgs as s) fun os s => Wo f.rr fun g => Wo (derefs none 0 os s) fun xs => Wo (g xs) fun rs => Ck (is.length = rs.length) (Ws (putAll is rs s) fun s => Q .nx s) := by
  unfold sUnR; simp only [wbind]
  congr; funext os s
  unfold doCallR
  rw [w_bindR]; congr; funext g; rw [w_bindR]; congr; funext xs; rw [wgv]; congr; funext rs
  show Wp (if is.length = rs.length then _ else _) Q = _
  by_cases h : is.length = rs.length
  · rw [if_pos h]; simp only [Ck, h, true_and, Ws]; exact wok
  · rw [if_neg h]; simp only [Ck, h, false_and]; exact wbad
theorem w_sIf {t : TF} {a b : SF} {Q : Fl → S → Prop} : Wp (sIf t a b s) Q = Wp (t s) fun k s => Br (k = true) (Wp (a s) Q) (Wp (b s) Q) := by
  unfold sIf; simp only [wbind, wp_ite]
theorem w_sRet {f : XF} {Q : Fl → S → Prop} : Wp (sRet f s) Q = Wp (f s) fun r s => Q (.rt r) s := by
  unfold sRet; simp only [wbind, wok]
def Wt (r : R) (i : Nat) (s : S) (Q : Fl → S → Prop) : Prop := match r with
  | .own xs => Ws (s.set i none) fun s => Q (.rt (.own xs)) s
  | r => Q (.rt r) s
theorem Wt_d {x : D} {Q : Fl → S → Prop} : Wt (.d x) i s Q = Q (.rt (.d x)) s := rfl
theorem Wt_own {xs : List D} {Q : Fl → S → Prop} : Wt (.own xs) i s Q = Ws (s.set i none) fun s => Q (.rt (.own xs)) s := rfl
theorem w_sRetN {Q : Fl → S → Prop} : Wp (sRetN i s) Q = Wo s[i]? fun o => Wo o fun r => Wt r i s Q := by
  unfold sRetN
  cases h : s[i]? with
  | none => rw [wo_none]; exact wbad
  | some o => rw [wo_some]; cases o with
    | none => rw [wo_none]; exact wbad
    | some r => rw [wo_some]; cases r <;> exact wok
theorem w_sRet0 {Q : Fl → S → Prop} : Wp (sRet0 s) Q = Q (.rt (.d .none)) s := wok
theorem w_sDrop {f : XF} {Q : Fl → S → Prop} : Wp (sDrop f s) Q = Wp (f s) fun _ s => Q .nx s := by
  unfold sDrop; simp only [wbind, wok]
theorem w_sBrk {Q : Fl → S → Prop} : Wp (sBrk s) Q = Q .bk s := wok
theorem w_sCnt {Q : Fl → S → Prop} : Wp (sCnt s) Q = Q .ct s := wok
theorem w_sAug {g : D → D → Option R} {a : OF} {Q : Fl → S → Prop} : Wp (sAug i g a s) Q = Wp (oName i s) fun o s => Wp (a s) fun o' s => Wo (deref o s) fun x => Wo (deref o' s) fun y => Wo (g x y) fun r => Ws (s.set i (some r)) fun s => Q .nx s := by
  unfold sAug; simp only [wbind, wgv, wok, Ws]
theorem w_intR {β : Type} {r : R} {F : Int → Rs (β × S)} {Q : β → S → Prop} : Wp ((intR r).bind F) Q = Wo (inR r) fun k => Wp (F k) Q := by
  cases r with
  | d y => cases y with
    | int c => rw [inR_d, wo_some]; rfl
    | _ => exact wbad.trans wo_none.symm
  | _ => exact wbad.trans wo_none.symm
theorem w_sPut {ix val : XF} {Q : Fl → S → Prop} : Wp (sPut i ix val s) Q = Wp (cFz val s) fun v s => Wo s[i]? fun o => Wo o fun r => Wo (owR r) fun _ => Wp (ix s) fun r s => Wo (inR r) fun k =>
    Wo s[i]? fun o => Wo o fun r => Wo (owR r) fun xs => Wo (ixN xs.length k) fun j => Ws (s.set i (some (.own (xs.set j v)))) fun s => Q .nx s := by
  unfold sPut; simp only [wbind, w_ownAt, w_intR, wgv, wok, Ws]
theorem wp_ckn {α : Type} {c : Prop} [Decidable c] {o : Rs (α × S)} {Q : α → S → Prop} : Wp (if c then .bad else o) Q = Ck (¬c) (Wp o Q) := by
  by_cases h : c <;> simp [h, Ck, wbad]
theorem w_sPutOp {ix val : XF} {g : D → D → Option R} {Q : Fl → S → Prop} : Wp (sPutOp i ix g val s) Q = Wo s[i]? fun o => Wo o fun r => Wo (owR r) fun _ => Wp (ix s) fun r s => Wo (inR r) fun k =>
    Wo s[i]? fun o => Wo o fun r => Wo (owR r) fun xs => Ck (¬(k < 0 ∨ szMax < k)) (Wo (xs[k.toNat]?) fun x => Wp (cFz val s) fun v s => Wo (g x v) fun r => Wo (fz r) fun z =>
    Wo s[i]? fun o => Wo o fun r => Wo (owR r) fun ys => Wo (ixN ys.length k) fun j => Ws (s.set i (some (.own (ys.set j z)))) fun s => Q .nx s) := by
  unfold sPutOp; simp only [wbind, w_ownAt, w_intR, wgv, wok, Ws, wp_ckn]
theorem w_sFor {it : AF} {tg : GF} {body : SF} {Q : Fl → S → Prop} : Wp (sFor it tg body s) Q = Wp (it s) fun xs s => Wp (forL s tg body xs s) Q := by
  unfold sFor; simp only [wbind]
def Lp (f : Fl) (A B : Prop) (C : R → Prop) : Prop := match f with
  | .nx => A
  | .ct => A
  | .bk => B
  | .rt u => C u
  | .rw _ => False
theorem Lp_nx {A B : Prop} {C : R → Prop} : Lp .nx A B C = A := rfl
theorem Lp_bk {A B : Prop} {C : R → Prop} : Lp .bk A B C = B := rfl
theorem Lp_ct {A B : Prop} {C : R → Prop} : Lp .ct A B C = A := rfl
theorem Lp_rt {r : R} {A B : Prop} {C : R → Prop} : Lp (.rt r) A B C = C r := rfl
theorem mask_n {r q : S} {x : Option R} : mask (none :: r) (x :: q) = none :: mask r q := rfl
theorem mask_s {r q : S} {x : Option R} {y : R} : mask (some y :: r) (x :: q) = x :: mask r q := rfl
theorem mask_0 : mask [] [] = [] := rfl
theorem w_forL0 {s0 : S} {tg : GF} {body : SF} {Q : Fl → S → Prop} : Wp (forL s0 tg body [] s) Q = Ws (mask s0 s) fun s => Q .nx s := by
  rw [forL, wok]; rfl
theorem w_forL1 {s0 : S} {tg : GF} {body : SF} {x : D} {xs : List D} {Q : Fl → S → Prop} : Wp (forL s0 tg body (x :: xs) s) Q = Ws (mask s0 s) fun s => Wg (tg x s) fun s => Wp (body s) fun f s =>
    Lp f (Wp (forL s0 tg body xs s) Q) (Ws (mask s0 s) fun s => Q .nx s) (fun u => Q (.rt u) s) := by
  rw [forL]; simp only [wpg, wbind, Ws]
  congr; funext s1; congr; funext f s
  cases f with
  | nx => rfl
  | ct => rfl
  | bk => exact wok
  | rt u => exact wok
  | rw u => exact wbad
theorem w_sWh {n : Nat} {t : TF} {body : SF} {Q : Fl → S → Prop} : Wp (sWh n t body s) Q = Wp (whL s t body n s) Q := rfl
theorem w_whL1 {s0 : S} {n : Nat} {t : TF} {body : SF} {Q : Fl → S → Prop} : Wp (whL s0 t body (n + 1) s) Q = Ws (mask s0 s) fun s => Wp (t s) fun b s => Br (b = true) (Wp (body s) fun f s =>
    Lp f (Wp (whL s0 t body n s) Q) (Ws (mask s0 s) fun s => Q .nx s) (fun u => Q (.rt u) s)) (Q .nx s) := by
  rw [whL]; simp only [wbind, wp_ite, wok, Ws]
  congr; funext b s1; congr; funext f s
  cases f with
  | nx => rfl
  | ct => rfl
  | bk => exact wok
  | rt u => exact wok
  | rw u => exact wbad
/-! ### a def -/
theorem w_out0 {Q : List D → Prop} : Wo (outOf none s) Q = Q [] := wo_some
theorem w_out1 {k : Nat} {Q : List D → Prop} : Wo (outOf (some k) s) Q = Wo s[k]? fun o => Wo o fun r => Wo (owR r) Q := by
  show Wo (match s[k]? with | some (some (.own ys)) => some ys | _ => none) Q = _
  cases s[k]? with
  | none => simp only [wo_none]
  | some q => cases q with
    | none => simp only [wo_none, wo_some]
    | some r => cases r <;> simp only [wo_none, wo_some, owR]
def Fo (f : Fl) (io : Option Nat) (s : S) (Q : R → List D → Prop) : Prop := match f with
  | .nx => Wo (outOf io s) fun o => Q (.d .none) o
  | .rt (.d x) => Wo (outOf io s) fun o => Q (.d x) o
  | .rt (.own x) => Wo (outOf io s) fun o => Q (.own x) o
  | _ => False
theorem Fo_nx {io : Option Nat} {Q : R → List D → Prop} : Fo .nx io s Q = Wo (outOf io s) fun o => Q (.d .none) o := rfl
theorem Fo_d {io : Option Nat} {x : D} {Q : R → List D → Prop} : Fo (.rt (.d x)) io s Q = Wo (outOf io s) fun o => Q (.d x) o := rfl
theorem Fo_own {io : Option Nat} {x : List D} {Q : R → List D → Prop} : Fo (.rt (.own x)) io s Q = Wo (outOf io s) fun o => Q (.own x) o := rfl
theorem w_fnRun {n : Nat} {io : Option Nat} {body : SF} {xs : List D} {Q : R → List D → Prop} : Wq (okRs (fnRun n io body xs)) Q = Ws (entry n io xs) fun s => Wp (body s) fun f s => Fo f io s Q := by
  unfold fnRun Ws
  show _ = Wp (body (entry n io xs)) _
  cases body (entry n io xs) with
  | bad => exact wq_none.trans wbad.symm
  | exc c x s => exact propext ⟨fun ⟨_, _, e, _⟩ => (nomatch (show none = some _ from e)), fun ⟨_, _, e, _⟩ => (by cases e)⟩
  | ok p =>
    obtain ⟨f, s⟩ := p
    refine Eq.trans ?_ wok.symm
    have key : ∀ r : R, Wq (okRs ((gv (outOf io s)).bind fun o => Rs.ok (r, o))) Q = Wo (outOf io s) fun o => Q r o := fun r => by
      cases outOf io s with
      | none => rw [wo_none]; exact wq_none
      | some o => rw [wo_some]; exact wq_some
    cases f with
    | nx => exact key _
    | bk => exact wq_none
    | ct => exact wq_none
    | rt r => cases r with
      | d x => exact key _
      | own x => exact key _
      | scr x => exact wq_none
    | rw r => exact wq_none
theorem w_run {ps : List Str} {kl : List (List Str)} {io : Option Nat} {n : Nat} {body : SF} {xs : List D} {Q : R → List D → Prop} : Wq ((mkFS ps kl io n body).run xs) Q = Ws (entry n io xs) fun s => Wp (body s) fun f s => Fo f io s Q := w_fnRun
def Fs (f : Fl) (Q : R → Prop) : Prop := match f with
  | .rt (.d x) => Q (.d x)
  | .rt (.own x) => Q (.own x)
  | _ => False
theorem Fs_d {x : D} {Q : R → Prop} : Fs (.rt (.d x)) Q = Q (.d x) := rfl
theorem Fs_own {x : List D} {Q : R → Prop} : Fs (.rt (.own x)) Q = Q (.own x) := rfl
theorem w_runS {n : Nat} {body : SF} {ns : List Int} {Q : R → Prop} : Wo (okRs (fnRunS n body ns)) Q = Ws (some (.scr ns) :: List.replicate (n - 1) none) fun s => Wp (body s) fun f _ => Fs f Q := by
  unfold fnRunS Ws
  show _ = Wp (body (some (.scr ns) :: List.replicate (n - 1) none)) _
  cases body (some (.scr ns) :: List.replicate (n - 1) none) with
  | bad => exact wo_none.trans wbad.symm
  | exc c x s => exact propext ⟨fun ⟨_, e, _⟩ => (nomatch (show none = some _ from e)), fun ⟨_, _, e, _⟩ => (by cases e)⟩
  | ok p =>
    obtain ⟨f, s⟩ := p
    refine Eq.trans ?_ wok.symm
    cases f with
    | nx => exact wo_none
    | bk => exact wo_none
    | ct => exact wo_none
    | rt r => cases r with
      | d x => exact wo_some
      | own x => exact wo_some
      | scr x => exact wo_none
    | rw r => exact wo_none
def Fr (f : Fl) (Q : List R → Prop) : Prop := match f with
  | .rw rs => Q rs
  | _ => False
theorem Fr_rw {rs : List R} {Q : List R → Prop} : Fr (.rw rs) Q = Q rs := rfl
theorem w_runR {n : Nat} {body : SF} {xs : List D} {Q : List R → Prop} : Wo (okRs (fnRunR n body xs)) Q = Ws (entry n none xs) fun s => Wp (body s) fun f _ => Fr f Q := by
  unfold fnRunR Ws
  show _ = Wp (body (entry n none xs)) _
  cases body (entry n none xs) with
  | bad => exact wo_none.trans wbad.symm
  | exc c x s => exact propext ⟨fun ⟨_, e, _⟩ => (nomatch (show none = some _ from e)), fun ⟨_, _, e, _⟩ => (by cases e)⟩
  | ok p =>
    obtain ⟨f, s⟩ := p
    refine Eq.trans ?_ wok.symm
    cases f with
    | rw rs => exact wo_some
    | _ => exact wo_none
theorem w_runS2 {ps : List Str} {n : Nat} {body : SF} {Q : (List Int → Option R) → Prop} : Wo (mkFSs ps n body).sr Q = Q fun ns => okRs (fnRunS n body ns) := wo_some
theorem enR_f {x : D} : enR false x = some (.d x) := rfl
theorem enR_l {x : List D} : enR true (.list x) = some (.own x) := rfl
theorem entL_0 {io : Option Nat} {k : Nat} : entL io k [] = [] := rfl
theorem entL_1 {io : Option Nat} {k : Nat} {x : D} {xs : List D} : entL io k (x :: xs) = enR (ioAt io k) x :: entL io (k + 1) xs := by
  show (if io = some k then (match x with | .list ys => some (R.own ys) | x => some (.d x)) else some (.d x)) :: entL io (k + 1) xs = _
  congr 1
  unfold enR ioAt
  by_cases h : io = some k
  · rw [if_pos h, decide_eq_true h, if_pos rfl]
  · rw [if_neg h, decide_eq_false h, if_neg (by decide)]
theorem entry_u {n : Nat} {io : Option Nat} {xs : List D} : entry n io xs = entL io 0 xs ++ List.replicate (n - xs.length) none := rfl
end
/-! ### values -/
section
variable {i j : Int} {a b : Str} {xs ys : List D} {Q : R → Prop}
theorem v_add : dBin .Add (.int i) (.int j) = some (.d (.int (i + j))) := rfl
theorem v_sub : dBin .Sub (.int i) (.int j) = some (.d (.int (i - j))) := rfl
theorem v_adds : Wo (dBin .Add (.str a) (.str b)) Q = Ck (a.length + b.length ≤ szMax) (Q (.d (.str (a ++ b)))) := wo_ck.trans (by rw [wo_some])
theorem v_addl : Wo (dBin .Add (.list xs) (.list ys)) Q = Ck (xs.length + ys.length ≤ szMax) (Q (.own (xs ++ ys))) := wo_ck.trans (by rw [wo_some])
theorem v_addt : Wo (dBin .Add (.tuple xs) (.tuple ys)) Q = Ck (xs.length + ys.length ≤ szMax) (Q (.d (.tuple (xs ++ ys)))) := wo_ck.trans (by rw [wo_some])
theorem v_mul : Wo (dBin .Mult (.int i) (.int j)) Q = Ck ((i.natAbs < 2 ^ 64 ∨ j.natAbs < 2 ^ 64) ∨ i.natAbs.log2 + j.natAbs.log2 < 1000000) (Q (.d (.int (i * j)))) := wo_ck.trans (by rw [wo_some])
theorem v_mull : Wo (dBin .Mult (.list xs) (.int j)) Q = Ck (j ≤ 1000000 ∧ -1000000 ≤ j ∧ xs.length * j.toNat ≤ szMax) (Q (.own (List.replicate j.toNat xs).flatten)) := wo_ck.trans (by rw [wo_some])
theorem v_mult : Wo (dBin .Mult (.tuple xs) (.int j)) Q = Ck (0 ≤ j ∧ j ≤ 1000 ∧ xs.isEmpty = false ∧ xs.length ≤ 1000) (Q (.d (.tuple (List.replicate j.toNat xs).flatten))) := wo_ck.trans (by rw [wo_some])
theorem v_muls : Wo (dBin .Mult (.str a) (.int j)) Q = Ck (j ≤ 1000000 ∧ -1000000 ≤ j ∧ a.length * j.toNat ≤ szMax) (Q (.d (.str (repS a j.toNat)))) := wo_ck.trans (by rw [wo_some])
theorem v_fdiv : Wo (dBin .FloorDiv (.int i) (.int j)) Q = Ck (0 < j ∧ j.natAbs.log2 < 9000) (Q (.d (.int (i / j)))) := wo_ck.trans (by rw [wo_some])
theorem v_mod : Wo (dBin .Mod (.int i) (.int j)) Q = Ck (0 < j) (Q (.d (.int (i % j)))) := wo_ck.trans (by rw [wo_some])
theorem v_pow : Wo (dBin .Pow (.int i) (.int j)) Q = Ck (0 ≤ j ∧ j ≤ 1000000 ∧ i.natAbs < 2 ^ 64) (Q (.d (.int (i ^ j.toNat)))) := wo_ck.trans (by rw [wo_some])
theorem v_shl : Wo (dBin .LShift (.int i) (.int j)) Q = Ck (0 ≤ j ∧ j ≤ 1000000 ∧ i.natAbs < 2 ^ 64) (Q (.d (.int (i * 2 ^ j.toNat)))) := wo_ck.trans (by rw [wo_some])
theorem v_shr : Wo (dBin .RShift (.int i) (.int j)) Q = Ck (0 ≤ j) (Q (.d (.int (i / 2 ^ j.toNat)))) := wo_ck.trans (by rw [wo_some])
theorem v_and : dBin .BitAnd (.int i) (.int j) = some (.d (.int (Builtin.bitAnd i j))) := rfl
theorem v_or : dBin .BitOr (.int i) (.int j) = some (.d (.int (Builtin.bitOr i j))) := rfl
theorem v_xor : dBin .BitXor (.int i) (.int j) = some (.d (.int (Builtin.bitXor i j))) := rfl
theorem v_iadd : dIop .Add (.int i) (.int j) = some (.d (.int (i + j))) := rfl
theorem v_isub : dIop .Sub (.int i) (.int j) = some (.d (.int (i - j))) := rfl
theorem v_ishl : Wo (dIop .LShift (.int i) (.int j)) Q = Ck (0 ≤ j ∧ j ≤ 1000000 ∧ i.natAbs < 2 ^ 64) (Q (.d (.int (i * 2 ^ j.toNat)))) := wo_ck.trans (by rw [wo_some])
theorem v_ishr : Wo (dIop .RShift (.int i) (.int j)) Q = Ck (0 ≤ j) (Q (.d (.int (i / 2 ^ j.toNat)))) := wo_ck.trans (by rw [wo_some])
theorem v_iand : dIop .BitAnd (.int i) (.int j) = some (.d (.int (Builtin.bitAnd i j))) := rfl
theorem v_ior : dIop .BitOr (.int i) (.int j) = some (.d (.int (Builtin.bitOr i j))) := rfl
theorem v_ixor : dIop .BitXor (.int i) (.int j) = some (.d (.int (Builtin.bitXor i j))) := rfl
theorem v_neg : dUn .USub (.int i) = some (.d (.int (-i))) := rfl
theorem v_lt : dCmp .Lt (.int i) (.int j) = some (decide (i < j)) := rfl
theorem v_lts : dCmp .Lt (.str a) (.str b) = some (decide (a.cps.toList < b.cps.toList)) := rfl
theorem in_tup {x : D} {Q : Bool → Prop} : Wo (dIn x (.tuple xs)) Q = Br (flatD x = true ∧ xs.all flatD = true) (Q (xs.any fun y => PyData.eqv y x)) (Ck (SeqAt.shaped x = true ∧ SeqAt.shaped (.list xs) = true) (Q (xs.any fun y => PyData.eqv y x))) := by
  show Wo (if _ then _ else if _ then _ else _) Q = _
  rw [wo_ite, wo_ck, wo_some]
theorem fl_i : flatD (.int i) = true := rfl
theorem fl_s : flatD (.str a) = true := rfl
theorem fl_b {p : Bool} : flatD (.bool p) = true := rfl
theorem fl_n : flatD .none = true := rfl
theorem fl_t : flatD (.tuple xs) = false := rfl
theorem fl_l : flatD (.list xs) = false := rfl
theorem ev_ii : PyData.eqv (.int i) (.int j) = decide (i = j) := by show (i == j) = _; by_cases h : i = j <;> simp [h]
theorem ev_ss : PyData.eqv (.str a) (.str b) = decide (a = b) := by show (a == b) = _; by_cases h : a = b <;> simp [h]
theorem v_le : dCmp .LtE (.int i) (.int j) = some (decide (i ≤ j)) := rfl
theorem v_gt : dCmp .Gt (.int i) (.int j) = some (decide (j < i)) := rfl
theorem v_ge : dCmp .GtE (.int i) (.int j) = some (decide (j ≤ i)) := rfl
theorem v_is {x : D} : dCmp .Is x .none = some (isNon x) := by cases x <;> rfl
theorem v_isn {x : D} : dCmp .IsNot x .none = some (!isNon x) := by cases x <;> rfl
theorem v_non : isNon .none = true := rfl
theorem v_nonb {b : Bool} : isNon (.bool b) = false := rfl
theorem v_noni : isNon (.int i) = false := rfl
theorem v_nons : isNon (.str a) = false := rfl
theorem v_nonl : isNon (.list xs) = false := rfl
theorem v_nont : isNon (.tuple xs) = false := rfl
theorem v_eq {x y : D} : dCmp .Eq x y = dEq x y := by cases x <;> cases y <;> rfl
theorem v_ne {x y : D} {Q : Bool → Prop} : Wo (dCmp .NotEq x y) Q = Wo (dEq x y) fun b => Q (!b) := by rw [show dCmp .NotEq x y = (dEq x y).map (!·) by cases x <;> cases y <;> rfl, wo_map]
theorem v_in {x y : D} : dCmp .In x y = dIn x y := by cases x <;> cases y <;> rfl
theorem v_nin {x y : D} {Q : Bool → Prop} : Wo (dCmp .NotIn x y) Q = Wo (dIn x y) fun b => Q (!b) := by rw [show dCmp .NotIn x y = (dIn x y).map (!·) by cases x <;> cases y <;> rfl, wo_map]
theorem e_ii : dEq (.int i) (.int j) = some (decide (i = j)) := rfl
theorem e_bb {p q : Bool} : dEq (.bool p) (.bool q) = some (p == q) := rfl
theorem e_ss : dEq (.str a) (.str b) = some (decide (a = b)) := rfl
theorem e_nn : dEq .none .none = some true := rfl
theorem e_ni : dEq .none (.int i) = some false := rfl
theorem e_in : dEq (.int i) .none = some false := rfl
theorem e_nb {p : Bool} : dEq .none (.bool p) = some false := rfl
theorem e_bn {p : Bool} : dEq (.bool p) .none = some false := rfl
theorem e_ns : dEq .none (.str a) = some false := rfl
theorem e_sn : dEq (.str a) .none = some false := rfl
theorem e_is : dEq (.int i) (.str a) = some false := rfl
theorem e_si : dEq (.str a) (.int i) = some false := rfl
theorem e_bs {p : Bool} : dEq (.bool p) (.str a) = some false := rfl
theorem e_sb {p : Bool} : dEq (.str a) (.bool p) = some false := rfl
theorem t_n : dTru .none = some false := rfl
theorem t_b {p : Bool} : dTru (.bool p) = some p := rfl
theorem t_i : dTru (.int i) = some (i != 0) := rfl
theorem t_l : dTru (.list xs) = some (!xs.isEmpty) := rfl
theorem t_t : dTru (.tuple xs) = some (!xs.isEmpty) := rfl
theorem t_s {Q : Bool → Prop} : Wo (dTru (.str a)) Q = Ck (a.length ≤ szMax) (Q ((a.length : Int) != 0)) := wo_ck.trans (by rw [wo_some])
theorem x_l : dIx (.list xs) (.int i) = (atI xs i).map .d := rfl
theorem x_t : dIx (.tuple xs) (.int i) = (atI xs i).map .d := rfl
theorem x_s : Wo (dIx (.str a) (.int i)) Q = Ck (a.length ≤ szMax) (Wo (atI a.cps.toList i) fun c => Q (.d (.str ⟨#[c]⟩))) := wo_ck.trans (by rw [wo_map])
theorem atI_of {α : Type} {l : List α} {k : Nat} (h : k < l.length) : atI l (k : Int) = l[k]? := by
  have : l[k]? = some l[k] := List.getElem?_eq_getElem h
  rw [this]; exact atI_nat this
theorem atI_0 {α : Type} {x0 : α} {l : List α} : atI (x0 :: l) 0 = some x0 := atI_nat (j := 0) rfl
theorem atI_1 {α : Type} {x0 x1 : α} {l : List α} : atI (x0 :: x1 :: l) 1 = some x1 := atI_nat (j := 1) rfl
theorem atI_2 {α : Type} {x0 x1 x2 : α} {l : List α} : atI (x0 :: x1 :: x2 :: l) 2 = some x2 := atI_nat (j := 2) rfl
theorem atI_3 {α : Type} {x0 x1 x2 x3 : α} {l : List α} : atI (x0 :: x1 :: x2 :: x3 :: l) 3 = some x3 := atI_nat (j := 3) rfl
theorem atI_4 {α : Type} {x0 x1 x2 x3 x4 : α} {l : List α} : atI (x0 :: x1 :: x2 :: x3 :: x4 :: l) 4 = some x4 := atI_nat (j := 4) rfl
theorem atI_5 {α : Type} {x0 x1 x2 x3 x4 x5 : α} {l : List α} : atI (x0 :: x1 :: x2 :: x3 :: x4 :: x5 :: l) 5 = some x5 := atI_nat (j := 5) rfl
theorem atI_6 {α : Type} {x0 x1 x2 x3 x4 x5 x6 : α} {l : List α} : atI (x0 :: x1 :: x2 :: x3 :: x4 :: x5 :: x6 :: l) 6 = some x6 := atI_nat (j := 6) rfl
theorem atI_7 {α : Type} {x0 x1 x2 x3 x4 x5 x6 x7 : α} {l : List α} : atI (x0 :: x1 :: x2 :: x3 :: x4 :: x5 :: x6 :: x7 :: l) 7 = some x7 := atI_nat (j := 7) rfl
theorem atI_8 {α : Type} {x0 x1 x2 x3 x4 x5 x6 x7 x8 : α} {l : List α} : atI (x0 :: x1 :: x2 :: x3 :: x4 :: x5 :: x6 :: x7 :: x8 :: l) 8 = some x8 := atI_nat (j := 8) rfl
theorem atI_9 {α : Type} {x0 x1 x2 x3 x4 x5 x6 x7 x8 x9 : α} {l : List α} : atI (x0 :: x1 :: x2 :: x3 :: x4 :: x5 :: x6 :: x7 :: x8 :: x9 :: l) 9 = some x9 := atI_nat (j := 9) rfl
theorem atI_10 {α : Type} {x0 x1 x2 x3 x4 x5 x6 x7 x8 x9 x10 : α} {l : List α} : atI (x0 :: x1 :: x2 :: x3 :: x4 :: x5 :: x6 :: x7 :: x8 :: x9 :: x10 :: l) 10 = some x10 := atI_nat (j := 10) rfl
theorem atI_11 {α : Type} {x0 x1 x2 x3 x4 x5 x6 x7 x8 x9 x10 x11 : α} {l : List α} : atI (x0 :: x1 :: x2 :: x3 :: x4 :: x5 :: x6 :: x7 :: x8 :: x9 :: x10 :: x11 :: l) 11 = some x11 := atI_nat (j := 11) rfl
theorem atI_12 {α : Type} {x0 x1 x2 x3 x4 x5 x6 x7 x8 x9 x10 x11 x12 : α} {l : List α} : atI (x0 :: x1 :: x2 :: x3 :: x4 :: x5 :: x6 :: x7 :: x8 :: x9 :: x10 :: x11 :: x12 :: l) 12 = some x12 := atI_nat (j := 12) rfl
theorem atI_13 {α : Type} {x0 x1 x2 x3 x4 x5 x6 x7 x8 x9 x10 x11 x12 x13 : α} {l : List α} : atI (x0 :: x1 :: x2 :: x3 :: x4 :: x5 :: x6 :: x7 :: x8 :: x9 :: x10 :: x11 :: x12 :: x13 :: l) 13 = some x13 := atI_nat (j := 13) rfl
theorem atI_14 {α : Type} {x0 x1 x2 x3 x4 x5 x6 x7 x8 x9 x10 x11 x12 x13 x14 : α} {l : List α} : atI (x0 :: x1 :: x2 :: x3 :: x4 :: x5 :: x6 :: x7 :: x8 :: x9 :: x10 :: x11 :: x12 :: x13 :: x14 :: l) 14 = some x14 := atI_nat (j := 14) rfl
theorem atI_15 {α : Type} {x0 x1 x2 x3 x4 x5 x6 x7 x8 x9 x10 x11 x12 x13 x14 x15 : α} {l : List α} : atI (x0 :: x1 :: x2 :: x3 :: x4 :: x5 :: x6 :: x7 :: x8 :: x9 :: x10 :: x11 :: x12 :: x13 :: x14 :: x15 :: l) 15 = some x15 := atI_nat (j := 15) rfl
theorem ixN_0 {n : Nat} : ixN (n + 1) 0 = some 0 := by
  unfold ixN; rw [if_pos (by omega), if_pos (by omega)]; rfl
theorem ixN_1 {n : Nat} : ixN (n + 1 + 1) 1 = some 1 := by
  unfold ixN; rw [if_pos (by omega), if_pos (by omega)]; rfl
theorem ixN_2 {n : Nat} : ixN (n + 1 + 1 + 1) 2 = some 2 := by
  unfold ixN; rw [if_pos (by omega), if_pos (by omega)]; rfl
theorem ixN_3 {n : Nat} : ixN (n + 1 + 1 + 1 + 1) 3 = some 3 := by
  unfold ixN; rw [if_pos (by omega), if_pos (by omega)]; rfl
theorem ixN_4 {n : Nat} : ixN (n + 1 + 1 + 1 + 1 + 1) 4 = some 4 := by
  unfold ixN; rw [if_pos (by omega), if_pos (by omega)]; rfl
theorem ixN_5 {n : Nat} : ixN (n + 1 + 1 + 1 + 1 + 1 + 1) 5 = some 5 := by
  unfold ixN; rw [if_pos (by omega), if_pos (by omega)]; rfl
theorem ixN_6 {n : Nat} : ixN (n + 1 + 1 + 1 + 1 + 1 + 1 + 1) 6 = some 6 := by
  unfold ixN; rw [if_pos (by omega), if_pos (by omega)]; rfl
theorem ixN_7 {n : Nat} : ixN (n + 1 + 1 + 1 + 1 + 1 + 1 + 1 + 1) 7 = some 7 := by
  unfold ixN; rw [if_pos (by omega), if_pos (by omega)]; rfl
theorem ixN_8 {n : Nat} : ixN (n + 1 + 1 + 1 + 1 + 1 + 1 + 1 + 1 + 1) 8 = some 8 := by
  unfold ixN; rw [if_pos (by omega), if_pos (by omega)]; rfl
theorem ixN_9 {n : Nat} : ixN (n + 1 + 1 + 1 + 1 + 1 + 1 + 1 + 1 + 1 + 1) 9 = some 9 := by
  unfold ixN; rw [if_pos (by omega), if_pos (by omega)]; rfl
theorem ixN_10 {n : Nat} : ixN (n + 1 + 1 + 1 + 1 + 1 + 1 + 1 + 1 + 1 + 1 + 1) 10 = some 10 := by
  unfold ixN; rw [if_pos (by omega), if_pos (by omega)]; rfl
theorem ixN_11 {n : Nat} : ixN (n + 1 + 1 + 1 + 1 + 1 + 1 + 1 + 1 + 1 + 1 + 1 + 1) 11 = some 11 := by
  unfold ixN; rw [if_pos (by omega), if_pos (by omega)]; rfl
theorem ixN_12 {n : Nat} : ixN (n + 1 + 1 + 1 + 1 + 1 + 1 + 1 + 1 + 1 + 1 + 1 + 1 + 1) 12 = some 12 := by
  unfold ixN; rw [if_pos (by omega), if_pos (by omega)]; rfl
theorem s_l {lo hi : Option Int} : dSl (.list xs) lo hi = some (.own (cutD xs lo hi)) := rfl
theorem s_t {lo hi : Option Int} : dSl (.tuple xs) lo hi = some (.d (.tuple (cutD xs lo hi))) := rfl
theorem s_s {lo hi : Option Int} : Wo (dSl (.str a) lo hi) Q = Ck (a.length ≤ szMax) (Q (.d (.str (cutS a lo hi)))) := wo_ck.trans (by rw [wo_some])
theorem rev_l : dRev (.list xs) = some (.own xs.reverse) := rfl
theorem rev_t : dRev (.tuple xs) = some (.d (.tuple xs.reverse)) := rfl
theorem m0_bits : dMeth0 "bit_length" (.int i) = some (.d (.int (Builtin.Int.intBits i : Nat))) := rfl
theorem b_len_l : dB1 "len" (.list xs) = some (.d (.int xs.length)) := rfl
theorem b_len_t : dB1 "len" (.tuple xs) = some (.d (.int xs.length)) := rfl
theorem b_len_s : Wo (dB1 "len" (.str a)) Q = Ck (a.length ≤ szMax) (Q (.d (.int a.length))) := by
  by_cases h : a.length ≤ szMax
  · have e1 : dLen (.str a) = some a.length := if_pos h
    have e : dB1 "len" (.str a) = some (.d (.int a.length)) := by
      unfold dB1; rw [if_pos rfl, e1]; rfl
    rw [e, wo_some]; simp [Ck, h]
  · have e1 : dLen (.str a) = none := if_neg h
    have e : dB1 "len" (.str a) = none := by
      unfold dB1; rw [if_pos rfl, e1]; rfl
    rw [e, wo_none]; simp [Ck, h]
theorem b_int_i : dB1 "int" (.int i) = some (.d (.int i)) := rfl
theorem b_int_b {p : Bool} : dB1 "int" (.bool p) = some (.d (.int (if p then 1 else 0))) := rfl
theorem b_abs : dB1 "abs" (.int i) = some (.d (.int (if i < 0 then -i else i))) := rfl
theorem b_list_l : dB1 "list" (.list xs) = some (.own xs) := rfl
theorem b_list_t : dB1 "list" (.tuple xs) = some (.own xs) := rfl
theorem b_list_s : Wo (dB1 "list" (.str a)) Q = Ck (a.length ≤ szMax) (Q (.own (chars a))) := wo_ck.trans (by rw [wo_some]; rfl)
theorem b_tup_l : dB1 "tuple" (.list xs) = some (.d (.tuple xs)) := rfl
theorem b_tup_t : dB1 "tuple" (.tuple xs) = some (.d (.tuple xs)) := rfl
theorem b_sum : dB1 "sum" (.list xs) = (ints? xs).map fun ns => .d (.int ns.sum) := rfl
theorem b_all : dB1 "all" (.list xs) = (bls? xs).map fun bs => .d (.bool (bs.all id)) := rfl
theorem b_any : dB1 "any" (.list xs) = (bls? xs).map fun bs => .d (.bool (bs.any id)) := rfl
theorem b_str : Wo (dB1 "str" (.int i)) Q = Ck (i.natAbs.log2 < 1920) (Q (.d (.str (toString i)))) := wo_ck.trans (by rw [wo_some])
theorem b_max : dB2 "max" (.int i) (.int j) = some (.d (.int (if j > i then j else i))) := rfl
theorem b_min : dB2 "min" (.int i) (.int j) = some (.d (.int (if j < i then j else i))) := rfl
theorem it_l : itOf (.list xs) = some xs := rfl
theorem it_t : itOf (.tuple xs) = some xs := rfl
theorem it_s {Q : List D → Prop} : Wo (itOf (.str a)) Q = Ck (a.length ≤ szMax) (Q (chars a)) := wo_ck.trans (by rw [wo_some])
theorem m_app : dMut "append" = mApp := rfl
theorem m_ext : dMut "extend" = mExt := rfl
theorem m_pop : dMut "pop" = mPop := rfl
theorem m_app1 {x : D} {Q : R → List D → Prop} : Wq (mApp xs [x]) Q = Ck (xs.length < szMax) (Q (.d .none) (xs ++ [x])) := wq_ck.trans (by rw [wq_some])
theorem m_ext1 {Q : R → List D → Prop} : Wq (mExt xs [.list ys]) Q = Ck (xs.length + ys.length ≤ szMax) (Q (.d .none) (xs ++ ys)) := wq_ck.trans (by rw [wq_some])
theorem ty_n : typD .none = some "NoneType" := rfl
theorem ty_b {p : Bool} : typD (.bool p) = some "bool" := rfl
theorem ty_i : typD (.int i) = some "int" := rfl
theorem ty_s : typD (.str a) = some "str" := rfl
theorem ty_l : typD (.list xs) = some "list" := rfl
theorem ty_t : typD (.tuple xs) = some "tuple" := rfl
theorem bls0 : bls? [] = some [] := rfl
theorem bls1 {p : Bool} {r : List D} : bls? (.bool p :: r) = (bls? r).map (p :: ·) := rfl
theorem ints0 : ints? [] = some [] := rfl
theorem ints1 {r : List D} : ints? (.int i :: r) = (ints? r).map (i :: ·) := rfl
end
theorem it_NoneType_int : isTy "NoneType" "int" = false := by decide
theorem it_NoneType_bool : isTy "NoneType" "bool" = false := by decide
theorem it_NoneType_str : isTy "NoneType" "str" = false := by decide
theorem it_NoneType_tuple : isTy "NoneType" "tuple" = false := by decide
theorem it_NoneType_list : isTy "NoneType" "list" = false := by decide
theorem it_bool_int : isTy "bool" "int" = true := by decide
theorem it_bool_bool : isTy "bool" "bool" = true := by decide
theorem it_bool_str : isTy "bool" "str" = false := by decide
theorem it_bool_tuple : isTy "bool" "tuple" = false := by decide
theorem it_bool_list : isTy "bool" "list" = false := by decide
theorem it_int_int : isTy "int" "int" = true := by decide
theorem it_int_bool : isTy "int" "bool" = false := by decide
theorem it_int_str : isTy "int" "str" = false := by decide
theorem it_int_tuple : isTy "int" "tuple" = false := by decide
theorem it_int_list : isTy "int" "list" = false := by decide
theorem it_str_int : isTy "str" "int" = false := by decide
theorem it_str_bool : isTy "str" "bool" = false := by decide
theorem it_str_str : isTy "str" "str" = true := by decide
theorem it_str_tuple : isTy "str" "tuple" = false := by decide
theorem it_str_list : isTy "str" "list" = false := by decide
theorem it_list_int : isTy "list" "int" = false := by decide
theorem it_list_bool : isTy "list" "bool" = false := by decide
theorem it_list_str : isTy "list" "str" = false := by decide
theorem it_list_tuple : isTy "list" "tuple" = false := by decide
theorem it_list_list : isTy "list" "list" = true := by decide
theorem it_tuple_int : isTy "tuple" "int" = false := by decide
theorem it_tuple_bool : isTy "tuple" "bool" = false := by decide
theorem it_tuple_str : isTy "tuple" "str" = false := by decide
theorem it_tuple_tuple : isTy "tuple" "tuple" = true := by decide
theorem it_tuple_list : isTy "tuple" "list" = false := by decide
theorem any_0 {α : Type} {f : α → Bool} : [].any f = false := rfl
theorem any_1 {α : Type} {f : α → Bool} {x : α} {l : List α} : (x :: l).any f = (f x || l.any f) := rfl
theorem all_0 {α : Type} {f : α → Bool} : [].all f = true := rfl
theorem all_1 {α : Type} {f : α → Bool} {x : α} {l : List α} : (x :: l).all f = (f x && l.all f) := rfl
end Q0
theorem atI_of {α : Type} {l : List α} {k : Nat} (h : k < l.length) : atI l (k : Int) = l[k]? := Q0.atI_of h
class Tr : Prop where
  t : True
instance trI : Tr := ⟨trivial⟩
/-- what is asked next is left alone by simp: a type that names it -/
abbrev PT {β : Type} (_q : β) : Type := Prop
abbrev PC (_A _B : Prop) : Type := Prop
def Wp {α : Type} [Tr] (x : Rs (α × S)) (Q : α → S → Prop) : PT Q := @Q0.Wp α x Q
def Wg [Tr] (x : Rs S) (Q : S → Prop) : PT Q := Q0.Wg x Q
def Wo {α : Type} [Tr] (o : Option α) (Q : α → Prop) : PT Q := Q0.Wo o Q
def Wq [Tr] (o : Option (R × List D)) (Q : R → List D → Prop) : PT Q := Q0.Wq o Q
def Ws [Tr] (s : S) (Q : S → Prop) : PT Q := Q0.Ws s Q
def Br [Tr] (c A B : Prop) : PC A B := Q0.Br c A B
def Ck [Tr] (c A : Prop) : PC A A := Q0.Ck c A
def Wn [Tr] (r : R) (i : Nat) (s : S) (Q : R → S → Prop) : PT Q := Q0.Wn r i s Q
def Wl [Tr] (m : String) (g : List Int → R) (o : O) (s : S) (Q : R → S → Prop) : PT Q := Q0.Wl m g o s Q
def Wl2 [Tr] (m : String) (g : List Int → R) (r : R) (s : S) (Q : R → S → Prop) : PT Q := Q0.Wl2 m g r s Q
def Wi [Tr] (o : O) (s : S) (Q : Option Nat → Prop) : PT Q := Q0.Wi o s Q
def Sq [Tr] (f : Fl) (A B : Prop) : PC A B := Q0.Sq f A B
def Wt [Tr] (r : R) (i : Nat) (s : S) (Q : Fl → S → Prop) : PT Q := Q0.Wt r i s Q
def Lp [Tr] (f : Fl) (A B : Prop) (C : R → Prop) : PT (A, B, C) := Q0.Lp f A B C
def Mv [Tr] (r : R) (i : Nat) (s : S) (Q : R → S → Prop) : PT Q := Q0.Mv r i s Q
def Fr [Tr] (f : Fl) (Q : List R → Prop) : PT Q := Q0.Fr f Q
def Fs [Tr] (f : Fl) (Q : R → Prop) : PT Q := Q0.Fs f Q
def Fo [Tr] (f : Fl) (io : Option Nat) (s : S) (Q : R → List D → Prop) : PT Q := Q0.Fo f io s Q
section
variable {α β : Type}
theorem Br_true {A B : Prop} : Br True A B = A := Q0.Br_true
theorem Br_false {A B : Prop} : Br False A B = B := Q0.Br_false
theorem Ck_true {A : Prop} : Ck True A = A := Q0.Ck_true
theorem wok {a : α} {s : S} {Q : α → S → Prop} : Wp (.ok (a, s)) Q = Q a s := Q0.wok
theorem wbad {Q : α → S → Prop} : Wp .bad Q = False := Q0.wbad
theorem wgok {s : S} {Q : S → Prop} : Wg (.ok s) Q = Q s := Q0.wgok
theorem wgbad {Q : S → Prop} : Wg .bad Q = False := Q0.wgbad
theorem wo_some {a : α} {Q : α → Prop} : Wo (some a) Q = Q a := Q0.wo_some
theorem wo_none {Q : α → Prop} : Wo none Q = False := Q0.wo_none
theorem wo_map {o : Option α} {f : α → β} {Q : β → Prop} : Wo (o.map f) Q = Wo o fun a => Q (f a) := Q0.wo_map
theorem wo_bind {o : Option α} {f : α → Option β} {Q : β → Prop} : Wo (o.bind f) Q = Wo o fun a => Wo (f a) Q := Q0.wo_bind
theorem wo_ck {c : Prop} [Decidable c] {o : Option α} {Q : α → Prop} : Wo (if c then o else none) Q = Ck c (Wo o Q) := Q0.wo_ck
theorem wq_some {a : R} {ys : List D} {Q : R → List D → Prop} : Wq (some (a, ys)) Q = Q a ys := Q0.wq_some
theorem wq_none {Q : R → List D → Prop} : Wq none Q = False := Q0.wq_none
theorem ws_cons {x : Option R} {s : List (Option R)} {Q : S → Prop} : Ws (x :: s) Q = Q (x :: s) := Q0.ws_cons
end
/-! ### readings -/
theorem scR_scr {x : List Int} : scR (.scr x) = some x := Q0.scR_scr
theorem fz_d {x : D} : fz (.d x) = some x := Q0.fz_d
theorem fz_own {x : List D} : fz (.own x) = some (.list x) := Q0.fz_own
theorem fz_scr {x : List Int} : fz (.scr x) = none := Q0.fz_scr
theorem dR_d {x : D} : dR (.d x) = some x := Q0.dR_d
theorem dR_own {x : List D} : dR (.own x) = none := Q0.dR_own
theorem blR_d {x : Bool} : blR (.d (.bool x)) = some x := Q0.blR_d
theorem inR_d {x : Int} : inR (.d (.int x)) = some x := Q0.inR_d
theorem owR_own {x : List D} : owR (.own x) = some x := Q0.owR_own
theorem owR_d {x : D} : owR (.d x) = none := Q0.owR_d
theorem sqD_t {x : List D} : sqD (.tuple x) = some x := Q0.sqD_t
theorem sqD_l {x : List D} : sqD (.list x) = some x := Q0.sqD_l
theorem stD_s {x : Str} : stD (.str x) = some x := Q0.stD_s
/-! ### expressions -/
theorem Wn_d {x : D} {i : Nat} {s : S} {Q : R → S → Prop} : Wn (.d x) i s Q = Q (.d x) s := Q0.Wn_d
theorem Wn_own {xs : List D} {i : Nat} {s : S} {Q : R → S → Prop} : Wn (.own xs) i s Q = Ws (s.set i (some (.d (.list xs)))) fun s => Q (.d (.list xs)) s := Q0.Wn_own
theorem Wn_scr {xs : List Int} {i : Nat} {s : S} {Q : R → S → Prop} : Wn (.scr xs) i s Q = Q (.scr xs) s := Q0.Wn_scr
section
variable {s : S} {i j : Nat}
theorem w_oName {Q : O → S → Prop} : Wp (oName i s) Q = Wo s[i]? fun o => Wo o fun _ => Q (.sl i) s := Q0.w_oName
theorem w_oX {f : XF} {Q : O → S → Prop} : Wp (oX f s) Q = Wp (f s) fun r s => Wo (fz r) fun x => Q (.v x) s := Q0.w_oX
theorem w_cC {x : D} {Q : R → S → Prop} : Wp (cC x s) Q = Q (.d x) s := Q0.w_cC
theorem w_cName {Q : R → S → Prop} : Wp (cName i s) Q = Wo s[i]? fun o => Wo o fun r => Wn r i s Q := Q0.w_cName
theorem w_cFz {f : XF} {Q : D → S → Prop} : Wp (cFz f s) Q = Wp (f s) fun r s => Wo (fz r) fun x => Q x s := Q0.w_cFz
theorem w_cArgs0 {Q : List D → S → Prop} : Wp (cArgs [] s) Q = Q [] s := Q0.w_cArgs0
theorem w_cArgs1 {f : XF} {fs : List XF} {Q : List D → S → Prop} : Wp (cArgs (f :: fs) s) Q = Wp (cFz f s) fun x s => Wp (cArgs fs s) fun xs s => Q (x :: xs) s := Q0.w_cArgs1
theorem w_cTup {fs : List XF} {Q : R → S → Prop} : Wp (cTup fs s) Q = Wp (cArgs fs s) fun xs s => Q (.d (.tuple xs)) s := Q0.w_cTup
theorem w_cLst {fs : List XF} {Q : R → S → Prop} : Wp (cLst fs s) Q = Wp (cArgs fs s) fun xs s => Q (.own xs) s := Q0.w_cLst
theorem w_deref_v {x : D} {Q : D → Prop} : Wo (deref (.v x) s) Q = Q x := Q0.w_deref_v
theorem w_deref_s {Q : D → Prop} : Wo (deref (.sl i) s) Q = Wo s[i]? fun o => Wo o fun r => Wo (fz r) Q := Q0.w_deref_s
theorem w_derefD_v {x : D} {Q : D → Prop} : Wo (derefD (.v x) s) Q = Q x := Q0.w_derefD_v
theorem w_derefD_s {Q : D → Prop} : Wo (derefD (.sl i) s) Q = Wo s[i]? fun o => Wo o fun r => Wo (dR r) Q := Q0.w_derefD_s
theorem w_cBin {g : D → D → Option R} {a b : OF} {Q : R → S → Prop} : Wp (cBin g a b s) Q = Wp (a s) fun o s => Wp (b s) fun o' s => Wo (deref o s) fun x => Wo (deref o' s) fun y => Wo (g x y) fun r => Q r s := Q0.w_cBin
theorem w_cCmp {op : CmpOp} {a b : OF} {Q : R → S → Prop} : Wp (cCmp op a b s) Q = Wp (a s) fun o s => Wp (b s) fun o' s => Wo (deref o s) fun x => Wo (deref o' s) fun y => Wo (dCmp op x y) fun k => Q (.d (.bool k)) s := Q0.w_cCmp
theorem w_cUn {g : D → Option R} {a : OF} {Q : R → S → Prop} : Wp (cUn g a s) Q = Wp (a s) fun o s => Wo (deref o s) fun x => Wo (g x) fun r => Q r s := Q0.w_cUn
theorem w_cChain {op op' : CmpOp} {a b c : OF} {Q : R → S → Prop} : Wp (cChain op op' a b c s) Q = Wp (a s) fun o s => Wp (b s) fun o' s => Wo (deref o s) fun x => Wo (deref o' s) fun y => Wo (dCmp op x y) fun k =>
    Br (k = true) (Wp (c s) fun o'' s => Wo (deref o' s) fun y' => Wo (deref o'' s) fun z => Wo (dCmp op' y' z) fun k' => Q (.d (.bool k')) s) (Q (.d (.bool false)) s) := Q0.w_cChain
theorem w_cAnd {a b : XF} {Q : R → S → Prop} : Wp (cAnd a b s) Q = Wp (a s) fun r s => Wo (blR r) fun k => Br (k = true) (Wp (b s) Q) (Q (.d (.bool false)) s) := Q0.w_cAnd
theorem w_cOr {a b : XF} {Q : R → S → Prop} : Wp (cOr a b s) Q = Wp (a s) fun r s => Wo (blR r) fun k => Br (k = true) (Q (.d (.bool true)) s) (Wp (b s) Q) := Q0.w_cOr
theorem w_cAnds1 {a : XF} {Q : R → S → Prop} : Wp (cAnds [a] s) Q = Wp (a s) Q := Q0.w_cAnds1
theorem w_cAnds2 {a b : XF} {l : List XF} {Q : R → S → Prop} : Wp (cAnds (a :: b :: l) s) Q = Wp (cAnd a (cAnds (b :: l)) s) Q := Q0.w_cAnds2
theorem w_cOrs1 {a : XF} {Q : R → S → Prop} : Wp (cOrs [a] s) Q = Wp (a s) Q := Q0.w_cOrs1
theorem w_cOrs2 {a b : XF} {l : List XF} {Q : R → S → Prop} : Wp (cOrs (a :: b :: l) s) Q = Wp (cOr a (cOrs (b :: l)) s) Q := Q0.w_cOrs2
theorem w_cNot {t : TF} {Q : R → S → Prop} : Wp (cNot t s) Q = Wp (t s) fun b s => Q (.d (.bool (!b))) s := Q0.w_cNot
theorem w_cIf {t : TF} {a b : XF} {Q : R → S → Prop} : Wp (cIf t a b s) Q = Wp (t s) fun k s => Br (k = true) (Wp (a s) Q) (Wp (b s) Q) := Q0.w_cIf
theorem w_tTru {a : OF} {Q : Bool → S → Prop} : Wp (tTru a s) Q = Wp (a s) fun o s => Wo (deref o s) fun x => Wo (dTru x) fun b => Q b s := Q0.w_tTru
theorem w_tBl {a : XF} {Q : Bool → S → Prop} : Wp (tBl a s) Q = Wp (a s) fun r s => Wo (blR r) fun b => Q b s := Q0.w_tBl
theorem w_tAndF {a b : TF} {Q : Bool → S → Prop} : Wp (tAndF a b s) Q = Wp (a s) fun k s => Br (k = true) (Wp (b s) Q) (Q false s) := Q0.w_tAndF
theorem w_tOrF {a b : TF} {Q : Bool → S → Prop} : Wp (tOrF a b s) Q = Wp (a s) fun k s => Br (k = true) (Q true s) (Wp (b s) Q) := Q0.w_tOrF
theorem w_tAnds1 {a : TF} {Q : Bool → S → Prop} : Wp (tAnds [a] s) Q = Wp (a s) Q := Q0.w_tAnds1
theorem w_tAnds2 {a b : TF} {l : List TF} {Q : Bool → S → Prop} : Wp (tAnds (a :: b :: l) s) Q = Wp (tAndF a (tAnds (b :: l)) s) Q := Q0.w_tAnds2
theorem w_tOrs1 {a : TF} {Q : Bool → S → Prop} : Wp (tOrs [a] s) Q = Wp (a s) Q := Q0.w_tOrs1
theorem w_tOrs2 {a b : TF} {l : List TF} {Q : Bool → S → Prop} : Wp (tOrs (a :: b :: l) s) Q = Wp (tOrF a (tOrs (b :: l)) s) Q := Q0.w_tOrs2
theorem w_tNotF {t : TF} {Q : Bool → S → Prop} : Wp (tNotF t s) Q = Wp (t s) fun b s => Q (!b) s := Q0.w_tNotF
theorem w_tTrue {Q : Bool → S → Prop} : Wp (tTrue s) Q = Q true s := Q0.w_tTrue
theorem w_pNo {Q : Option Int → S → Prop} : Wp (pNo s) Q = Q none s := Q0.w_pNo
theorem w_pAt {f : XF} {Q : Option Int → S → Prop} : Wp (pAt f s) Q = Wp (f s) fun r s => Wo (inR r) fun i => Q (some i) s := Q0.w_pAt
theorem w_cSl {a : OF} {lo hi : PF} {Q : R → S → Prop} : Wp (cSl a lo hi s) Q = Wp (a s) fun o s => Wp (lo s) fun i s => Wp (hi s) fun j s => Wo (deref o s) fun x => Wo (dSl x i j) fun r => Q r s := Q0.w_cSl
theorem Wl_v {m : String} {g : List Int → R} {x : D} {Q : R → S → Prop} : Wl m g (.v x) s Q = Wo (dB1 m x) fun r => Q r s := Q0.Wl_v
theorem Wl_s {m : String} {g : List Int → R} {Q : R → S → Prop} : Wl m g (.sl i) s Q = Wo s[i]? fun o => Wo o fun r => Wl2 m g r s Q := Q0.Wl_s
theorem Wl2_scr {m : String} {g : List Int → R} {ns : List Int} {Q : R → S → Prop} : Wl2 m g (.scr ns) s Q = Q (g ns) s := Q0.Wl2_scr
theorem Wl2_d {m : String} {g : List Int → R} {x : D} {Q : R → S → Prop} : Wl2 m g (.d x) s Q = Wo (dB1 m x) fun r => Q r s := Q0.Wl2_d
theorem Wl2_own {m : String} {g : List Int → R} {xs : List D} {Q : R → S → Prop} : Wl2 m g (.own xs) s Q = Wo (dB1 m (.list xs)) fun r => Q r s := Q0.Wl2_own
theorem w_cListOf {a : OF} {Q : R → S → Prop} : Wp (cListOf a s) Q = Wp (a s) fun o s => Wl "list" (fun ns => .own (ns.map .int)) o s Q := Q0.w_cListOf
theorem w_cLenOf {a : OF} {Q : R → S → Prop} : Wp (cLenOf a s) Q = Wp (a s) fun o s => Wl "len" (fun ns => .d (.int ns.length)) o s Q := Q0.w_cLenOf
theorem w_cIsi {a : OF} {cs : List String} {Q : R → S → Prop} : Wp (cIsi a cs s) Q = Wp (a s) fun o s => Wo (deref o s) fun x => Wo (typD x) fun t => Q (.d (.bool (cs.any (isTy t)))) s := Q0.w_cIsi
/-! ### calls -/
theorem w_oArgs0 {Q : List O → S → Prop} : Wp (oArgs [] s) Q = Q [] s := Q0.w_oArgs0
theorem w_oArgs1 {f : OF} {fs : List OF} {Q : List O → S → Prop} : Wp (oArgs (f :: fs) s) Q = Wp (f s) fun x s => Wp (oArgs fs s) fun xs s => Q (x :: xs) s := Q0.w_oArgs1
theorem w_ioSlot0 {os : List O} {Q : Option Nat → Prop} : Wo (ioSlot none os s) Q = Q none := Q0.w_ioSlot0
theorem Wi_s {Q : Option Nat → Prop} : Wi (.sl i) s Q = Wo s[i]? fun o => Wo o fun r => Wo (owR r) fun _ => Q (some i) := Q0.Wi_s
theorem w_ioSlot1 {k : Nat} {os : List O} {Q : Option Nat → Prop} : Wo (ioSlot (some k) os s) Q = Wo os[k]? fun o => Wi o s Q := Q0.w_ioSlot1
theorem derA_t {o : O} : derA true o s = deref o s := Q0.derA_t
theorem derA_f {o : O} : derA false o s = derefD o s := Q0.derA_f
theorem ioAt_n {k : Nat} : ioAt none k = false := Q0.ioAt_n
theorem ioAt_s {j k : Nat} : ioAt (some j) k = Nat.beq j k := Q0.ioAt_s
theorem w_derefs0 {io : Option Nat} {k : Nat} {Q : List D → Prop} : Wo (derefs io k [] s) Q = Q [] := Q0.w_derefs0
theorem w_derefs1 {io : Option Nat} {k : Nat} {o : O} {os : List O} {Q : List D → Prop} : Wo (derefs io k (o :: os) s) Q = Wo (derA (ioAt io k) o s) fun x => Wo (derefs io (k + 1) os s) fun xs => Q (x :: xs) := Q0.w_derefs1
theorem w_putIo0 {ys : List D} {Q : S → Prop} : Ws (putIo none s ys) Q = Q s := Q0.w_putIo0
theorem w_putIo1 {ys : List D} : putIo (some i) s ys = s.set i (some (.own ys)) := Q0.w_putIo1
theorem w_doCall {f : FS} {os : List O} {Q : R → S → Prop} : Wp (doCall f os s) Q = Wo (ioSlot f.io os s) fun io => Wo (derefs f.io 0 os s) fun xs => Wq (f.run xs) fun r ys => Ws (putIo io s ys) fun s => Q r s := Q0.w_doCall
theorem w_cCall {f : FS} {as : List OF} {Q : R → S → Prop} : Wp (cCall f as s) Q = Wp (oArgs as s) fun os s => Wp (doCall f os s) Q := Q0.w_cCall
theorem w_cCallK {f : FS} {ks : List Str} {as kws : List OF} {Q : R → S → Prop} : Wp (cCallK f ks as kws s) Q = Wp (oArgs as s) fun us s => Wp (oArgs kws s) fun ws s => Wo (pick f.ps ks us ws) fun os => Wp (doCall f os s) Q := Q0.w_cCallK
theorem w_cMut {g : List D → List D → Option (R × List D)} {as : List XF} {Q : R → S → Prop} : Wp (cMut i g as s) Q = Wo s[i]? fun o => Wo o fun r => Wo (owR r) fun _ => Wp (cArgs as s) fun ys s => Wo s[i]? fun o => Wo o fun r => Wo (owR r) fun xs => Wq (g xs ys) fun r zs => Ws (s.set i (some (.own zs))) fun s => Q r s := Q0.w_cMut
theorem w_cMeth {m : String} {a : OF} {as : List XF} {Q : R → S → Prop} : Wp (cMeth m a as s) Q = Wp (a s) fun o s => Wo (derefD o s) fun x => Wp (cArgs as s) fun ys s => Wo (dMeth m x ys) fun r => Q r s := Q0.w_cMeth
theorem w_cDix {kvs : List (Str × D)} {a : OF} {Q : R → S → Prop} : Wp (cDix kvs a s) Q = Wp (a s) fun o s => Wo (deref o s) fun x => Wo (stD x) fun k => Wo (kvs.lookup k) fun r => Q (.d r) s := Q0.w_cDix
theorem w_cCallS {f : FS} {Q : R → S → Prop} : Wp (cCallS f i s) Q = Wo s[i]? fun o => Wo o fun r => Wo (scR r) fun ns => Wo f.sr fun g => Wo (g ns) fun r => Q r s := Q0.w_cCallS
theorem w_cDin {neg : Bool} {kvs : List (Str × D)} {a : OF} {Q : R → S → Prop} : Wp (cDin neg kvs a s) Q = Wp (a s) fun o s => Wo (deref o s) fun x => Wo (stD x) fun k => Q (.d (.bool (cond neg (!(kvs.lookup k).isSome) (kvs.lookup k).isSome))) s := Q0.w_cDin
theorem w_cDget1 {kvs : List (Str × D)} {f : XF} {Q : R → S → Prop} : Wp (cDget kvs [f] s) Q = Wp (cFz f s) fun x s => Wo (stD x) fun k => Q (.d ((kvs.lookup k).getD .none)) s := Q0.w_cDget1
theorem w_cDget2 {kvs : List (Str × D)} {f g : XF} {Q : R → S → Prop} : Wp (cDget kvs [f, g] s) Q = Wp (cFz f s) fun x s => Wp (cFz g s) fun y s => Wo (stD x) fun k => Q (.d ((kvs.lookup k).getD y)) s := Q0.w_cDget2
theorem w_cMeth0 {m : String} {a : OF} {Q : R → S → Prop} : Wp (cMeth0 m a s) Q = Wp (a s) fun o s => Wo (derefD o s) fun x => Wo (dMeth0 m x) fun r => Q r s := Q0.w_cMeth0
/-! ### walks, targets, comprehensions -/
theorem w_wIt {f : XF} {Q : List D → S → Prop} : Wp (wIt f s) Q = Wp (cFz f s) fun x s => Wo (itOf x) fun xs => Q xs s := Q0.w_wIt
theorem w_wR1 {f : XF} {Q : List D → S → Prop} : Wp (wR1 f s) Q = Wp (f s) fun r s => Wo (inR r) fun n => Ck (okR n = true) (Q (rangeD 0 n) s) := Q0.w_wR1
theorem w_wR2 {f g : XF} {Q : List D → S → Prop} : Wp (wR2 f g s) Q = Wp (f s) fun r s => Wp (g s) fun r' s => Wo (inR r) fun m => Wo (inR r') fun n => Ck (okR m = true ∧ okR n = true) (Q (rangeD m n) s) := Q0.w_wR2
theorem w_wZip {f g : XF} {Q : List D → S → Prop} : Wp (wZip f g s) Q = Wp (cFz f s) fun x s => Wp (cFz g s) fun y s => Wo (itOf x) fun xs => Wo (itOf y) fun ys => Q (zipD xs ys) s := Q0.w_wZip
theorem w_wEnum {f : XF} {Q : List D → S → Prop} : Wp (wEnum f s) Q = Wp (cFz f s) fun x s => Wo (itOf x) fun xs => Q (enumD 0 xs) s := Q0.w_wEnum
theorem enum_0 {k : Int} : enumD k [] = [] := Q0.enum_0
theorem enum_1 {k : Int} {x : D} {xs : List D} : enumD k (x :: xs) = .tuple [.int k, x] :: enumD (k + 1) xs := Q0.enum_1
theorem zip_0 {ys : List D} : zipD [] ys = [] := Q0.zip_0
theorem zip_00 {xs : List D} : zipD xs [] = [] := Q0.zip_00
theorem zip_1 {x y : D} {xs ys : List D} : zipD (x :: xs) (y :: ys) = .tuple [x, y] :: zipD xs ys := Q0.zip_1
theorem w_gSet {x : D} {Q : S → Prop} : Wg (gSet i x s) Q = Ws (s.set i (some (.d x))) Q := Q0.w_gSet
theorem w_gAll0 {Q : S → Prop} : Wg (gAll [] [] s) Q = Q s := Q0.w_gAll0
theorem w_gAll1 {g : GF} {gs : List GF} {x : D} {xs : List D} {Q : S → Prop} : Wg (gAll (g :: gs) (x :: xs) s) Q = Wg (g x s) fun s => Wg (gAll gs xs s) Q := Q0.w_gAll1
theorem w_gPut {ix : XF} {x : D} {Q : S → Prop} : Wg (gPut i ix x s) Q = Wo s[i]? fun o => Wo o fun r => Wo (owR r) fun _ => Wp (ix s) fun r s => Wo (inR r) fun k => Wo s[i]? fun o => Wo o fun r => Wo (owR r) fun xs => Wo (ixN xs.length k) fun j => Ws (s.set i (some (.own (xs.set j x)))) Q := Q0.w_gPut
theorem w_gUnp {gs : List GF} {x : D} {Q : S → Prop} : Wg (gUnp gs x s) Q = Wo (sqD x) fun xs => Ck (xs.length = gs.length) (Wg (gAll gs xs s) Q) := Q0.w_gUnp
theorem w_cLc {it : AF} {own : List Nat} {tg : GF} {t : TF} {elt : XF} {Q : R → S → Prop} : Wp (cLc it own tg t elt s) Q = Wp (it s) fun xs s => Wp (lcL tg t elt own xs [] s) fun zs s' => Ws (backS s s' own) fun s => Q (.own zs) s := Q0.w_cLc
theorem w_lcL0 {own : List Nat} {tg : GF} {t : TF} {elt : XF} {acc : List D} {Q : List D → S → Prop} : Wp (lcL tg t elt own [] acc s) Q = Q acc s := Q0.w_lcL0
theorem w_lcL1 {own : List Nat} {tg : GF} {t : TF} {elt : XF} {x : D} {xs acc : List D} {Q : List D → S → Prop} : Wp (lcL tg t elt own (x :: xs) acc s) Q = Ws (wipeS s own) fun s => Wg (tg x s) fun s => Wp (t s) fun b s =>
    Br (b = true) (Wp (cFz elt s) fun y s => Ck (acc.length < szMax) (Wp (lcL tg t elt own xs (acc ++ [y]) s) Q)) (Wp (lcL tg t elt own xs acc s) Q) := Q0.w_lcL1
theorem w_cLc2 {it it1 : AF} {own own1 : List Nat} {tg tg1 : GF} {t t1 : TF} {elt : XF} {Q : R → S → Prop} : Wp (cLc2 it own tg t it1 own1 tg1 t1 elt s) Q = Wp (it s) fun xs s => Wp (lc2L tg t it1 own1 tg1 t1 elt own xs [] s) fun zs s' => Ws (backS s s' own) fun s => Q (.own zs) s := Q0.w_cLc2
theorem w_lc2L0 {it1 : AF} {own own1 : List Nat} {tg tg1 : GF} {t t1 : TF} {elt : XF} {acc : List D} {Q : List D → S → Prop} : Wp (lc2L tg t it1 own1 tg1 t1 elt own [] acc s) Q = Q acc s := Q0.w_lc2L0
theorem w_lc2L1 {it1 : AF} {own own1 : List Nat} {tg tg1 : GF} {t t1 : TF} {elt : XF} {x : D} {xs acc : List D} {Q : List D → S → Prop} : Wp (lc2L tg t it1 own1 tg1 t1 elt own (x :: xs) acc s) Q = Ws (wipeS s own) fun s => Wg (tg x s) fun s => Wp (t s) fun b s =>
    Br (b = true) (Wp (it1 s) fun ys s => Wp (lcL tg1 t1 elt own1 ys acc s) fun acc s => Wp (lc2L tg t it1 own1 tg1 t1 elt own xs acc s) Q) (Wp (lc2L tg t it1 own1 tg1 t1 elt own xs acc s) Q) := Q0.w_lc2L1
theorem wipe0 : wipeS s [] = s := Q0.wipe0
theorem wipe1 {l : List Nat} : wipeS s (i :: l) = (wipeS s l).set i none := Q0.wipe1
theorem bk_n : bkR (some none) = none := Q0.bk_n
theorem bk_d {x : D} : bkR (some (some (.d x))) = some (.d x) := Q0.bk_d
theorem bk_s {x : List Int} : bkR (some (some (.scr x))) = some (.scr x) := Q0.bk_s
theorem bk_o {x : List D} : bkR (some (some (.own x))) = none := Q0.bk_o
theorem back0 {s0 : S} : backS s0 s [] = s := Q0.back0
theorem back1 {s0 : S} {l : List Nat} : backS s0 s (i :: l) = (backS s0 s l).set i (bkR s0[i]?) := Q0.back1
/-! ### statements -/
theorem Sq_nx {A B : Prop} : Sq .nx A B = A := Q0.Sq_nx
theorem Sq_bk {A B : Prop} : Sq .bk A B = B := Q0.Sq_bk
theorem Sq_ct {A B : Prop} : Sq .ct A B = B := Q0.Sq_ct
theorem Sq_rt {r : R} {A B : Prop} : Sq (.rt r) A B = B := Q0.Sq_rt
theorem Sq_rw {r : List R} {A B : Prop} : Sq (.rw r) A B = B := Q0.Sq_rw
theorem w_sSkip {Q : Fl → S → Prop} : Wp (sSkip s) Q = Q .nx s := Q0.w_sSkip
theorem w_sSeq {a b : SF} {Q : Fl → S → Prop} : Wp (sSeq a b s) Q = Wp (a s) fun f s => Sq f (Wp (b s) Q) (Q f s) := Q0.w_sSeq
theorem w_sSet {f : XF} {Q : Fl → S → Prop} : Wp (sSet i f s) Q = Wp (f s) fun r s => Ws (s.set i (some r)) fun s => Q .nx s := Q0.w_sSet
theorem w_sTg {g : GF} {f : XF} {Q : Fl → S → Prop} : Wp (sTg g f s) Q = Wp (cFz f s) fun x s => Wg (g x s) fun s => Q .nx s := Q0.w_sTg
theorem w_rArgs0 {Q : List R → S → Prop} : Wp (rArgs [] s) Q = Q [] s := Q0.w_rArgs0
theorem w_rArgs1 {f : XF} {fs : List XF} {Q : List R → S → Prop} : Wp (rArgs (f :: fs) s) Q = Wp (f s) fun x s => Wp (rArgs fs s) fun xs s => Q (x :: xs) s := Q0.w_rArgs1
theorem putAll0 {rs : List R} : putAll [] rs s = s := Q0.putAll0
theorem putAll1 {is : List Nat} {r : R} {rs : List R} : putAll (i :: is) (r :: rs) s = putAll is rs (s.set i (some r)) := Q0.putAll1
theorem w_sPar {is : List Nat} {fs : List XF} {Q : Fl → S → Prop} : Wp (sPar is fs s) Q = Wp (rArgs fs s) fun rs s => Ws (putAll is rs s) fun s => Q .nx s := Q0.w_sPar
theorem Mv_d {x : D} {Q : R → S → Prop} : Mv (.d x) i s Q = Q (.d x) s := Q0.Mv_d
theorem Mv_own {xs : List D} {Q : R → S → Prop} : Mv (.own xs) i s Q = Ws (s.set i none) fun s => Q (.own xs) s := Q0.Mv_own
theorem w_cMv {Q : R → S → Prop} : Wp (cMv i s) Q = Wo s[i]? fun o => Wo o fun r => Mv r i s Q := Q0.w_cMv
theorem w_sRow {fs : List XF} {Q : Fl → S → Prop} : Wp (sRow fs s) Q = Wp (rArgs fs s) fun rs s => Q (.rw rs) s := Q0.w_sRow
theorem w_sUnR {is : List Nat} {f : FS} {as : List OF} {Q : Fl → S → Prop} : Wp (sUnR is f as s) Q = Wp (oArgs as s) fun os s => Wo f.rr fun g => Wo (derefs none 0 os s) fun xs => Wo (g xs) fun rs => Ck (is.length = rs.length) (Ws (putAll is rs s) fun s => Q .nx s) := Q0.w_sUnR
theorem w_sIf {t : TF} {a b : SF} {Q : Fl → S → Prop} : Wp (sIf t a b s) Q = Wp (t s) fun k s => Br (k = true) (Wp (a s) Q) (Wp (b s) Q) := Q0.w_sIf
theorem w_sRet {f : XF} {Q : Fl → S → Prop} : Wp (sRet f s) Q = Wp (f s) fun r s => Q (.rt r) s := Q0.w_sRet
theorem Wt_d {x : D} {Q : Fl → S → Prop} : Wt (.d x) i s Q = Q (.rt (.d x)) s := Q0.Wt_d
theorem Wt_own {xs : List D} {Q : Fl → S → Prop} : Wt (.own xs) i s Q = Ws (s.set i none) fun s => Q (.rt (.own xs)) s := Q0.Wt_own
theorem w_sRetN {Q : Fl → S → Prop} : Wp (sRetN i s) Q = Wo s[i]? fun o => Wo o fun r => Wt r i s Q := Q0.w_sRetN
theorem w_sRet0 {Q : Fl → S → Prop} : Wp (sRet0 s) Q = Q (.rt (.d .none)) s := Q0.w_sRet0
theorem w_sDrop {f : XF} {Q : Fl → S → Prop} : Wp (sDrop f s) Q = Wp (f s) fun _ s => Q .nx s := Q0.w_sDrop
theorem w_sBrk {Q : Fl → S → Prop} : Wp (sBrk s) Q = Q .bk s := Q0.w_sBrk
theorem w_sCnt {Q : Fl → S → Prop} : Wp (sCnt s) Q = Q .ct s := Q0.w_sCnt
theorem w_sAug {g : D → D → Option R} {a : OF} {Q : Fl → S → Prop} : Wp (sAug i g a s) Q = Wp (oName i s) fun o s => Wp (a s) fun o' s => Wo (deref o s) fun x => Wo (deref o' s) fun y => Wo (g x y) fun r => Ws (s.set i (some r)) fun s => Q .nx s := Q0.w_sAug
theorem w_sPut {ix val : XF} {Q : Fl → S → Prop} : Wp (sPut i ix val s) Q = Wp (cFz val s) fun v s => Wo s[i]? fun o => Wo o fun r => Wo (owR r) fun _ => Wp (ix s) fun r s => Wo (inR r) fun k =>
    Wo s[i]? fun o => Wo o fun r => Wo (owR r) fun xs => Wo (ixN xs.length k) fun j => Ws (s.set i (some (.own (xs.set j v)))) fun s => Q .nx s := Q0.w_sPut
theorem w_sPutOp {ix val : XF} {g : D → D → Option R} {Q : Fl → S → Prop} : Wp (sPutOp i ix g val s) Q = Wo s[i]? fun o => Wo o fun r => Wo (owR r) fun _ => Wp (ix s) fun r s => Wo (inR r) fun k =>
    Wo s[i]? fun o => Wo o fun r => Wo (owR r) fun xs => Ck (¬(k < 0 ∨ szMax < k)) (Wo (xs[k.toNat]?) fun x => Wp (cFz val s) fun v s => Wo (g x v) fun r => Wo (fz r) fun z =>
    Wo s[i]? fun o => Wo o fun r => Wo (owR r) fun ys => Wo (ixN ys.length k) fun j => Ws (s.set i (some (.own (ys.set j z)))) fun s => Q .nx s) := Q0.w_sPutOp
theorem w_sFor {it : AF} {tg : GF} {body : SF} {Q : Fl → S → Prop} : Wp (sFor it tg body s) Q = Wp (it s) fun xs s => Wp (forL s tg body xs s) Q := Q0.w_sFor
theorem Lp_nx {A B : Prop} {C : R → Prop} : Lp .nx A B C = A := Q0.Lp_nx
theorem Lp_bk {A B : Prop} {C : R → Prop} : Lp .bk A B C = B := Q0.Lp_bk
theorem Lp_ct {A B : Prop} {C : R → Prop} : Lp .ct A B C = A := Q0.Lp_ct
theorem Lp_rt {r : R} {A B : Prop} {C : R → Prop} : Lp (.rt r) A B C = C r := Q0.Lp_rt
theorem mask_n {r q : S} {x : Option R} : mask (none :: r) (x :: q) = none :: mask r q := Q0.mask_n
theorem mask_s {r q : S} {x : Option R} {y : R} : mask (some y :: r) (x :: q) = x :: mask r q := Q0.mask_s
theorem mask_0 : mask [] [] = [] := Q0.mask_0
theorem w_forL0 {s0 : S} {tg : GF} {body : SF} {Q : Fl → S → Prop} : Wp (forL s0 tg body [] s) Q = Ws (mask s0 s) fun s => Q .nx s := Q0.w_forL0
theorem w_forL1 {s0 : S} {tg : GF} {body : SF} {x : D} {xs : List D} {Q : Fl → S → Prop} : Wp (forL s0 tg body (x :: xs) s) Q = Ws (mask s0 s) fun s => Wg (tg x s) fun s => Wp (body s) fun f s =>
    Lp f (Wp (forL s0 tg body xs s) Q) (Ws (mask s0 s) fun s => Q .nx s) (fun u => Q (.rt u) s) := Q0.w_forL1
theorem w_sWh {n : Nat} {t : TF} {body : SF} {Q : Fl → S → Prop} : Wp (sWh n t body s) Q = Wp (whL s t body n s) Q := Q0.w_sWh
theorem w_whL1 {s0 : S} {n : Nat} {t : TF} {body : SF} {Q : Fl → S → Prop} : Wp (whL s0 t body (n + 1) s) Q = Ws (mask s0 s) fun s => Wp (t s) fun b s => Br (b = true) (Wp (body s) fun f s =>
    Lp f (Wp (whL s0 t body n s) Q) (Ws (mask s0 s) fun s => Q .nx s) (fun u => Q (.rt u) s)) (Q .nx s) := Q0.w_whL1
/-! ### a def -/
theorem w_out0 {Q : List D → Prop} : Wo (outOf none s) Q = Q [] := Q0.w_out0
theorem w_out1 {k : Nat} {Q : List D → Prop} : Wo (outOf (some k) s) Q = Wo s[k]? fun o => Wo o fun r => Wo (owR r) Q := Q0.w_out1
theorem Fo_nx {io : Option Nat} {Q : R → List D → Prop} : Fo .nx io s Q = Wo (outOf io s) fun o => Q (.d .none) o := Q0.Fo_nx
theorem Fo_d {io : Option Nat} {x : D} {Q : R → List D → Prop} : Fo (.rt (.d x)) io s Q = Wo (outOf io s) fun o => Q (.d x) o := Q0.Fo_d
theorem Fo_own {io : Option Nat} {x : List D} {Q : R → List D → Prop} : Fo (.rt (.own x)) io s Q = Wo (outOf io s) fun o => Q (.own x) o := Q0.Fo_own
theorem w_fnRun {n : Nat} {io : Option Nat} {body : SF} {xs : List D} {Q : R → List D → Prop} : Wq (okRs (fnRun n io body xs)) Q = Ws (entry n io xs) fun s => Wp (body s) fun f s => Fo f io s Q := Q0.w_fnRun
theorem w_run {ps : List Str} {kl : List (List Str)} {io : Option Nat} {n : Nat} {body : SF} {xs : List D} {Q : R → List D → Prop} : Wq ((mkFS ps kl io n body).run xs) Q = Ws (entry n io xs) fun s => Wp (body s) fun f s => Fo f io s Q := Q0.w_run
theorem Fs_d {x : D} {Q : R → Prop} : Fs (.rt (.d x)) Q = Q (.d x) := Q0.Fs_d
theorem Fs_own {x : List D} {Q : R → Prop} : Fs (.rt (.own x)) Q = Q (.own x) := Q0.Fs_own
theorem w_runS {n : Nat} {body : SF} {ns : List Int} {Q : R → Prop} : Wo (okRs (fnRunS n body ns)) Q = Ws (some (.scr ns) :: List.replicate (n - 1) none) fun s => Wp (body s) fun f _ => Fs f Q := Q0.w_runS
theorem Fr_rw {rs : List R} {Q : List R → Prop} : Fr (.rw rs) Q = Q rs := Q0.Fr_rw
theorem w_runR {n : Nat} {body : SF} {xs : List D} {Q : List R → Prop} : Wo (okRs (fnRunR n body xs)) Q = Ws (entry n none xs) fun s => Wp (body s) fun f _ => Fr f Q := Q0.w_runR
theorem w_runS2 {ps : List Str} {n : Nat} {body : SF} {Q : (List Int → Option R) → Prop} : Wo (mkFSs ps n body).sr Q = Q fun ns => okRs (fnRunS n body ns) := Q0.w_runS2
theorem enR_f {x : D} : enR false x = some (.d x) := Q0.enR_f
theorem enR_l {x : List D} : enR true (.list x) = some (.own x) := Q0.enR_l
theorem entL_0 {io : Option Nat} {k : Nat} : entL io k [] = [] := Q0.entL_0
theorem entL_1 {io : Option Nat} {k : Nat} {x : D} {xs : List D} : entL io k (x :: xs) = enR (ioAt io k) x :: entL io (k + 1) xs := Q0.entL_1
theorem entry_u {n : Nat} {io : Option Nat} {xs : List D} : entry n io xs = entL io 0 xs ++ List.replicate (n - xs.length) none := Q0.entry_u
end
/-! ### values -/
section
variable {i j : Int} {a b : Str} {xs ys : List D} {Q : R → Prop}
theorem v_add : dBin .Add (.int i) (.int j) = some (.d (.int (i + j))) := Q0.v_add
theorem v_sub : dBin .Sub (.int i) (.int j) = some (.d (.int (i - j))) := Q0.v_sub
theorem v_adds : Wo (dBin .Add (.str a) (.str b)) Q = Ck (a.length + b.length ≤ szMax) (Q (.d (.str (a ++ b)))) := Q0.v_adds
theorem v_addl : Wo (dBin .Add (.list xs) (.list ys)) Q = Ck (xs.length + ys.length ≤ szMax) (Q (.own (xs ++ ys))) := Q0.v_addl
theorem v_addt : Wo (dBin .Add (.tuple xs) (.tuple ys)) Q = Ck (xs.length + ys.length ≤ szMax) (Q (.d (.tuple (xs ++ ys)))) := Q0.v_addt
theorem v_mul : Wo (dBin .Mult (.int i) (.int j)) Q = Ck ((i.natAbs < 2 ^ 64 ∨ j.natAbs < 2 ^ 64) ∨ i.natAbs.log2 + j.natAbs.log2 < 1000000) (Q (.d (.int (i * j)))) := Q0.v_mul
theorem v_mull : Wo (dBin .Mult (.list xs) (.int j)) Q = Ck (j ≤ 1000000 ∧ -1000000 ≤ j ∧ xs.length * j.toNat ≤ szMax) (Q (.own (List.replicate j.toNat xs).flatten)) := Q0.v_mull
theorem v_mult : Wo (dBin .Mult (.tuple xs) (.int j)) Q = Ck (0 ≤ j ∧ j ≤ 1000 ∧ xs.isEmpty = false ∧ xs.length ≤ 1000) (Q (.d (.tuple (List.replicate j.toNat xs).flatten))) := Q0.v_mult
theorem v_muls : Wo (dBin .Mult (.str a) (.int j)) Q = Ck (j ≤ 1000000 ∧ -1000000 ≤ j ∧ a.length * j.toNat ≤ szMax) (Q (.d (.str (repS a j.toNat)))) := Q0.v_muls
theorem v_fdiv : Wo (dBin .FloorDiv (.int i) (.int j)) Q = Ck (0 < j ∧ j.natAbs.log2 < 9000) (Q (.d (.int (i / j)))) := Q0.v_fdiv
theorem v_mod : Wo (dBin .Mod (.int i) (.int j)) Q = Ck (0 < j) (Q (.d (.int (i % j)))) := Q0.v_mod
theorem v_pow : Wo (dBin .Pow (.int i) (.int j)) Q = Ck (0 ≤ j ∧ j ≤ 1000000 ∧ i.natAbs < 2 ^ 64) (Q (.d (.int (i ^ j.toNat)))) := Q0.v_pow
theorem v_shl : Wo (dBin .LShift (.int i) (.int j)) Q = Ck (0 ≤ j ∧ j ≤ 1000000 ∧ i.natAbs < 2 ^ 64) (Q (.d (.int (i * 2 ^ j.toNat)))) := Q0.v_shl
theorem v_shr : Wo (dBin .RShift (.int i) (.int j)) Q = Ck (0 ≤ j) (Q (.d (.int (i / 2 ^ j.toNat)))) := Q0.v_shr
theorem v_and : dBin .BitAnd (.int i) (.int j) = some (.d (.int (Builtin.bitAnd i j))) := Q0.v_and
theorem v_or : dBin .BitOr (.int i) (.int j) = some (.d (.int (Builtin.bitOr i j))) := Q0.v_or
theorem v_xor : dBin .BitXor (.int i) (.int j) = some (.d (.int (Builtin.bitXor i j))) := Q0.v_xor
theorem v_iadd : dIop .Add (.int i) (.int j) = some (.d (.int (i + j))) := Q0.v_iadd
theorem v_isub : dIop .Sub (.int i) (.int j) = some (.d (.int (i - j))) := Q0.v_isub
theorem v_ishl : Wo (dIop .LShift (.int i) (.int j)) Q = Ck (0 ≤ j ∧ j ≤ 1000000 ∧ i.natAbs < 2 ^ 64) (Q (.d (.int (i * 2 ^ j.toNat)))) := Q0.v_ishl
theorem v_ishr : Wo (dIop .RShift (.int i) (.int j)) Q = Ck (0 ≤ j) (Q (.d (.int (i / 2 ^ j.toNat)))) := Q0.v_ishr
theorem v_iand : dIop .BitAnd (.int i) (.int j) = some (.d (.int (Builtin.bitAnd i j))) := Q0.v_iand
theorem v_ior : dIop .BitOr (.int i) (.int j) = some (.d (.int (Builtin.bitOr i j))) := Q0.v_ior
theorem v_ixor : dIop .BitXor (.int i) (.int j) = some (.d (.int (Builtin.bitXor i j))) := Q0.v_ixor
theorem v_neg : dUn .USub (.int i) = some (.d (.int (-i))) := Q0.v_neg
theorem v_lt : dCmp .Lt (.int i) (.int j) = some (decide (i < j)) := Q0.v_lt
theorem v_lts : dCmp .Lt (.str a) (.str b) = some (decide (a.cps.toList < b.cps.toList)) := Q0.v_lts
theorem in_tup {x : D} {Q : Bool → Prop} : Wo (dIn x (.tuple xs)) Q = Br (flatD x = true ∧ xs.all flatD = true) (Q (xs.any fun y => PyData.eqv y x)) (Ck (SeqAt.shaped x = true ∧ SeqAt.shaped (.list xs) = true) (Q (xs.any fun y => PyData.eqv y x))) := Q0.in_tup
theorem fl_i : flatD (.int i) = true := Q0.fl_i
theorem fl_s : flatD (.str a) = true := Q0.fl_s
theorem fl_b {p : Bool} : flatD (.bool p) = true := Q0.fl_b
theorem fl_n : flatD .none = true := Q0.fl_n
theorem fl_t : flatD (.tuple xs) = false := Q0.fl_t
theorem fl_l : flatD (.list xs) = false := Q0.fl_l
theorem ev_ii : PyData.eqv (.int i) (.int j) = decide (i = j) := Q0.ev_ii
theorem ev_ss : PyData.eqv (.str a) (.str b) = decide (a = b) := Q0.ev_ss
theorem v_le : dCmp .LtE (.int i) (.int j) = some (decide (i ≤ j)) := Q0.v_le
theorem v_gt : dCmp .Gt (.int i) (.int j) = some (decide (j < i)) := Q0.v_gt
theorem v_ge : dCmp .GtE (.int i) (.int j) = some (decide (j ≤ i)) := Q0.v_ge
theorem v_is {x : D} : dCmp .Is x .none = some (isNon x) := Q0.v_is
theorem v_isn {x : D} : dCmp .IsNot x .none = some (!isNon x) := Q0.v_isn
theorem v_non : isNon .none = true := Q0.v_non
theorem v_nonb {b : Bool} : isNon (.bool b) = false := Q0.v_nonb
theorem v_noni : isNon (.int i) = false := Q0.v_noni
theorem v_nons : isNon (.str a) = false := Q0.v_nons
theorem v_nonl : isNon (.list xs) = false := Q0.v_nonl
theorem v_nont : isNon (.tuple xs) = false := Q0.v_nont
theorem v_eq {x y : D} : dCmp .Eq x y = dEq x y := Q0.v_eq
theorem v_ne {x y : D} {Q : Bool → Prop} : Wo (dCmp .NotEq x y) Q = Wo (dEq x y) fun b => Q (!b) := Q0.v_ne
theorem v_in {x y : D} : dCmp .In x y = dIn x y := Q0.v_in
theorem v_nin {x y : D} {Q : Bool → Prop} : Wo (dCmp .NotIn x y) Q = Wo (dIn x y) fun b => Q (!b) := Q0.v_nin
theorem e_ii : dEq (.int i) (.int j) = some (decide (i = j)) := Q0.e_ii
theorem e_bb {p q : Bool} : dEq (.bool p) (.bool q) = some (p == q) := Q0.e_bb
theorem e_ss : dEq (.str a) (.str b) = some (decide (a = b)) := Q0.e_ss
theorem e_nn : dEq .none .none = some true := Q0.e_nn
theorem e_ni : dEq .none (.int i) = some false := Q0.e_ni
theorem e_in : dEq (.int i) .none = some false := Q0.e_in
theorem e_nb {p : Bool} : dEq .none (.bool p) = some false := Q0.e_nb
theorem e_bn {p : Bool} : dEq (.bool p) .none = some false := Q0.e_bn
theorem e_ns : dEq .none (.str a) = some false := Q0.e_ns
theorem e_sn : dEq (.str a) .none = some false := Q0.e_sn
theorem e_is : dEq (.int i) (.str a) = some false := Q0.e_is
theorem e_si : dEq (.str a) (.int i) = some false := Q0.e_si
theorem e_bs {p : Bool} : dEq (.bool p) (.str a) = some false := Q0.e_bs
theorem e_sb {p : Bool} : dEq (.str a) (.bool p) = some false := Q0.e_sb
theorem t_n : dTru .none = some false := Q0.t_n
theorem t_b {p : Bool} : dTru (.bool p) = some p := Q0.t_b
theorem t_i : dTru (.int i) = some (i != 0) := Q0.t_i
theorem t_l : dTru (.list xs) = some (!xs.isEmpty) := Q0.t_l
theorem t_t : dTru (.tuple xs) = some (!xs.isEmpty) := Q0.t_t
theorem t_s {Q : Bool → Prop} : Wo (dTru (.str a)) Q = Ck (a.length ≤ szMax) (Q ((a.length : Int) != 0)) := Q0.t_s
theorem x_l : dIx (.list xs) (.int i) = (atI xs i).map .d := Q0.x_l
theorem x_t : dIx (.tuple xs) (.int i) = (atI xs i).map .d := Q0.x_t
theorem x_s : Wo (dIx (.str a) (.int i)) Q = Ck (a.length ≤ szMax) (Wo (atI a.cps.toList i) fun c => Q (.d (.str ⟨#[c]⟩))) := Q0.x_s
theorem atI_0 {α : Type} {x0 : α} {l : List α} : atI (x0 :: l) 0 = some x0 := Q0.atI_0
theorem atI_1 {α : Type} {x0 x1 : α} {l : List α} : atI (x0 :: x1 :: l) 1 = some x1 := Q0.atI_1
theorem atI_2 {α : Type} {x0 x1 x2 : α} {l : List α} : atI (x0 :: x1 :: x2 :: l) 2 = some x2 := Q0.atI_2
theorem atI_3 {α : Type} {x0 x1 x2 x3 : α} {l : List α} : atI (x0 :: x1 :: x2 :: x3 :: l) 3 = some x3 := Q0.atI_3
theorem atI_4 {α : Type} {x0 x1 x2 x3 x4 : α} {l : List α} : atI (x0 :: x1 :: x2 :: x3 :: x4 :: l) 4 = some x4 := Q0.atI_4
theorem atI_5 {α : Type} {x0 x1 x2 x3 x4 x5 : α} {l : List α} : atI (x0 :: x1 :: x2 :: x3 :: x4 :: x5 :: l) 5 = some x5 := Q0.atI_5
theorem atI_6 {α : Type} {x0 x1 x2 x3 x4 x5 x6 : α} {l : List α} : atI (x0 :: x1 :: x2 :: x3 :: x4 :: x5 :: x6 :: l) 6 = some x6 := Q0.atI_6
theorem atI_7 {α : Type} {x0 x1 x2 x3 x4 x5 x6 x7 : α} {l : List α} : atI (x0 :: x1 :: x2 :: x3 :: x4 :: x5 :: x6 :: x7 :: l) 7 = some x7 := Q0.atI_7
theorem atI_8 {α : Type} {x0 x1 x2 x3 x4 x5 x6 x7 x8 : α} {l : List α} : atI (x0 :: x1 :: x2 :: x3 :: x4 :: x5 :: x6 :: x7 :: x8 :: l) 8 = some x8 := Q0.atI_8
theorem atI_9 {α : Type} {x0 x1 x2 x3 x4 x5 x6 x7 x8 x9 : α} {l : List α} : atI (x0 :: x1 :: x2 :: x3 :: x4 :: x5 :: x6 :: x7 :: x8 :: x9 :: l) 9 = some x9 := Q0.atI_9
theorem atI_10 {α : Type} {x0 x1 x2 x3 x4 x5 x6 x7 x8 x9 x10 : α} {l : List α} : atI (x0 :: x1 :: x2 :: x3 :: x4 :: x5 :: x6 :: x7 :: x8 :: x9 :: x10 :: l) 10 = some x10 := Q0.atI_10
theorem atI_11 {α : Type} {x0 x1 x2 x3 x4 x5 x6 x7 x8 x9 x10 x11 : α} {l : List α} : atI (x0 :: x1 :: x2 :: x3 :: x4 :: x5 :: x6 :: x7 :: x8 :: x9 :: x10 :: x11 :: l) 11 = some x11 := Q0.atI_11
theorem atI_12 {α : Type} {x0 x1 x2 x3 x4 x5 x6 x7 x8 x9 x10 x11 x12 : α} {l : List α} : atI (x0 :: x1 :: x2 :: x3 :: x4 :: x5 :: x6 :: x7 :: x8 :: x9 :: x10 :: x11 :: x12 :: l) 12 = some x12 := Q0.atI_12
theorem atI_13 {α : Type} {x0 x1 x2 x3 x4 x5 x6 x7 x8 x9 x10 x11 x12 x13 : α} {l : List α} : atI (x0 :: x1 :: x2 :: x3 :: x4 :: x5 :: x6 :: x7 :: x8 :: x9 :: x10 :: x11 :: x12 :: x13 :: l) 13 = some x13 := Q0.atI_13
theorem atI_14 {α : Type} {x0 x1 x2 x3 x4 x5 x6 x7 x8 x9 x10 x11 x12 x13 x14 : α} {l : List α} : atI (x0 :: x1 :: x2 :: x3 :: x4 :: x5 :: x6 :: x7 :: x8 :: x9 :: x10 :: x11 :: x12 :: x13 :: x14 :: l) 14 = some x14 := Q0.atI_14
theorem atI_15 {α : Type} {x0 x1 x2 x3 x4 x5 x6 x7 x8 x9 x10 x11 x12 x13 x14 x15 : α} {l : List α} : atI (x0 :: x1 :: x2 :: x3 :: x4 :: x5 :: x6 :: x7 :: x8 :: x9 :: x10 :: x11 :: x12 :: x13 :: x14 :: x15 :: l) 15 = some x15 := Q0.atI_15
theorem ixN_0 {n : Nat} : ixN (n + 1) 0 = some 0 := Q0.ixN_0
theorem ixN_1 {n : Nat} : ixN (n + 1 + 1) 1 = some 1 := Q0.ixN_1
theorem ixN_2 {n : Nat} : ixN (n + 1 + 1 + 1) 2 = some 2 := Q0.ixN_2
theorem ixN_3 {n : Nat} : ixN (n + 1 + 1 + 1 + 1) 3 = some 3 := Q0.ixN_3
theorem ixN_4 {n : Nat} : ixN (n + 1 + 1 + 1 + 1 + 1) 4 = some 4 := Q0.ixN_4
theorem ixN_5 {n : Nat} : ixN (n + 1 + 1 + 1 + 1 + 1 + 1) 5 = some 5 := Q0.ixN_5
theorem ixN_6 {n : Nat} : ixN (n + 1 + 1 + 1 + 1 + 1 + 1 + 1) 6 = some 6 := Q0.ixN_6
theorem ixN_7 {n : Nat} : ixN (n + 1 + 1 + 1 + 1 + 1 + 1 + 1 + 1) 7 = some 7 := Q0.ixN_7
theorem ixN_8 {n : Nat} : ixN (n + 1 + 1 + 1 + 1 + 1 + 1 + 1 + 1 + 1) 8 = some 8 := Q0.ixN_8
theorem ixN_9 {n : Nat} : ixN (n + 1 + 1 + 1 + 1 + 1 + 1 + 1 + 1 + 1 + 1) 9 = some 9 := Q0.ixN_9
theorem ixN_10 {n : Nat} : ixN (n + 1 + 1 + 1 + 1 + 1 + 1 + 1 + 1 + 1 + 1 + 1) 10 = some 10 := Q0.ixN_10
theorem ixN_11 {n : Nat} : ixN (n + 1 + 1 + 1 + 1 + 1 + 1 + 1 + 1 + 1 + 1 + 1 + 1) 11 = some 11 := Q0.ixN_11
theorem ixN_12 {n : Nat} : ixN (n + 1 + 1 + 1 + 1 + 1 + 1 + 1 + 1 + 1 + 1 + 1 + 1 + 1) 12 = some 12 := Q0.ixN_12
theorem s_l {lo hi : Option Int} : dSl (.list xs) lo hi = some (.own (cutD xs lo hi)) := Q0.s_l
theorem s_t {lo hi : Option Int} : dSl (.tuple xs) lo hi = some (.d (.tuple (cutD xs lo hi))) := Q0.s_t
theorem s_s {lo hi : Option Int} : Wo (dSl (.str a) lo hi) Q = Ck (a.length ≤ szMax) (Q (.d (.str (cutS a lo hi)))) := Q0.s_s
theorem rev_l : dRev (.list xs) = some (.own xs.reverse) := Q0.rev_l
theorem rev_t : dRev (.tuple xs) = some (.d (.tuple xs.reverse)) := Q0.rev_t
theorem m0_bits : dMeth0 "bit_length" (.int i) = some (.d (.int (Builtin.Int.intBits i : Nat))) := Q0.m0_bits
theorem b_len_l : dB1 "len" (.list xs) = some (.d (.int xs.length)) := Q0.b_len_l
theorem b_len_t : dB1 "len" (.tuple xs) = some (.d (.int xs.length)) := Q0.b_len_t
theorem b_len_s : Wo (dB1 "len" (.str a)) Q = Ck (a.length ≤ szMax) (Q (.d (.int a.length))) := Q0.b_len_s
theorem b_int_i : dB1 "int" (.int i) = some (.d (.int i)) := Q0.b_int_i
theorem b_int_b {p : Bool} : dB1 "int" (.bool p) = some (.d (.int (if p then 1 else 0))) := Q0.b_int_b
theorem b_abs : dB1 "abs" (.int i) = some (.d (.int (if i < 0 then -i else i))) := Q0.b_abs
theorem b_list_l : dB1 "list" (.list xs) = some (.own xs) := Q0.b_list_l
theorem b_list_t : dB1 "list" (.tuple xs) = some (.own xs) := Q0.b_list_t
theorem b_list_s : Wo (dB1 "list" (.str a)) Q = Ck (a.length ≤ szMax) (Q (.own (chars a))) := Q0.b_list_s
theorem b_tup_l : dB1 "tuple" (.list xs) = some (.d (.tuple xs)) := Q0.b_tup_l
theorem b_tup_t : dB1 "tuple" (.tuple xs) = some (.d (.tuple xs)) := Q0.b_tup_t
theorem b_sum : dB1 "sum" (.list xs) = (ints? xs).map fun ns => .d (.int ns.sum) := Q0.b_sum
theorem b_all : dB1 "all" (.list xs) = (bls? xs).map fun bs => .d (.bool (bs.all id)) := Q0.b_all
theorem b_any : dB1 "any" (.list xs) = (bls? xs).map fun bs => .d (.bool (bs.any id)) := Q0.b_any
theorem b_str : Wo (dB1 "str" (.int i)) Q = Ck (i.natAbs.log2 < 1920) (Q (.d (.str (toString i)))) := Q0.b_str
theorem b_max : dB2 "max" (.int i) (.int j) = some (.d (.int (if j > i then j else i))) := Q0.b_max
theorem b_min : dB2 "min" (.int i) (.int j) = some (.d (.int (if j < i then j else i))) := Q0.b_min
theorem it_l : itOf (.list xs) = some xs := Q0.it_l
theorem it_t : itOf (.tuple xs) = some xs := Q0.it_t
theorem it_s {Q : List D → Prop} : Wo (itOf (.str a)) Q = Ck (a.length ≤ szMax) (Q (chars a)) := Q0.it_s
theorem m_app : dMut "append" = mApp := Q0.m_app
theorem m_ext : dMut "extend" = mExt := Q0.m_ext
theorem m_pop : dMut "pop" = mPop := Q0.m_pop
theorem m_app1 {x : D} {Q : R → List D → Prop} : Wq (mApp xs [x]) Q = Ck (xs.length < szMax) (Q (.d .none) (xs ++ [x])) := Q0.m_app1
theorem m_ext1 {Q : R → List D → Prop} : Wq (mExt xs [.list ys]) Q = Ck (xs.length + ys.length ≤ szMax) (Q (.d .none) (xs ++ ys)) := Q0.m_ext1
theorem ty_n : typD .none = some "NoneType" := Q0.ty_n
theorem ty_b {p : Bool} : typD (.bool p) = some "bool" := Q0.ty_b
theorem ty_i : typD (.int i) = some "int" := Q0.ty_i
theorem ty_s : typD (.str a) = some "str" := Q0.ty_s
theorem ty_l : typD (.list xs) = some "list" := Q0.ty_l
theorem ty_t : typD (.tuple xs) = some "tuple" := Q0.ty_t
theorem bls0 : bls? [] = some [] := Q0.bls0
theorem bls1 {p : Bool} {r : List D} : bls? (.bool p :: r) = (bls? r).map (p :: ·) := Q0.bls1
theorem ints0 : ints? [] = some [] := Q0.ints0
theorem ints1 {r : List D} : ints? (.int i :: r) = (ints? r).map (i :: ·) := Q0.ints1
end
theorem it_NoneType_int : isTy "NoneType" "int" = false := Q0.it_NoneType_int
theorem it_NoneType_bool : isTy "NoneType" "bool" = false := Q0.it_NoneType_bool
theorem it_NoneType_str : isTy "NoneType" "str" = false := Q0.it_NoneType_str
theorem it_NoneType_tuple : isTy "NoneType" "tuple" = false := Q0.it_NoneType_tuple
theorem it_NoneType_list : isTy "NoneType" "list" = false := Q0.it_NoneType_list
theorem it_bool_int : isTy "bool" "int" = true := Q0.it_bool_int
theorem it_bool_bool : isTy "bool" "bool" = true := Q0.it_bool_bool
theorem it_bool_str : isTy "bool" "str" = false := Q0.it_bool_str
theorem it_bool_tuple : isTy "bool" "tuple" = false := Q0.it_bool_tuple
theorem it_bool_list : isTy "bool" "list" = false := Q0.it_bool_list
theorem it_int_int : isTy "int" "int" = true := Q0.it_int_int
theorem it_int_bool : isTy "int" "bool" = false := Q0.it_int_bool
theorem it_int_str : isTy "int" "str" = false := Q0.it_int_str
theorem it_int_tuple : isTy "int" "tuple" = false := Q0.it_int_tuple
theorem it_int_list : isTy "int" "list" = false := Q0.it_int_list
theorem it_str_int : isTy "str" "int" = false := Q0.it_str_int
theorem it_str_bool : isTy "str" "bool" = false := Q0.it_str_bool
theorem it_str_str : isTy "str" "str" = true := Q0.it_str_str
theorem it_str_tuple : isTy "str" "tuple" = false := Q0.it_str_tuple
theorem it_str_list : isTy "str" "list" = false := Q0.it_str_list
theorem it_list_int : isTy "list" "int" = false := Q0.it_list_int
theorem it_list_bool : isTy "list" "bool" = false := Q0.it_list_bool
theorem it_list_str : isTy "list" "str" = false := Q0.it_list_str
theorem it_list_tuple : isTy "list" "tuple" = false := Q0.it_list_tuple
theorem it_list_list : isTy "list" "list" = true := Q0.it_list_list
theorem it_tuple_int : isTy "tuple" "int" = false := Q0.it_tuple_int
theorem it_tuple_bool : isTy "tuple" "bool" = false := Q0.it_tuple_bool
theorem it_tuple_str : isTy "tuple" "str" = false := Q0.it_tuple_str
theorem it_tuple_tuple : isTy "tuple" "tuple" = true := Q0.it_tuple_tuple
theorem it_tuple_list : isTy "tuple" "list" = false := Q0.it_tuple_list
theorem any_0 {α : Type} {f : α → Bool} : [].any f = false := Q0.any_0
theorem any_1 {α : Type} {f : α → Bool} {x : α} {l : List α} : (x :: l).any f = (f x || l.any f) := Q0.any_1
theorem all_0 {α : Type} {f : α → Bool} : [].all f = true := Q0.all_0
theorem all_1 {α : Type} {f : α → Bool} {x : α} {l : List α} : (x :: l).all f = (f x && l.all f) := Q0.all_1
end Ek

/-! ## R: how a proof goes on where simp stops -/
namespace Ek
open PySem L2
theorem br {c A B : Prop} (a : c → A) (b : ¬c → B) : Br c A B := ⟨a, b⟩
theorem ck {c A : Prop} (h : c) (a : A) : Ck c A := ⟨h, a⟩
theorem wo {α : Type} {o : Option α} {a : α} {Q : α → Prop} (e : o = some a) (h : Q a) : Wo o Q := ⟨a, e, h⟩
theorem wq {o : Option (R × List D)} {r : R} {ys : List D} {Q : R → List D → Prop} (e : o = some (r, ys)) (h : Q r ys) : Wq o Q := ⟨r, ys, e, h⟩
theorem wp {α : Type} {x : Rs (α × S)} {a : α} {s : S} {Q : α → S → Prop} (e : x = .ok (a, s)) (h : Q a s) : Wp x Q := ⟨a, s, e, h⟩
theorem Wp.ex {α : Type} {x : Rs (α × S)} {Q : α → S → Prop} (h : Wp x Q) : ∃ a s, x = .ok (a, s) ∧ Q a s := h
theorem Wq.ex {o : Option (R × List D)} {Q : R → List D → Prop} (h : Wq o Q) : ∃ r ys, o = some (r, ys) ∧ Q r ys := h
theorem Wp.mono {α : Type} {x : Rs (α × S)} {Q Q' : α → S → Prop} (h : Wp x Q) (m : ∀ a s, Q a s → Q' a s) : Wp x Q' := by
  obtain ⟨a, s, e, q⟩ := h
  exact ⟨a, s, e, m a s q⟩
theorem Wq.mono {o : Option (R × List D)} {Q Q' : R → List D → Prop} (h : Wq o Q) (m : ∀ a s, Q a s → Q' a s) : Wq o Q' := by
  obtain ⟨a, s, e, q⟩ := h
  exact ⟨a, s, e, m a s q⟩
section
variable {α β : Type} {x y z w v : α} {l : List α} {n : Nat}
theorem g_0 : (x :: l)[0]? = some x := rfl
theorem g_s : (x :: l)[n + 1]? = l[n]? := rfl
theorem t_0 : (x :: l).set 0 y = y :: l := rfl
theorem t_k : (x :: l).set (n + 1) y = x :: l.set n y := rfl
theorem n_0 : ([] : List α).length = 0 := rfl
theorem n_s : (x :: l).length = l.length + 1 := rfl
theorem r_0 : List.replicate 0 x = [] := rfl
theorem r_s : List.replicate (n + 1) x = x :: List.replicate n x := rfl
theorem a_0 : ([] : List α) ++ l = l := rfl
theorem a_s {l' : List α} : (x :: l) ++ l' = x :: (l ++ l') := rfl
theorem d_0 {b : Bool} : (true && b) = b := by cases b <;> rfl
theorem d_1 {b : Bool} : (false && b) = false := rfl
theorem d_2 {b : Bool} : (true || b) = true := rfl
theorem d_3 {b : Bool} : (false || b) = b := by cases b <;> rfl
theorem d_4 {b : Bool} : (b || false) = b := by cases b <;> rfl
theorem d_5 {b : Bool} : (b && true) = b := by cases b <;> rfl
theorem d_6 : (!true) = false := rfl
theorem d_7 : (!false) = true := rfl
theorem k_0 {p : Prop} [Decidable p] : (decide p = true) = p := decide_eq_true_eq
theorem k_1 {p : Prop} [Decidable p] : ((!decide p) = true) = ¬p := by simp
theorem k_2 : (false = true) = False := by simp
theorem k_3 : (true = true) = True := by simp
theorem k_4 {p : Prop} : (True ∧ p) = p := true_and p
theorem k_5 {p : Prop} : (p ∧ True) = p := and_true p
theorem k_6 : (¬False) = True := not_false_eq_true
theorem k_7 : (¬True) = False := not_true_eq_false
theorem k_8 {p : Prop} : (False ∨ p) = p := false_or p
theorem k_9 {p : Prop} : (p ∨ False) = p := or_false p
theorem k_10 {p : Prop} : (True ∨ p) = True := true_or p
theorem k_11 {p : Prop} : (p ∨ True) = True := or_true p
theorem k_12 : (x = x) = True := eq_self x
theorem k_13 : (true == true) = true := rfl
theorem k_14 : (false == true) = false := rfl
theorem k_15 : (true == false) = false := rfl
theorem k_16 : (false == false) = true := rfl
theorem k_17 : ((if true = true then x else y)) = x := rfl
theorem k_18 : ((if false = true then x else y)) = y := rfl
theorem k_19 : szMax = 1000000 := rfl
theorem k_20 : id x = x := rfl
theorem k_21 : ([] : List α).isEmpty = true := rfl
theorem k_22 : (x :: l).isEmpty = false := rfl
theorem k_23 : (α = α) = True := eq_self α
theorem k_24 {p : Prop} : (p ∧ p) = p := and_self p
theorem k_25 {h : Decidable True} : @decide True h = true := by simp
theorem k_26 {h : Decidable False} : @decide False h = false := by simp
theorem fl_0 : ([] : List (List α)).flatten = [] := rfl
theorem fl_1 {l : List (List α)} {x : List α} : (x :: l).flatten = x ++ l.flatten := rfl
theorem nb_0 : Nat.beq 0 0 = true := rfl
theorem nb_1 : Nat.beq 0 (n + 1) = false := rfl
theorem nb_2 : Nat.beq (n + 1) 0 = false := rfl
end
theorem for_inv {s0 : S} {tg : GF} {body : SF} {I : S → Prop} {Q : Fl → S → Prop} : ∀ (xs : List D) (s : S), I (mask s0 s) → (∀ x ∈ xs, ∀ s, I s → Wg (tg x s) fun s => Wp (body s) fun f s' => f = .nx ∧ I (mask s0 s')) → (∀ s, I s → Q .nx s) → Wp (forL s0 tg body xs s) Q
  | [], s, h, _, q => by
    rw [w_forL0]
    exact q _ h
  | x :: xs, s, h, hb, q => by
    rw [w_forL1]
    obtain ⟨s1, e1, f, s2, e2, rfl, h2⟩ := hb x List.mem_cons_self _ h
    exact ⟨s1, e1, .nx, s2, e2, for_inv xs s2 h2 (fun y hy => hb y (List.mem_cons_of_mem _ hy)) q⟩
theorem for_fam {s0 s : S} {tg : GF} {body : SF} {Q : Fl → S → Prop} {ι : Type} (st : ι → S) (P : ι → Prop) (i0 : ι) {xs : List D} (h0 : P i0) (e0 : mask s0 s = st i0) (hb : ∀ x ∈ xs, ∀ i, P i → Wg (tg x (st i)) fun s => Wp (body s) fun f s' => f = .nx ∧ ∃ j, P j ∧ mask s0 s' = st j) (q : ∀ i, P i → Q .nx (st i)) : Wp (forL s0 tg body xs s) Q :=
  for_inv (I := fun s => ∃ i, P i ∧ s = st i) xs s ⟨i0, h0, e0⟩ (fun x hx s h => by
    obtain ⟨i, hi, e⟩ := h
    have := hb x hx i hi
    obtain ⟨s1, e1, f, s2, e2, h3, h4⟩ := this
    exact ⟨s1, by rw [e]; exact e1, f, s2, e2, h3, h4⟩) fun s h => by
    obtain ⟨i, hi, e⟩ := h
    rw [e]
    exact q i hi
theorem lay_ints : ∀ ns : List Int, PyData.canLayAll0 (ns.map .int) = true
  | [] => rfl
  | _ :: r => by
    show (true && PyData.canLayAll0 (r.map .int)) = true
    rw [lay_ints r]; rfl
theorem dep_ints : ∀ ns : List Int, PyData.depthAll (ns.map .int) = 0
  | [] => rfl
  | _ :: r => by
    show max 0 (PyData.depthAll (r.map .int)) = 0
    rw [dep_ints r]; rfl
theorem shaped_ints (ns : List Int) : SeqAt.shaped (.list (ns.map .int)) = true := by
  unfold SeqAt.shaped PyData.canLay0 PyData.depth
  rw [lay_ints, dep_ints]; rfl
theorem eqv_ints : ∀ ns : List Int, PyData.eqvAll (ns.map .int) (ns.map .int) = true
  | [] => rfl
  | x :: r => by
    show ((x == x) && PyData.eqvAll (r.map .int) (r.map .int)) = true
    rw [eqv_ints r]; simp
theorem eq_ints (ns : List Int) : dEq (.list (ns.map .int)) (.list (ns.map .int)) = some true := by
  unfold dEq
  rw [if_neg (by simp [scalD]), if_pos ⟨shaped_ints ns, shaped_ints ns⟩]
  show some (PyData.eqvAll _ _) = _
  rw [eqv_ints]
theorem nc_0 : ((0 : Nat) : Int) = 0 := rfl
theorem nc_1 : ((1 : Nat) : Int) = 1 := rfl
theorem nc_2 : ((2 : Nat) : Int) = 2 := rfl
theorem nc_3 : ((3 : Nat) : Int) = 3 := rfl
theorem nc_4 : ((4 : Nat) : Int) = 4 := rfl
theorem nc_5 : ((5 : Nat) : Int) = 5 := rfl
theorem nc_6 : ((6 : Nat) : Int) = 6 := rfl
theorem nc_7 : ((7 : Nat) : Int) = 7 := rfl
theorem nc_8 : ((8 : Nat) : Int) = 8 := rfl
theorem nc_9 : ((9 : Nat) : Int) = 9 := rfl
theorem nc_10 : ((10 : Nat) : Int) = 10 := rfl
theorem nc_11 : ((11 : Nat) : Int) = 11 := rfl
theorem nc_12 : ((12 : Nat) : Int) = 12 := rfl
theorem nc_13 : ((13 : Nat) : Int) = 13 := rfl
theorem nc_14 : ((14 : Nat) : Int) = 14 := rfl
theorem nc_15 : ((15 : Nat) : Int) = 15 := rfl
theorem nc_16 : ((16 : Nat) : Int) = 16 := rfl
theorem nc_17 : ((17 : Nat) : Int) = 17 := rfl
theorem nc_18 : ((18 : Nat) : Int) = 18 := rfl
theorem nc_19 : ((19 : Nat) : Int) = 19 := rfl
theorem nc_20 : ((20 : Nat) : Int) = 20 := rfl
theorem nc_1000000 : ((1000000 : Nat) : Int) = 1000000 := rfl
theorem rg_0 : rangeD 0 0 = [] := rfl
theorem rg_1 : rangeD 0 1 = [.int 0] := rfl
theorem rg_2 : rangeD 0 2 = [.int 0, .int 1] := rfl
theorem rg_3 : rangeD 0 3 = [.int 0, .int 1, .int 2] := rfl
theorem rg_4 : rangeD 0 4 = [.int 0, .int 1, .int 2, .int 3] := rfl
theorem rg_5 : rangeD 0 5 = [.int 0, .int 1, .int 2, .int 3, .int 4] := rfl
theorem rg_6 : rangeD 0 6 = [.int 0, .int 1, .int 2, .int 3, .int 4, .int 5] := rfl
theorem rg_7 : rangeD 0 7 = [.int 0, .int 1, .int 2, .int 3, .int 4, .int 5, .int 6] := rfl
theorem rg_8 : rangeD 0 8 = [.int 0, .int 1, .int 2, .int 3, .int 4, .int 5, .int 6, .int 7] := rfl
theorem rg_9 : rangeD 0 9 = [.int 0, .int 1, .int 2, .int 3, .int 4, .int 5, .int 6, .int 7, .int 8] := rfl
theorem rg_10 : rangeD 0 10 = [.int 0, .int 1, .int 2, .int 3, .int 4, .int 5, .int 6, .int 7, .int 8, .int 9] := rfl
theorem rg_11 : rangeD 0 11 = [.int 0, .int 1, .int 2, .int 3, .int 4, .int 5, .int 6, .int 7, .int 8, .int 9, .int 10] := rfl
theorem rg_12 : rangeD 0 12 = [.int 0, .int 1, .int 2, .int 3, .int 4, .int 5, .int 6, .int 7, .int 8, .int 9, .int 10, .int 11] := rfl
theorem rg_13 : rangeD 0 13 = [.int 0, .int 1, .int 2, .int 3, .int 4, .int 5, .int 6, .int 7, .int 8, .int 9, .int 10, .int 11, .int 12] := rfl
theorem rg_14 : rangeD 0 14 = [.int 0, .int 1, .int 2, .int 3, .int 4, .int 5, .int 6, .int 7, .int 8, .int 9, .int 10, .int 11, .int 12, .int 13] := rfl
theorem rg_15 : rangeD 0 15 = [.int 0, .int 1, .int 2, .int 3, .int 4, .int 5, .int 6, .int 7, .int 8, .int 9, .int 10, .int 11, .int 12, .int 13, .int 14] := rfl
theorem rg_16 : rangeD 0 16 = [.int 0, .int 1, .int 2, .int 3, .int 4, .int 5, .int 6, .int 7, .int 8, .int 9, .int 10, .int 11, .int 12, .int 13, .int 14, .int 15] := rfl
theorem log_small {m : Int} (h : m.natAbs < 18446744073709551616) : m.natAbs.log2 < 9000 := by
  by_cases z : m.natAbs = 0
  · rw [z]; decide
  · exact (Nat.log2_lt z).2 (Nat.lt_of_lt_of_le h (show (2 : Nat) ^ 64 ≤ 2 ^ 9000 from Nat.pow_le_pow_right (by decide) (by decide)))
/-! ### what a law draws from its script -/
structure Pot (ns : List Int) : Prop where
  ex : ∃ p0 p1 p2 r, ns = p0 :: p1 :: p2 :: r ∧ 0 ≤ p0 ∧ 3 ≤ p2
theorem pot_cell {p0 p1 p2 : Int} {r : List Int} (h : 3 ≤ p2) (h2 : p2 < (r.length + 1 + 1 + 1 : Nat)) : ∃ c : Int, atI (PyData.int p0 :: .int p1 :: .int p2 :: r.map .int) p2 = some (.int c) := by
  have e : ((p2.toNat : Nat) : Int) = p2 := by omega
  have hl : p2.toNat < (PyData.int p0 :: .int p1 :: .int p2 :: r.map .int).length := by simp; omega
  refine ⟨(p0 :: p1 :: p2 :: r)[p2.toNat]'(by simp; omega), ?_⟩
  have := atI_of (l := PyData.int p0 :: .int p1 :: .int p2 :: r.map .int) hl
  rw [e] at this
  rw [this]
  rw [show (PyData.int p0 :: .int p1 :: .int p2 :: r.map .int) = (p0 :: p1 :: p2 :: r).map .int from rfl, List.getElem?_map, List.getElem?_eq_getElem (by simp; omega)]
  rfl
end Ek

/-! ## T: texts by their codes -/
namespace Ek
open PySem L2
def sx (l : List Nat) : Str := ⟨l.toArray⟩
theorem sx_str (z : Str) : z = sx z.cps.toList := by cases z; simp [sx]
theorem sx_len {l : List Nat} : (sx l).length = l.length := by simp [sx, Str.length]
theorem sx_app {a b : List Nat} : sx a ++ sx b = sx (a ++ b) := by
  show Str.append _ _ = _
  simp [Str.append, sx]
theorem sx_inj {a b : List Nat} : (sx a = sx b) = (a = b) := by
  refine propext ⟨fun h => ?_, fun h => by rw [h]⟩
  have := congrArg (fun z : Str => z.cps.toList) h
  simpa [sx] using this
theorem sx_cps {l : List Nat} : (sx l).cps.toList = l := by simp [sx]
theorem sx_one {c : Nat} : (⟨#[c]⟩ : Str) = sx [c] := rfl
theorem sx_chars {l : List Nat} : chars (sx l) = l.map fun c => .str (sx [c]) := by
  unfold chars; rw [sx_cps]; rfl
theorem sx_cut {l : List Nat} {lo hi : Option Int} : cutS (sx l) lo hi = sx (cutD l lo hi) := by
  unfold cutS cutD
  rw [sx_len, sx_cps]; rfl
theorem repS_fold (a acc : Array Nat) : ∀ n, ((List.replicate n a).foldl (· ++ ·) acc).toList = acc.toList ++ (List.replicate n a.toList).flatten
  | 0 => by simp
  | n + 1 => by
    rw [List.replicate_succ, List.foldl_cons, repS_fold a (acc ++ a) n, List.replicate_succ, List.flatten_cons]
    simp
theorem sx_rep {l : List Nat} {n : Nat} : repS (sx l) n = sx (List.replicate n l).flatten := by
  rw [sx_str (repS (sx l) n)]
  congr 1
  unfold repS
  rw [repS_fold]
  simp [sx_cps]
theorem glued_fold (sep : List Nat) : ∀ (ls : List (List Nat)) (acc : Array Nat), (((ls.map sx).foldl (fun (acc : Array Nat) (p : Str) => acc ++ (sx sep).cps ++ p.cps) acc)).toList = acc.toList ++ (ls.map fun l => sep ++ l).flatten
  | [], acc => by simp
  | l :: ls, acc => by
    rw [List.map_cons, List.foldl_cons, glued_fold sep ls]
    simp [sx]
theorem sx_join {ls : List (List Nat)} : Txt.join (sx []) (ls.map sx) = sx ls.flatten := by
  rw [sx_str (Txt.join _ _)]
  congr 1
  unfold Txt.join Builtin.Str.glued
  cases ls with
  | nil => rfl
  | cons l ls =>
    rw [List.map_cons, List.headD_cons]
    show ((((sx l :: ls.map sx).drop 1).foldl _ (sx l).cps)).toList = _
    rw [List.drop_one, List.tail_cons, glued_fold]
    simp [sx_cps]
theorem strs_sx : ∀ (ls : List (List Nat)), strs? (ls.map fun l => .str (sx l)) = some (ls.map sx)
  | [] => rfl
  | l :: ls => by simp [strs?, strs_sx ls]
theorem lens_sx : ∀ (ls : List (List Nat)), ((ls.map sx).map Str.length).sum = ls.flatten.length
  | [] => rfl
  | l :: ls => by
    have := lens_sx ls
    simp only [List.map_cons, List.sum_cons, List.flatten_cons, List.length_append, sx_len, this]
/-- "".join of texts -/
theorem meth_join {ls : List (List Nat)} {Q : R → Prop} : Wo (dMeth "join" (.str (sx [])) [.list (ls.map fun l => .str (sx l))]) Q = Ck (ls.flatten.length ≤ szMax) (Q (.d (.str (sx ls.flatten)))) := by
  unfold dMeth
  rw [if_pos rfl]
  simp only [strs_sx]
  rw [lens_sx, sx_join, sx_len]
  simp only [List.length_nil, Nat.zero_mul, Nat.add_zero]
  exact wo_ck.trans (by rw [wo_some])
theorem occ_step (l : List Nat) (c : Nat) (lim : Nat) (hl : l.length < lim) : ∀ (n i : Nat) (st : Array Nat × Nat), i + n = l.length + 1 → st.1.size ≤ i → st.2 ≤ i →
    (forIn (m := Id) (List.range' i n) st (StrLaws.occBody (sx l) (sx [c]) l.length lim)).run.fst.size = st.1.size + (l.drop i).count c
  | 0, i, st, h, h1, h2 => by
    rw [List.range'_zero]
    show st.1.size = _
    rw [List.drop_eq_nil_of_le (by omega)]
    simp
  | n + 1, i, st, h, h1, h2 => by
    rw [List.range'_succ, List.forIn_cons]
    by_cases hi : i < l.length
    · have e1 : (l.drop i) = l[i] :: l.drop (i + 1) := List.drop_eq_getElem_cons hi
      have hsub : Builtin.Str.subAt (sx l) (sx [c]) i = (l[i] == c) := by
        unfold Builtin.Str.subAt
        have : (sx l).cps.extract i (i + (sx [c]).length) = #[l[i]] := by
          apply Array.ext
          · simp [sx, Str.length]; omega
          · intro k h3 h4
            have : k = 0 := by simpa using h4
            subst this
            simp [sx]
        rw [this]
        simp [sx]
      by_cases hc : l[i] = c
      · have cond : ((st.1.size < lim ∧ st.2 ≤ i) ∧ i + (sx [c]).length ≤ l.length) ∧ Builtin.Str.subAt (sx l) (sx [c]) i = true := ⟨⟨⟨by omega, h2⟩, by rw [sx_len]; simp; omega⟩, by rw [hsub]; simpa using hc⟩
        simp only [StrLaws.occBody, if_pos cond]
        have := occ_step l c lim hl n (i + 1) (st.1.push i, i + (sx [c]).length) (by omega) (by simp; omega) (by rw [sx_len]; simp)
        refine this.trans ?_
        rw [e1, List.count_cons]
        simp [hc]
        omega
      · have cond : ¬ (((st.1.size < lim ∧ st.2 ≤ i) ∧ i + (sx [c]).length ≤ l.length) ∧ Builtin.Str.subAt (sx l) (sx [c]) i = true) := fun q => by
          rw [hsub] at q
          exact hc (by simpa using q.2)
        simp only [StrLaws.occBody, if_neg cond]
        have := occ_step l c lim hl n (i + 1) st (by omega) (by omega) (by omega)
        refine this.trans ?_
        rw [e1, List.count_cons]
        simp [hc]
    · have cond : ¬ (((st.1.size < lim ∧ st.2 ≤ i) ∧ i + (sx [c]).length ≤ l.length) ∧ Builtin.Str.subAt (sx l) (sx [c]) i = true) := fun q => by
        have := q.1.2
        rw [sx_len] at this
        simp at this
        omega
      simp only [StrLaws.occBody, if_neg cond]
      have := occ_step l c lim hl n (i + 1) st (by omega) (by omega) (by omega)
      refine this.trans ?_
      rw [List.drop_eq_nil_of_le (show l.length ≤ i + 1 by omega), List.drop_eq_nil_of_le (show l.length ≤ i by omega)]
theorem sx_count {l : List Nat} {c : Nat} : Txt.count (sx l) (sx [c]) = (l.count c : Nat) := by
  unfold Txt.count
  rw [StrLaws.occ_eq, sx_len]
  have := occ_step l c (l.length + 1) (by omega) (l.length + 1) 0 (#[], 0) (by omega) (by simp) (by simp)
  rw [Array.length_toList]
  simp only [Nat.sub_zero]
  rw [this]
  simp
theorem meth_count {l : List Nat} {c : Nat} : dMeth "count" (.str (sx l)) [.str (sx [c])] = some (.d (.int (l.count c : Nat))) := by
  unfold dMeth
  rw [if_neg (by decide), if_pos rfl, ← sx_count]
theorem in_sign {l : List Nat} {c : Nat} : dIn (.str (sx [c])) (.str (sx l)) = some (decide (c ∈ l)) := by
  unfold dIn
  simp only
  rw [if_pos (by simp [sx])]
  simp [sx]
end Ek

/-! ## V: loops and comprehensions over typed lists -/
namespace Ek
open PySem L2
/-- a plain Prop around what is asked (for subst) -/
def Pr (p : Prop) : Prop := p
theorem Pr_u {p : Prop} : Pr p = p := rfl
theorem forE {α : Type} {s0 : S} {tg : GF} {body : SF} {Q : Fl → S → Prop} {l : List α} {f : α → D} (I : List α → S → Prop) :
    ∀ (pre post : List α) (s : S), l = pre ++ post → I pre (mask s0 s) →
    (∀ pre a post s, l = pre ++ a :: post → I pre s → Wg (tg (f a) s) fun s => Wp (body s) fun fl s' => Lp fl (I (pre ++ [a]) (mask s0 s')) (Q .nx (mask s0 s')) fun u => Q (.rt u) s') →
    (∀ s, I l s → Q .nx s) → Wp (forL s0 tg body (post.map f) s) Q
  | pre, [], s, hl, h0, hb, q => by
    rw [List.map_nil, w_forL0]
    rw [List.append_nil] at hl
    subst hl
    exact q _ h0
  | pre, a :: post, s, hl, h0, hb, q => by
    rw [List.map_cons, w_forL1]
    obtain ⟨s1, e1, fl, s2, e2, h⟩ := hb pre a post _ hl h0
    refine ⟨s1, e1, fl, s2, e2, ?_⟩
    cases fl with
    | nx => exact forE I (pre ++ [a]) post s2 (by simp [hl]) h hb q
    | ct => exact forE I (pre ++ [a]) post s2 (by simp [hl]) h hb q
    | bk => exact h
    | rt u => exact h
    | rw u => exact h.elim
/-- a loop over l: the state as a relation of what was taken -/
theorem for_rel {α : Type} {s0 s : S} {tg : GF} {body : SF} {Q : Fl → S → Prop} (l : List α) (f : α → D) (I : List α → S → Prop) (h0 : I [] (mask s0 s))
    (hb : ∀ pre a post s, l = pre ++ a :: post → I pre s → Pr (Wg (tg (f a) s) fun s => Wp (body s) fun fl s' => Lp fl (I (pre ++ [a]) (mask s0 s')) (Q .nx (mask s0 s')) fun u => Q (.rt u) s'))
    (q : ∀ s, I l s → Pr (Q .nx s)) : Wp (forL s0 tg body (l.map f) s) Q := forE (l := l) I [] l s rfl h0 hb q
/-- .. as a function of what was taken -/
theorem for_pre {α : Type} {s0 s : S} {tg : GF} {body : SF} {Q : Fl → S → Prop} (l : List α) (f : α → D) (st : List α → S) (h0 : mask s0 s = st [])
    (hb : ∀ pre a post, l = pre ++ a :: post → Wg (tg (f a) (st pre)) fun s => Wp (body s) fun fl s' => Lp fl (mask s0 s' = st (pre ++ [a])) (Q .nx (mask s0 s')) fun u => Q (.rt u) s')
    (q : Q .nx (st l)) : Wp (forL s0 tg body (l.map f) s) Q :=
  for_rel l f (fun pre s => s = st pre) h0 (fun pre a post s hl hs => by subst hs; exact hb pre a post hl) fun s hs => by subst hs; exact q
theorem wipeS_set {s : S} : ∀ {own : List Nat} {j : Nat} {x : Option R}, j ∈ own → wipeS (s.set j x) own = wipeS s own
  | [], _, _, h => by cases h
  | i :: own, j, x, h => by
    rw [wipe1, wipe1]
    by_cases hij : j ∈ own
    · rw [wipeS_set hij]
    · have : j = i := by
        rcases List.mem_cons.mp h with h | h
        · exact h
        · exact absurd h hij
      subst this
      have comm : ∀ (own : List Nat), j ∉ own → wipeS (s.set j x) own = (wipeS s own).set j x := fun own => by
        induction own with
        | nil => intro _; rfl
        | cons k own ih =>
          intro hk
          rw [wipe1, wipe1, ih (fun z => hk (List.mem_cons_of_mem _ z))]
          exact List.set_comm _ _ (fun z => hk (by subst z; exact List.mem_cons_self))
      rw [comm own hij, List.set_set]
theorem wipeS_idem {s : S} : ∀ (own own' : List Nat), (∀ i ∈ own, i ∈ own') → wipeS (wipeS s own) own' = wipeS s own'
  | [], _, _ => rfl
  | i :: own, own', h => by
    rw [wipe1, wipeS_set (h i List.mem_cons_self)]
    exact wipeS_idem own own' fun j hj => h j (List.mem_cons_of_mem _ hj)
theorem backS_set {s0 s : S} : ∀ {own : List Nat} {j : Nat} {x : Option R}, j ∈ own → backS s0 (s.set j x) own = backS s0 s own
  | [], _, _, h => by cases h
  | i :: own, j, x, h => by
    rw [back1, back1]
    by_cases hij : j ∈ own
    · rw [backS_set hij]
    · have : j = i := by
        rcases List.mem_cons.mp h with h | h
        · exact h
        · exact absurd h hij
      subst this
      have comm : ∀ (own : List Nat), j ∉ own → backS s0 (s.set j x) own = (backS s0 s own).set j x := fun own => by
        induction own with
        | nil => intro _; rfl
        | cons k own ih =>
          intro hk
          rw [back1, back1, ih (fun z => hk (List.mem_cons_of_mem _ z))]
          exact List.set_comm _ _ (fun z => hk (by subst z; exact List.mem_cons_self))
      rw [comm own hij, List.set_set]
theorem backS_wipe {s0 s : S} : ∀ (own own' : List Nat), (∀ i ∈ own, i ∈ own') → backS s0 (wipeS s own) own' = backS s0 s own'
  | [], _, _ => rfl
  | i :: own, own', h => by
    rw [wipe1, backS_set (h i List.mem_cons_self)]
    exact backS_wipe own own' fun j hj => h j (List.mem_cons_of_mem _ hj)
theorem lcE {α : Type} {tg : GF} {t : TF} {elt : XF} {own : List Nat} {l : List α} {f : α → D} {P : List D → S → Prop} (I : List α → List D → S → Prop)
    (hb : ∀ pre a post acc s, l = pre ++ a :: post → I pre acc s → Wg (tg (f a) s) fun s1 => Wp (t s1) fun b s2 => Br (b = true) (Wp (cFz elt s2) fun y s3 => Ck (acc.length < szMax) (I (pre ++ [a]) (acc ++ [y]) (wipeS s3 own))) (I (pre ++ [a]) acc (wipeS s2 own)))
    (q : ∀ zs s, I l zs (wipeS s own) → P zs s) : ∀ (pre post : List α) (acc : List D) (s : S), l = pre ++ post → I pre acc (wipeS s own) → Wp (lcL tg t elt own (post.map f) acc s) P
  | pre, [], acc, s, hl, h0 => by
    rw [List.map_nil, w_lcL0]
    rw [List.append_nil] at hl
    subst hl
    exact q _ _ h0
  | pre, a :: post, acc, s, hl, h0 => by
    rw [List.map_cons, w_lcL1]
    obtain ⟨s1, e1, b, s2, e2, h⟩ := hb pre a post acc _ hl h0
    refine ⟨s1, e1, b, s2, e2, ?_⟩
    obtain ⟨h1, h2⟩ := h
    refine ⟨fun hc => ?_, fun hc => ?_⟩
    · obtain ⟨y, s3, e3, h3, h4⟩ := h1 hc
      exact ⟨y, s3, e3, h3, lcE I hb q (pre ++ [a]) post _ s3 (by simp [hl]) h4⟩
    · exact lcE I hb q (pre ++ [a]) post _ s2 (by simp [hl]) (h2 hc)
/-- a comprehension over l: what was gathered and the state as a relation of what was taken -/
theorem lc_rel {α : Type} {tg : GF} {t : TF} {elt : XF} {own : List Nat} {s : S} {K : List D → S → Prop} (l : List α) (f : α → D) (I : List α → List D → S → Prop) (h0 : I [] [] (wipeS s own))
    (hb : ∀ pre a post acc s, l = pre ++ a :: post → I pre acc s → Pr (Wg (tg (f a) s) fun s1 => Wp (t s1) fun b s2 => Br (b = true) (Wp (cFz elt s2) fun y s3 => Ck (acc.length < szMax) (I (pre ++ [a]) (acc ++ [y]) (wipeS s3 own))) (I (pre ++ [a]) acc (wipeS s2 own))))
    (q : ∀ zs s', I l zs s' → Pr (K zs (backS s s' own))) : Wp (lcL tg t elt own (l.map f) [] s) fun zs s' => Ws (backS s s' own) fun s => K zs s :=
  lcE (l := l) I hb (fun zs s' h => by
    have := q zs _ h
    rw [backS_wipe own own fun _ h => h] at this
    exact this) [] l [] s rfl h0
/-- .. whose parts change nothing -/
theorem lc_typ {α : Type} {tg : GF} {t : TF} {elt : XF} {own : List Nat} {s : S} {K : List D → S → Prop} (l : List α) (f : α → D) (p : α → Bool) (g : α → D) (hl : l.length ≤ 1000000)
    (hb : ∀ a ∈ l, Wg (tg (f a) (wipeS s own)) fun s1 => Wp (t s1) fun b s2 => b = p a ∧ Br (b = true) (Wp (cFz elt s2) fun y s3 => y = g a ∧ wipeS s3 own = wipeS s own) (wipeS s2 own = wipeS s own))
    (q : K ((l.filter p).map g) (backS s (wipeS s own) own)) : Wp (lcL tg t elt own (l.map f) [] s) fun zs s' => Ws (backS s s' own) fun s => K zs s :=
  lc_rel l f (fun pre acc s' => acc = (pre.filter p).map g ∧ s' = wipeS s own) ⟨rfl, rfl⟩ (fun pre a post acc s' e h => by
    obtain ⟨ea, es⟩ := h
    obtain ⟨s1, e1, b, s2, e2, z2, h1, h2⟩ := hb a (by rw [e]; simp)
    subst z2
    refine ⟨_, by rw [es]; exact e1, _, _, e2, fun hc => ?_, fun hc => ?_⟩
    · obtain ⟨y, s3, e3, z4, z5⟩ := h1 hc
      subst z4
      refine ⟨_, _, e3, ?_, ?_, z5⟩
      · rw [ea]
        have h5 : ((pre.filter p).map g).length ≤ pre.length := by rw [List.length_map]; exact List.length_filter_le _ _
        have h6 : pre.length < l.length := by rw [e]; simp
        exact Nat.lt_of_le_of_lt h5 (Nat.lt_of_lt_of_le h6 hl)
      · rw [ea, List.filter_append, List.map_append]
        simp [List.filter, hc]
    · refine ⟨?_, h2 hc⟩
      rw [ea, List.filter_append, List.map_append]
      simp [List.filter, hc]) fun zs s' h => by
    rw [h.1, h.2]
    exact q
/-- .. without a test -/
theorem lc_all {α : Type} {tg : GF} {elt : XF} {own : List Nat} {s : S} {K : List D → S → Prop} (l : List α) (f : α → D) (g : α → D) (hl : l.length ≤ 1000000)
    (hb : ∀ a ∈ l, Wg (tg (f a) (wipeS s own)) fun s1 => Wp (cFz elt s1) fun y s3 => y = g a ∧ wipeS s3 own = wipeS s own)
    (q : K (l.map g) (backS s (wipeS s own) own)) : Wp (lcL tg tTrue elt own (l.map f) [] s) fun zs s' => Ws (backS s s' own) fun s => K zs s :=
  lc_typ l f (fun _ => true) g hl (fun a ha => by
    obtain ⟨s1, e1, y, s3, e3, h1, h2⟩ := hb a ha
    exact ⟨s1, e1, true, s1, rfl, rfl, ⟨fun _ => ⟨y, s3, e3, h1, h2⟩, fun z => absurd rfl z⟩⟩) (by rw [List.filter_eq_self.mpr (fun _ _ => rfl)]; exact q)
theorem range_map {n : Nat} : rangeD 0 (n : Int) = (List.range n).map fun (k : Nat) => .int (k : Int) := by
  unfold rangeD
  simp
theorem range_map2 {m n : Nat} : rangeD (m : Int) (n : Int) = (List.range' m (n - m)).map fun (k : Nat) => .int (k : Int) := by
  unfold rangeD
  have e : ((n : Int) - m).toNat = n - m := by omega
  rw [e, List.range'_eq_map_range, List.map_map]
  apply List.map_congr_left
  intro k _
  simp
theorem atI_mem {α : Type} {l : List α} {i : Int} (h0 : 0 ≤ i) (h1 : i < l.length) : ∃ x, atI l i = some x ∧ x ∈ l := by
  have e : ((i.toNat : Nat) : Int) = i := by omega
  have hl : i.toNat < l.length := by omega
  refine ⟨l[i.toNat], ?_, List.getElem_mem hl⟩
  have := atI_of hl
  rw [e] at this
  rw [this, List.getElem?_eq_getElem hl]
theorem atI_some {α : Type} {l : List α} {k : Nat} {x : α} (h : l[k]? = some x) : atI l (k : Int) = some x := by
  rw [atI_of (List.getElem?_eq_some_iff.mp h).1]; exact h
theorem bls_map {α : Type} (p : α → Bool) : ∀ l : List α, bls? (l.map fun a => .bool (p a)) = some (l.map p)
  | [] => rfl
  | a :: l => by simp [bls?, bls_map p l]
theorem ints_map {α : Type} (p : α → Int) : ∀ l : List α, ints? (l.map fun a => .int (p a)) = some (l.map p)
  | [] => rfl
  | a :: l => by simp [ints?, ints_map p l]
/-! ### the second way of drawing -/
structure PotB (b : Int) (ns : List Int) : Prop where
  ex : ∃ p0 p1 p2 p3 r, ns = p0 :: p1 :: p2 :: p3 :: r ∧ 0 ≤ p0 ∧ 0 ≤ p1 ∧ p1 < 4611686018427387847 ∧ 0 ≤ p2 ∧ p2 ≤ b ∧ 4 ≤ p3
theorem PotB.up {b c : Int} {ns : List Int} (h : PotB b ns) (hc : b ≤ c) : PotB c ns := by
  obtain ⟨p0, p1, p2, p3, r, e, h0, h1, h2, h3, h4, h5⟩ := h.ex
  exact ⟨p0, p1, p2, p3, r, e, h0, h1, h2, h3, by omega, h5⟩
theorem potB_cell {p0 p1 p2 p3 : Int} {r : List Int} (h : 4 ≤ p3) (h2 : p3 < (r.length + 1 + 1 + 1 + 1 : Nat)) : ∃ c : Int, atI (PyData.int p0 :: .int p1 :: .int p2 :: .int p3 :: r.map .int) p3 = some (.int c) := by
  have hl : p3 < ((p0 :: p1 :: p2 :: p3 :: r).map PyData.int).length := by simp; omega
  obtain ⟨x, e, hx⟩ := atI_mem (l := (p0 :: p1 :: p2 :: p3 :: r).map PyData.int) (by omega) hl
  obtain ⟨c, _, rfl⟩ := List.mem_map.mp hx
  exact ⟨c, e⟩
end Ek
namespace Ek
open PySem L2
/-- data of a depth -/
inductive Dn : Nat → D → Prop where
  | non {n : Nat} : Dn n .none
  | bool {n : Nat} {b : Bool} : Dn n (.bool b)
  | int {n : Nat} {i : Int} : Dn n (.int i)
  | str {n : Nat} {x : Str} (h : ∀ c ∈ x.cps.toList, c < 1114112) : Dn n (.str x)
  | tup {n : Nat} {xs : List D} (hl : xs.length ≤ 1000000) (h : ∀ x ∈ xs, Dn n x) : Dn (n + 1) (.tuple xs)
  | lst {n : Nat} {xs : List D} (hl : xs.length ≤ 1000000) (h : ∀ x ∈ xs, Dn n x) : Dn (n + 1) (.list xs)
theorem Dn.up {n m : Nat} {x : D} (h : Dn n x) (hm : n ≤ m) : Dn m x := by
  induction h generalizing m with
  | non => exact .non
  | bool => exact .bool
  | int => exact .int
  | str h => exact .str h
  | tup hl h ih =>
    obtain ⟨k, rfl⟩ : ∃ k, m = k + 1 := ⟨m - 1, by omega⟩
    exact .tup hl fun x hx => ih x hx (by omega)
  | lst hl h ih =>
    obtain ⟨k, rfl⟩ : ∃ k, m = k + 1 := ⟨m - 1, by omega⟩
    exact .lst hl fun x hx => ih x hx (by omega)
theorem okR_nat {n : Nat} (h : n ≤ 1000000) : okR (n : Int) = true := by unfold okR; simp; omega
theorem lay_all {n : Nat} : ∀ {xs : List D}, (∀ x ∈ xs, x.canLay0 = true ∧ x.depth ≤ n) → PyData.canLayAll0 xs = true ∧ PyData.depthAll xs ≤ n
  | [], _ => ⟨rfl, Nat.zero_le _⟩
  | x :: xs, h => by
    obtain ⟨h1, h2⟩ := h x List.mem_cons_self
    obtain ⟨h3, h4⟩ := lay_all fun y hy => h y (List.mem_cons_of_mem _ hy)
    refine ⟨?_, ?_⟩
    · show (x.canLay0 && PyData.canLayAll0 xs) = true
      rw [h1, h3]; rfl
    · show max x.depth (PyData.depthAll xs) ≤ n
      omega
theorem Dn.lay {n : Nat} {x : D} (h : Dn n x) : x.canLay0 = true ∧ x.depth ≤ n := by
  induction h with
  | non => exact ⟨rfl, Nat.zero_le _⟩
  | bool => exact ⟨rfl, Nat.zero_le _⟩
  | int => exact ⟨rfl, Nat.zero_le _⟩
  | str h =>
    refine ⟨?_, Nat.zero_le _⟩
    show PyData.strOk _ = true
    unfold PyData.strOk
    rw [Array.all_eq_true_iff_forall_mem]
    intro c hc
    exact decide_eq_true (h c (by simpa using hc))
  | tup hl h ih =>
    obtain ⟨h1, h2⟩ := lay_all ih
    exact ⟨h1, Nat.succ_le_succ h2⟩
  | lst hl h ih =>
    obtain ⟨h1, h2⟩ := lay_all ih
    exact ⟨h1, Nat.succ_le_succ h2⟩
theorem Dn.shaped {n : Nat} {x : D} (h : Dn n x) (hn : n ≤ 64) : SeqAt.shaped x = true := by
  obtain ⟨h1, h2⟩ := h.lay
  unfold SeqAt.shaped
  rw [h1, decide_eq_true (Nat.le_trans h2 hn)]; rfl
theorem Dn.sx {n : Nat} {l : List Nat} (h : ∀ c ∈ l, c < 1114112) : Dn n (.str (sx l)) := .str (by rw [sx_cps]; exact h)
theorem Dn.tup2 {n : Nat} {x y : D} (hx : Dn n x) (hy : Dn n y) : Dn (n + 1) (.tuple [x, y]) := .tup (by simp) fun z hz => by
  simp at hz
  rcases hz with rfl | rfl
  · exact hx
  · exact hy
theorem dl0 {n : Nat} : ∀ x ∈ ([] : List D), Dn n x := fun _ h => nomatch h
theorem dl1 {n : Nat} {x : D} {l : List D} (h : Dn n x) (t : ∀ y ∈ l, Dn n y) : ∀ y ∈ x :: l, Dn n y := List.forall_mem_cons.mpr ⟨h, t⟩
/-- two fors over typed lists -/
theorem lc2_typ {α β : Type} {tg tg1 : GF} {it1 : AF} {t1 : TF} {elt : XF} {own own1 : List Nat} {s : S} {K : List D → S → Prop} (l : List α) (f : α → D) (m : α → List β) (h : β → D) (p : α → β → Bool) (g : α → β → D) (N : Nat) (hN : ∀ a ∈ l, (m a).length ≤ N) (hl : l.length * N ≤ 1000000) (ho : ∀ i ∈ own1, i ∈ own)
    (hb : ∀ a ∈ l, Wg (tg (f a) (wipeS s own)) fun s1 => Wp (it1 s1) fun ys s2 => ys = (m a).map h ∧ wipeS s2 own = wipeS s own ∧ ∀ b ∈ m a, Wg (tg1 (h b) (wipeS s2 own1)) fun s3 => Wp (t1 s3) fun c s4 => c = p a b ∧ Br (c = true) (Wp (cFz elt s4) fun y s5 => y = g a b ∧ wipeS s5 own1 = wipeS s2 own1) (wipeS s4 own1 = wipeS s2 own1))
    (q : K (l.flatMap fun a => ((m a).filter (p a)).map (g a)) (backS s (wipeS s own) own)) : Wp (lc2L tg tTrue it1 own1 tg1 t1 elt own (l.map f) [] s) fun zs s' => Ws (backS s s' own) fun s => K zs s := by
  have inner : ∀ a ∈ l, ∀ (s2 : S) (acc : List D) (s' : S), acc.length + (m a).length ≤ 1000000 → s' = s2 → (∀ b ∈ m a, Wg (tg1 (h b) (wipeS s2 own1)) fun s3 => Wp (t1 s3) fun c s4 => c = p a b ∧ Br (c = true) (Wp (cFz elt s4) fun y s5 => y = g a b ∧ wipeS s5 own1 = wipeS s2 own1) (wipeS s4 own1 = wipeS s2 own1)) →
      Wp (lcL tg1 t1 elt own1 ((m a).map h) acc s') fun zs s3 => zs = acc ++ ((m a).filter (p a)).map (g a) ∧ wipeS s3 own1 = wipeS s2 own1 := fun a ha s2 acc s' hsz es hi => by
    subst es
    refine lcE (l := m a) (I := fun pre zs s3 => zs = acc ++ (pre.filter (p a)).map (g a) ∧ s3 = wipeS s' own1) (fun pre b post zs s3 e hz => ?_) (fun zs s3 hz => hz) [] (m a) acc s' rfl ⟨by simp, rfl⟩
    obtain ⟨ea, es⟩ := hz
    obtain ⟨s4, e4, c, s5, e5, z2, h1, h2⟩ := hi b (by rw [e]; simp)
    subst z2
    refine ⟨_, by rw [es]; exact e4, _, _, e5, fun hc => ?_, fun hc => ?_⟩
    · obtain ⟨y, s6, e6, z4, z5⟩ := h1 hc
      subst z4
      refine ⟨_, _, e6, ?_, ?_, z5⟩
      · rw [ea]
        have h5 : ((pre.filter (p a)).map (g a)).length ≤ pre.length := by rw [List.length_map]; exact List.length_filter_le _ _
        have h6 : pre.length < (m a).length := by rw [e]; simp
        rw [List.length_append]
        show _ < 1000000
        omega
      · rw [ea, List.filter_append, List.map_append]
        simp [List.filter, hc]
    · refine ⟨?_, h2 hc⟩
      rw [ea, List.filter_append, List.map_append]
      simp [List.filter, hc]
  have outer : ∀ (post pre : List α) (s' : S), l = pre ++ post → wipeS s' own = wipeS s own →
      Wp (lc2L tg tTrue it1 own1 tg1 t1 elt own (post.map f) (pre.flatMap fun a => ((m a).filter (p a)).map (g a)) s') fun zs s3 => zs = (l.flatMap fun a => ((m a).filter (p a)).map (g a)) ∧ wipeS s3 own = wipeS s own := by
    intro post
    induction post with
    | nil =>
      intro pre s' e hs
      rw [List.append_nil] at e
      rw [List.map_nil, w_lc2L0]
      exact ⟨by rw [e], hs⟩
    | cons a post ih =>
      intro pre s' e hs
      have ha : a ∈ l := by rw [e]; simp
      rw [List.map_cons, w_lc2L1]
      obtain ⟨s1, e1, ys, s2, e2, z1, z2, hi⟩ := hb a ha
      subst z1
      have hlen : ∀ pre' : List α, (∀ x ∈ pre', x ∈ l) → (pre'.flatMap fun a => ((m a).filter (p a)).map (g a)).length ≤ pre'.length * N := fun pre' => by
        induction pre' with
        | nil => intro _; simp
        | cons x r ih =>
          intro hx
          have h1 := ih fun y hy => hx y (List.mem_cons_of_mem _ hy)
          have h2 := hN x (hx x List.mem_cons_self)
          have h3 := List.length_filter_le (p x) (m x)
          rw [List.flatMap_cons, List.length_append, List.length_map, List.length_cons, Nat.add_mul]
          omega
      have h1 := hlen pre fun x hx => by rw [e]; simp [hx]
      have h2 := hN a ha
      have h3 : pre.length + 1 ≤ l.length := by rw [e]; simp
      have h4 := Nat.mul_le_mul_right N h3
      rw [Nat.add_mul] at h4
      obtain ⟨zs, s3, e3, z3, z4⟩ := inner a ha s2 (pre.flatMap fun a => ((m a).filter (p a)).map (g a)) s2 (by omega) rfl hi
      refine ⟨s1, by rw [hs]; exact e1, true, s1, rfl, ⟨fun _ => ⟨_, s2, e2, zs, s3, e3, ?_⟩, fun z => absurd rfl z⟩⟩
      subst z3
      have := ih (pre ++ [a]) s3 (by simp [e]) (by
        have h5 : wipeS (wipeS s3 own1) own = wipeS (wipeS s2 own1) own := by rw [z4]
        rw [wipeS_idem own1 own ho, wipeS_idem own1 own ho] at h5
        rw [h5, z2])
      rw [List.flatMap_append] at this
      simpa using this
  obtain ⟨zs, s3, e3, z3, z4⟩ := outer l [] s rfl rfl
  subst z3
  refine ⟨_, s3, e3, ?_⟩
  have : backS s s3 own = backS s (wipeS s own) own := by
    rw [← z4, backS_wipe own own fun _ h => h]
  show K _ (backS s s3 own)
  rw [this]
  exact q
theorem cutD_one {α : Type} {l : List α} : Ek.cutD l (some 1) none = l.drop 1 := by
  unfold Ek.cutD
  have e : HT.sIx l.length 0 (some 1) = min 1 l.length := HT.sIx_nat l.length 0 1
  rw [e, HT.sIx_none]
  cases l with
  | nil => rfl
  | cons a l => simp
end Ek

/-! ## W: Pauli words -/
namespace Ek
open PySem L2
inductive Lt where
  | I | X | Y | Z
  deriving DecidableEq
def cd : Lt → Nat
  | .I => 73 | .X => 88 | .Y => 89 | .Z => 90
theorem cd_inj {a b : Lt} (h : cd a = cd b) : a = b := by cases a <;> cases b <;> first | rfl | (cases h)
def s1 (a : Lt) : Str := sx [cd a]
def wd (l : List Lt) : Str := sx (l.map cd)
def pw (e : Int) (l : List Lt) : D := .tuple [.int e, .str (wd l)]
def fX : Lt → Nat
  | .X => 1 | .Y => 1 | _ => 0
def tZ : Lt → Nat
  | .Y => 1 | .Z => 1 | _ => 0
/-- the letter and the power of i of a product -/
def ml : Lt → Lt → Lt
  | .I, b => b
  | a, .I => a
  | .X, .X => .I | .X, .Y => .Z | .X, .Z => .Y
  | .Y, .X => .Z | .Y, .Y => .I | .Y, .Z => .X
  | .Z, .X => .Y | .Z, .Y => .X | .Z, .Z => .I
def ph : Lt → Lt → Int
  | .X, .Y => 1 | .Y, .Z => 1 | .Z, .X => 1
  | .Y, .X => 3 | .Z, .Y => 3 | .X, .Z => 3
  | _, _ => 0
def pms (l m : List Lt) : List Lt := List.zipWith ml l m
def pes (l m : List Lt) : Int := (List.zipWith ph l m).sum
theorem wd_len {l : List Lt} : (wd l).length = l.length := by simp [wd, sx_len]
theorem wd_chars {l : List Lt} : chars (wd l) = l.map fun a => .str (s1 a) := by
  unfold wd; rw [sx_chars, List.map_map]; rfl
theorem wd_zip : ∀ {l m : List Lt}, zipD (chars (wd l)) (chars (wd m)) = (l.zip m).map fun p => .tuple [.str (s1 p.1), .str (s1 p.2)] := by
  intro l m
  rw [wd_chars, wd_chars]
  unfold zipD
  rw [List.zipWith_map, List.zip, List.map_zipWith]
theorem wd_join {l : List Lt} : (l.map fun a => [cd a]).flatten = l.map cd := by
  induction l with
  | nil => rfl
  | cons a l ih => simp [ih]
end Ek
namespace Ek
open PySem L2
theorem atI_getD {α : Type} {l : List α} {f : α → D} {k : Nat} {d : α} (h : k < l.length) : atI (l.map f) (k : Int) = some (f (l.getD k d)) := by
  rw [atI_of (by simpa using h), List.getElem?_map, List.getElem?_eq_getElem h]
  simp [List.getD, List.getElem?_eq_getElem h]
theorem range_zip {α β γ : Type} (F : α → β → γ) (d : α) (d' : β) : ∀ (l : List α) (m : List β), l.length = m.length → (List.range l.length).map (fun k => F (l.getD k d) (m.getD k d')) = List.zipWith F l m
  | [], [], _ => rfl
  | a :: l, b :: m, h => by
    have ih := range_zip F d d' l m (by simpa using h)
    rw [List.length_cons, List.range_succ_eq_map, List.map_cons, List.map_map]
    rw [List.zipWith_cons_cons, ← ih]
    rfl
theorem range_one {α γ : Type} (F : α → γ) (d : α) (l : List α) : (List.range l.length).map (fun k => F (l.getD k d)) = l.map F := by
  have := range_zip (fun a (_ : α) => F a) d d l l rfl
  rw [this]
  induction l with
  | nil => rfl
  | cons a l ih => simp_all
def yY : Lt → Int
  | .Y => 1 | _ => 0
theorem count_Y : ∀ l : List Lt, (((l.map cd).count 89 : Nat) : Int) = (l.map yY).sum
  | [] => rfl
  | a :: l => by
    have ih := count_Y l
    rw [List.map_cons, List.count_cons, List.map_cons, List.sum_cons, ← ih]
    cases a <;> simp [cd, yY] <;> omega
theorem count_I : ∀ l : List Lt, ((l.map cd).count 73 : Nat) + (l.filter (fun a => decide (a ≠ .I))).length = l.length
  | [] => rfl
  | a :: l => by
    have ih := count_I l
    rw [List.map_cons, List.count_cons, List.filter_cons]
    cases a <;> simp [cd] at ih ⊢ <;> omega
theorem xor_fX (a b : Lt) : Builtin.bitXor (fX a : Nat) (fX b : Nat) = (fX (ml a b) : Nat) := by cases a <;> cases b <;> decide +kernel
theorem xor_tZ (a b : Lt) : Builtin.bitXor (tZ a : Nat) (tZ b : Nat) = (tZ (ml a b) : Nat) := by cases a <;> cases b <;> decide +kernel
/-- the power of i by bits -/
theorem pes_bits : ∀ (l m : List Lt), l.length = m.length → ((l.map yY).sum + (m.map yY).sum + 2 * (List.zipWith (fun a b => ((tZ a : Nat) : Int) * (fX b : Nat)) l m).sum - ((pms l m).map yY).sum - pes l m) % 4 = 0
  | [], [], _ => by decide
  | a :: l, b :: m, h => by
    have ih := pes_bits l m (by simpa using h)
    have one : (yY a + yY b + 2 * (((tZ a : Nat) : Int) * (fX b : Nat)) - yY (ml a b) - ph a b) % 4 = 0 := by cases a <;> cases b <;> decide
    simp only [pms, pes, List.map_cons, List.zipWith_cons_cons, List.sum_cons] at ih ⊢
    omega
theorem pms_len {l m : List Lt} (h : m.length = l.length) : (pms l m).length = l.length := by unfold pms; rw [List.length_zipWith]; omega
theorem pms_assoc : ∀ l m n : List Lt, pms (pms l m) n = pms l (pms m n)
  | [], _, _ => rfl
  | _ :: _, [], _ => rfl
  | _ :: _, _ :: _, [] => rfl
  | a :: l, b :: m, c :: n => by
    have ih := pms_assoc l m n
    simp only [pms, List.zipWith_cons_cons] at ih ⊢
    rw [ih]
    congr 1
    cases a <;> cases b <;> cases c <;> rfl
theorem pes_assoc : ∀ l m n : List Lt, l.length = m.length → m.length = n.length → (pes l m + pes (pms l m) n) % 4 = (pes m n + pes l (pms m n)) % 4
  | [], [], [], _, _ => rfl
  | a :: l, b :: m, c :: n, h, h' => by
    have ih := pes_assoc l m n (by simpa using h) (by simpa using h')
    have one : (ph a b + ph (ml a b) c) % 4 = (ph b c + ph a (ml b c)) % 4 := by cases a <;> cases b <;> cases c <;> decide
    simp only [pms, pes, List.zipWith_cons_cons, List.sum_cons] at ih ⊢
    omega
theorem pms_comm : ∀ l m : List Lt, pms l m = pms m l
  | [], [] => rfl
  | [], _ :: _ => rfl
  | _ :: _, [] => rfl
  | a :: l, b :: m => by
    have ih := pms_comm l m
    simp only [pms, List.zipWith_cons_cons] at ih ⊢
    rw [ih]
    congr 1
    cases a <;> cases b <;> rfl
theorem Dn.wd {n : Nat} {l : List Lt} : Dn n (.str (wd l)) := Dn.sx fun c hc => by
  obtain ⟨a, _, rfl⟩ := List.mem_map.mp hc
  cases a <;> decide
theorem Dn.pw {n : Nat} {e : Int} {l : List Lt} : Dn (n + 1) (pw e l) := Dn.tup2 .int Dn.wd
end Ek

/-! ## Y: gates on Pauli words -/
namespace Ek
open PySem L2
inductive G1 where
  | h | s | sd | x | y | z
inductive G2 where
  | cx | cz | sw
def G1.nm : G1 → List Nat
  | .h => [104] | .s => [115] | .sd => [115, 100] | .x => [120] | .y => [121] | .z => [122]
def G2.nm : G2 → List Nat
  | .cx => [99, 120] | .cz => [99, 122] | .sw => [115, 119, 97, 112]
def l1 : G1 → Lt → Int × Lt
  | .h, .X => (0, .Z) | .h, .Y => (2, .Y) | .h, .Z => (0, .X)
  | .s, .X => (0, .Y) | .s, .Y => (2, .X)
  | .sd, .X => (2, .Y) | .sd, .Y => (0, .X)
  | .x, .Y => (2, .Y) | .x, .Z => (2, .Z)
  | .y, .X => (2, .X) | .y, .Z => (2, .Z)
  | .z, .X => (2, .X) | .z, .Y => (2, .Y)
  | _, a => (0, a)
def fs2 : G2 → Lt → Lt × Lt
  | _, .I => (.I, .I)
  | .cx, .X => (.X, .X) | .cx, .Y => (.Y, .X) | .cx, .Z => (.Z, .I)
  | .cz, .X => (.X, .Z) | .cz, .Y => (.Y, .Z) | .cz, .Z => (.Z, .I)
  | .sw, a => (.I, a)
def sc2 : G2 → Lt → Lt × Lt
  | _, .I => (.I, .I)
  | .cx, .X => (.I, .X) | .cx, .Y => (.Z, .Y) | .cx, .Z => (.Z, .Z)
  | .cz, .X => (.Z, .X) | .cz, .Y => (.Z, .Y) | .cz, .Z => (.I, .Z)
  | .sw, a => (a, .I)
def l2 (g : G2) (c d : Lt) : Int × Lt × Lt := ((ph (fs2 g c).1 (sc2 g d).1 + ph (fs2 g c).2 (sc2 g d).2) % 4, ml (fs2 g c).1 (sc2 g d).1, ml (fs2 g c).2 (sc2 g d).2)
inductive Gt where
  | w | one (g : G1) (a : Nat) | two (g : G2) (a b : Nat)
def Gt.ok (n : Nat) : Gt → Prop
  | .w => True
  | .one _ a => a < n
  | .two _ a b => a < n ∧ b < n ∧ a ≠ b
def gd : Gt → D
  | .w => .tuple [.str (sx [119])]
  | .one g a => .tuple [.str (sx g.nm), .int (a : Nat)]
  | .two g a b => .tuple [.str (sx g.nm), .int (a : Nat), .int (b : Nat)]
abbrev Wd := Int × List Lt
def act : Gt → Wd → Wd
  | .w, x => x
  | .one g a, x => ((x.1 + (l1 g (x.2.getD a .I)).1) % 4, x.2.set a (l1 g (x.2.getD a .I)).2)
  | .two g a b, x => ((x.1 + (l2 g (x.2.getD a .I) (x.2.getD b .I)).1) % 4, (x.2.set a (l2 g (x.2.getD a .I) (x.2.getD b .I)).2.1).set b (l2 g (x.2.getD a .I) (x.2.getD b .I)).2.2)
def tm (x y : Wd) : Wd := ((x.1 + y.1 + pes x.2 y.2) % 4, pms x.2 y.2)
theorem pms_set : ∀ (l m : List Lt) (a : Nat) (c d : Lt), pms (l.set a c) (m.set a d) = (pms l m).set a (ml c d)
  | [], m, a, c, d => by simp [pms]
  | x :: l, [], a, c, d => by simp [pms]
  | x :: l, y :: m, 0, c, d => rfl
  | x :: l, y :: m, a + 1, c, d => congrArg (ml x y :: ·) (pms_set l m a c d)
theorem pes_set : ∀ (l m : List Lt) (a : Nat) (c d : Lt), a < l.length → a < m.length → pes (l.set a c) (m.set a d) = pes l m - ph (l.getD a .I) (m.getD a .I) + ph c d
  | x :: l, y :: m, 0, c, d, _, _ => by
    simp only [pes, List.set_cons_zero, List.zipWith_cons_cons, List.sum_cons, List.getD_cons_zero]
    omega
  | x :: l, y :: m, a + 1, c, d, h1, h2 => by
    have ih := pes_set l m a c d (by simpa using h1) (by simpa using h2)
    simp only [pes] at ih
    simp only [pes, List.set_cons_succ, List.zipWith_cons_cons, List.sum_cons, List.getD_cons_succ]
    omega
theorem pms_getD : ∀ (l m : List Lt) (a : Nat), a < l.length → a < m.length → (pms l m).getD a .I = ml (l.getD a .I) (m.getD a .I)
  | x :: l, y :: m, 0, _, _ => rfl
  | x :: l, y :: m, a + 1, h1, h2 => pms_getD l m a (by simpa using h1) (by simpa using h2)
def lts : List Lt := [.I, .X, .Y, .Z]
theorem all4 {p : Lt → Bool} (h : lts.all p = true) (c : Lt) : p c = true := List.all_eq_true.mp h c (by cases c <;> simp [lts])
theorem one_ml (g : G1) (c d : Lt) : (l1 g (ml c d)).2 = ml (l1 g c).2 (l1 g d).2 := by cases g <;> cases c <;> cases d <;> rfl
theorem one_ph (g : G1) (c d : Lt) : (ph c d + (l1 g (ml c d)).1 - (l1 g c).1 - (l1 g d).1 - ph (l1 g c).2 (l1 g d).2) % 4 = 0 := by cases g <;> cases c <;> cases d <;> rfl
def two_t (g : G2) (c d c' d' : Lt) : Bool :=
  decide (cd (l2 g (ml c c') (ml d d')).2.1 = cd (ml (l2 g c d).2.1 (l2 g c' d').2.1)) && decide (cd (l2 g (ml c c') (ml d d')).2.2 = cd (ml (l2 g c d).2.2 (l2 g c' d').2.2)) &&
  decide ((ph c c' + ph d d' + (l2 g (ml c c') (ml d d')).1 - (l2 g c d).1 - (l2 g c' d').1 - ph (l2 g c d).2.1 (l2 g c' d').2.1 - ph (l2 g c d).2.2 (l2 g c' d').2.2) % 4 = 0)
theorem two_all (g : G2) (c d c' d' : Lt) : two_t g c d c' d' = true := by
  have h : (lts.all fun c => lts.all fun d => lts.all fun c' => lts.all fun d' => two_t g c d c' d') = true := by cases g <;> decide +kernel
  exact all4 (all4 (all4 (all4 h c) d) c') d'
theorem act_len {g : Gt} {x : Wd} : (act g x).2.length = x.2.length := by cases g <;> simp [act]
theorem act_tm {g : Gt} {n : Nat} {x y : Wd} (ok : g.ok n) (hx : x.2.length = n) (hy : y.2.length = n) : act g (tm x y) = tm (act g x) (act g y) := by
  cases g with
  | w => rfl
  | one g a =>
    have ha : a < n := ok
    have e1 := one_ml g (x.2.getD a .I) (y.2.getD a .I)
    have e2 := one_ph g (x.2.getD a .I) (y.2.getD a .I)
    have e3 := pms_getD x.2 y.2 a (by omega) (by omega)
    simp only [act, tm, pms_set, e3, e1, pes_set x.2 y.2 a _ _ (by omega : a < x.2.length) (by omega : a < y.2.length)]
    refine Prod.ext ?_ rfl
    simp only
    omega
  | two g a b =>
    obtain ⟨ha, hb, hab⟩ := ok
    have t := two_all g (x.2.getD a .I) (x.2.getD b .I) (y.2.getD a .I) (y.2.getD b .I)
    unfold two_t at t
    simp only [Bool.and_eq_true, decide_eq_true_eq] at t
    obtain ⟨⟨t1, t2⟩, t3⟩ := t
    have t1 := cd_inj t1
    have t2 := cd_inj t2
    have e3 := pms_getD x.2 y.2 a (by omega) (by omega)
    have e4 := pms_getD x.2 y.2 b (by omega) (by omega)
    have gx : ∀ (l : List Lt) c, (l.set a c).getD b .I = l.getD b .I := fun l c => by
      rw [List.getD_eq_getElem?_getD, List.getElem?_set, if_neg hab, ← List.getD_eq_getElem?_getD]
    simp only [act, tm, pms_set, e3, e4, t1, t2]
    rw [pes_set _ _ b _ _ (by simp; omega) (by simp; omega), pes_set x.2 y.2 a _ _ (by omega) (by omega), gx, gx]
    refine Prod.ext ?_ rfl
    simp only
    omega
/-- a word of n letters -/
structure WN (n : Nat) (x : Wd) : Prop where
  lo : 0 ≤ x.1
  hi : x.1 ≤ 3
  len : x.2.length = n
theorem mod3 (z : Int) : 0 ≤ z % 4 ∧ z % 4 ≤ 3 := ⟨Int.emod_nonneg _ (by decide), by have := Int.emod_lt_of_pos z (show (0 : Int) < 4 by decide); omega⟩
theorem WN.act {g : Gt} {n : Nat} {x : Wd} (h : WN n x) : WN n (act g x) := by
  cases g with
  | w => exact h
  | one g a => exact ⟨(mod3 _).1, (mod3 _).2, by rw [act_len]; exact h.len⟩
  | two g a b => exact ⟨(mod3 _).1, (mod3 _).2, by rw [act_len]; exact h.len⟩
theorem WN.tm {n : Nat} {x y : Wd} (hx : WN n x) (hy : WN n y) : WN n (tm x y) := ⟨(mod3 _).1, (mod3 _).2, by
  have h1 := hx.len
  have h2 := hy.len
  show (pms x.2 y.2).length = n
  rw [pms_len (by omega)]; exact h1⟩
def actL (gs : List Gt) (x : Wd) : Wd := gs.foldl (fun x g => act g x) x
theorem actL_app {gs hs : List Gt} {x : Wd} : actL (gs ++ hs) x = actL hs (actL gs x) := List.foldl_append
theorem WN.actL {n : Nat} : ∀ {gs : List Gt} {x : Wd}, WN n x → WN n (actL gs x)
  | [], _, h => h
  | _ :: gs, _, h => WN.actL (gs := gs) h.act
theorem actL_tm {n : Nat} : ∀ {gs : List Gt} {x y : Wd}, (∀ g ∈ gs, g.ok n) → WN n x → WN n y → actL gs (tm x y) = tm (actL gs x) (actL gs y)
  | [], _, _, _, _, _ => rfl
  | g :: gs, x, y, ok, hx, hy => by
    show actL gs (act g (tm x y)) = tm (actL gs (act g x)) (actL gs (act g y))
    rw [act_tm (ok g List.mem_cons_self) hx.len hy.len]
    exact actL_tm (fun g h => ok g (List.mem_cons_of_mem _ h)) hx.act hy.act
theorem act_mt {g : Gt} {n : Nat} {x y : Wd} (ok : g.ok n) (hx : WN n x) (hy : WN n y) : (pes (act g x).2 (act g y).2 - pes (act g y).2 (act g x).2) % 4 = (pes x.2 y.2 - pes y.2 x.2) % 4 := by
  have h1 := congrArg Prod.fst (act_tm ok hx.len hy.len)
  have h2 := congrArg Prod.fst (act_tm ok hy.len hx.len)
  cases g with
  | w => rfl
  | one g a =>
    simp only [tm, act] at h1 h2 ⊢
    rw [pms_comm y.2 x.2] at h2
    omega
  | two g a b =>
    simp only [tm, act] at h1 h2 ⊢
    rw [pms_comm y.2 x.2] at h2
    omega
theorem actL_mt {n : Nat} : ∀ {gs : List Gt} {x y : Wd}, (∀ g ∈ gs, g.ok n) → WN n x → WN n y → (pes (actL gs x).2 (actL gs y).2 - pes (actL gs y).2 (actL gs x).2) % 4 = (pes x.2 y.2 - pes y.2 x.2) % 4
  | [], _, _, _, _, _ => rfl
  | g :: gs, x, y, ok, hx, hy => by
    rw [← act_mt (ok g List.mem_cons_self) hx hy]
    exact actL_mt (gs := gs) (fun g h => ok g (List.mem_cons_of_mem _ h)) hx.act hy.act
/-! the way back -/
def iv : G1 → G1
  | .s => .sd | .sd => .s | g => g
def inv : Gt → List Gt
  | .w => List.replicate 7 .w
  | .one g a => [.one (iv g) a]
  | g => [g]
def undo (gs : List Gt) : List Gt := gs.reverse.flatMap inv
theorem iv_l1 (g : G1) (c : Lt) : ((l1 g c).1 + (l1 (iv g) (l1 g c).2).1) % 4 = 0 ∧ (l1 (iv g) (l1 g c).2).2 = c := by cases g <;> cases c <;> exact ⟨rfl, rfl⟩
theorem iv_l2 (g : G2) (c d : Lt) : ((l2 g c d).1 + (l2 g (l2 g c d).2.1 (l2 g c d).2.2).1) % 4 = 0 ∧ (l2 g (l2 g c d).2.1 (l2 g c d).2.2).2 = (c, d) := by cases g <;> cases c <;> cases d <;> exact ⟨rfl, rfl⟩
theorem getD_set_eq {l : List Lt} {a : Nat} {c : Lt} (h : a < l.length) : (l.set a c).getD a .I = c := by
  rw [List.getD_eq_getElem?_getD, List.getElem?_set_self h]; rfl
theorem getD_set_ne {l : List Lt} {a b : Nat} {c : Lt} (h : a ≠ b) : (l.set a c).getD b .I = l.getD b .I := by
  rw [List.getD_eq_getElem?_getD, List.getElem?_set, if_neg h, ← List.getD_eq_getElem?_getD]
theorem set_back {l : List Lt} {a : Nat} (h : a < l.length) : l.set a (l.getD a .I) = l := by
  rw [List.getD_eq_getElem?_getD, List.getElem?_eq_getElem h]
  exact List.set_getElem_self h
theorem act_inv {g : Gt} {n : Nat} {x : Wd} (ok : g.ok n) (hx : WN n x) : actL (inv g) (act g x) = x := by
  have h0 := hx.lo
  have h3 := hx.hi
  have hl := hx.len
  cases g with
  | w => rfl
  | one g a =>
    have ha : a < n := ok
    obtain ⟨t1, t2⟩ := iv_l1 g (x.2.getD a .I)
    show act (.one (iv g) a) (act (.one g a) x) = x
    simp only [act]
    rw [getD_set_eq (by omega), t2, List.set_set, set_back (by omega)]
    refine Prod.ext ?_ rfl
    simp only
    omega
  | two g a b =>
    obtain ⟨ha, hb, hab⟩ := ok
    obtain ⟨t1, t2⟩ := iv_l2 g (x.2.getD a .I) (x.2.getD b .I)
    show act (.two g a b) (act (.two g a b) x) = x
    have ea : ((x.2.set a (l2 g (x.2.getD a .I) (x.2.getD b .I)).2.1).set b (l2 g (x.2.getD a .I) (x.2.getD b .I)).2.2).getD a .I = (l2 g (x.2.getD a .I) (x.2.getD b .I)).2.1 := by
      rw [getD_set_ne (Ne.symm hab), getD_set_eq (by omega)]
    have eb : ((x.2.set a (l2 g (x.2.getD a .I) (x.2.getD b .I)).2.1).set b (l2 g (x.2.getD a .I) (x.2.getD b .I)).2.2).getD b .I = (l2 g (x.2.getD a .I) (x.2.getD b .I)).2.2 := by
      rw [getD_set_eq (by simp; omega)]
    simp only [act]
    rw [ea, eb, t2]
    refine Prod.ext ?_ ?_
    · simp only
      omega
    · simp only
      rw [List.set_comm _ _ (Ne.symm hab), List.set_set, List.set_set, set_back (by omega), set_back (by omega)]
theorem undo_back {n : Nat} : ∀ {gs : List Gt} {x : Wd}, (∀ g ∈ gs, g.ok n) → WN n x → actL (undo gs) (actL gs x) = x
  | [], _, _, _ => rfl
  | g :: gs, x, ok, hx => by
    have e : undo (g :: gs) = undo gs ++ inv g := by
      unfold undo
      rw [List.reverse_cons, List.flatMap_append, List.flatMap_singleton]
    rw [e, actL_app]
    show actL (inv g) (actL (undo gs) (actL gs (act g x))) = x
    rw [undo_back (fun g h => ok g (List.mem_cons_of_mem _ h)) hx.act]
    exact act_inv (ok g List.mem_cons_self) hx
theorem inv_ok {g : Gt} {n : Nat} (ok : g.ok n) : ∀ h ∈ inv g, h.ok n := by
  intro h hh
  cases g with
  | w => rw [List.eq_of_mem_replicate hh]; trivial
  | one g a => rw [List.mem_singleton.mp hh]; exact ok
  | two g a b => rw [List.mem_singleton.mp hh]; exact ok
theorem undo_ok {gs : List Gt} {n : Nat} (ok : ∀ g ∈ gs, g.ok n) : ∀ h ∈ undo gs, h.ok n := by
  intro h hh
  obtain ⟨g, hg, hh⟩ := List.mem_flatMap.mp hh
  exact inv_ok (ok g (List.mem_reverse.mp hg)) h hh
/-! bits -/
theorem sumY_set : ∀ (l : List Lt) (a : Nat) (c : Lt), a < l.length → ((l.set a c).map yY).sum = (l.map yY).sum - yY (l.getD a .I) + yY c
  | x :: l, 0, c, _ => by
    simp only [List.set_cons_zero, List.map_cons, List.sum_cons, List.getD_cons_zero]
    omega
  | x :: l, a + 1, c, h => by
    have ih := sumY_set l a c (by simpa using h)
    simp only [List.set_cons_succ, List.map_cons, List.sum_cons, List.getD_cons_succ]
    omega
def fl? (l : List Lt) : List D := l.map fun a => .int (fX a : Nat)
def tl? (l : List Lt) : List D := l.map fun a => .int (tZ a : Nat)
theorem fl_len {l : List Lt} : (fl? l).length = l.length := List.length_map ..
theorem tl_len {l : List Lt} : (tl? l).length = l.length := List.length_map ..
theorem fl_at {l : List Lt} {a : Nat} (h : a < l.length) : atI (fl? l) (a : Nat) = some (.int (fX (l.getD a .I) : Nat)) := atI_getD (d := Lt.I) (f := fun a => PyData.int (fX a : Nat)) h
theorem tl_at {l : List Lt} {a : Nat} (h : a < l.length) : atI (tl? l) (a : Nat) = some (.int (tZ (l.getD a .I) : Nat)) := atI_getD (d := Lt.I) (f := fun a => PyData.int (tZ a : Nat)) h
theorem fl_set {l : List Lt} {a : Nat} {c : Lt} {m : Nat} (h : m = fX c) : (fl? l).set a (.int (m : Nat)) = fl? (l.set a c) := by
  subst h; unfold fl?; rw [List.map_set]
theorem tl_set {l : List Lt} {a : Nat} {c : Lt} {m : Nat} (h : m = tZ c) : (tl? l).set a (.int (m : Nat)) = tl? (l.set a c) := by
  subst h; unfold tl?; rw [List.map_set]
theorem fl_get {l : List Lt} {a : Nat} (h : a < l.length) : (fl? l)[a]? = some (.int (fX (l.getD a .I) : Nat)) := by
  unfold fl?
  rw [List.getElem?_map, List.getElem?_eq_getElem h, List.getD_eq_getElem?_getD, List.getElem?_eq_getElem h]; rfl
theorem tl_get {l : List Lt} {a : Nat} (h : a < l.length) : (tl? l)[a]? = some (.int (tZ (l.getD a .I) : Nat)) := by
  unfold tl?
  rw [List.getElem?_map, List.getElem?_eq_getElem h, List.getD_eq_getElem?_getD, List.getElem?_eq_getElem h]; rfl
theorem ixN_nat' {n k : Nat} (h : k < n) : ixN n (k : Int) = some k := by
  unfold ixN; rw [if_pos (by omega), if_pos (by omega)]; rfl
/-! a list of bits of letters, after a gate -/
theorem b_set {h : Lt → Nat} {l : List Lt} {a : Nat} {c : Lt} {z : Int} (e : z = (h c : Nat)) : (l.map fun a => PyData.int (h a : Nat)).set a (.int z) = (l.set a c).map fun a => .int (h a : Nat) := by
  subst e; rw [List.map_set]
theorem b_keep {h : Lt → Nat} {l : List Lt} {a : Nat} {c : Lt} (ha : a < l.length) (e : h c = h (l.getD a .I)) : (l.map fun a => PyData.int (h a : Nat)) = (l.set a c).map fun a => .int (h a : Nat) := by
  rw [List.map_set, e]
  apply List.ext_getElem?
  intro k
  rw [List.getElem?_set]
  split
  · rename_i q
    subst q
    rw [if_pos (by simpa using ha), List.getElem?_map, List.getElem?_eq_getElem ha, List.getD_eq_getElem?_getD, List.getElem?_eq_getElem ha]; rfl
  · rfl
section
variable {h : Lt → Nat} {l : List Lt} {a b : Nat} {p q : Lt} {z w : Int}
theorem b_kk (hab : a ≠ b) (ha : a < l.length) (hb : b < l.length) (e1 : h p = h (l.getD a .I)) (e2 : h q = h (l.getD b .I)) : (l.map fun a => PyData.int (h a : Nat)) = ((l.set a p).set b q).map fun a => .int (h a : Nat) := by
  rw [← b_keep (l := l.set a p) (by simpa using hb) (by rw [getD_set_ne hab]; exact e2)]
  exact b_keep ha e1
theorem b_sk (hab : a ≠ b) (hb : b < l.length) (e1 : z = (h p : Nat)) (e2 : h q = h (l.getD b .I)) : (l.map fun a => PyData.int (h a : Nat)).set a (.int z) = ((l.set a p).set b q).map fun a => .int (h a : Nat) := by
  rw [← b_keep (l := l.set a p) (by simpa using hb) (by rw [getD_set_ne hab]; exact e2)]
  exact b_set e1
theorem b_ks (ha : a < l.length) (e1 : h p = h (l.getD a .I)) (e2 : z = (h q : Nat)) : (l.map fun a => PyData.int (h a : Nat)).set b (.int z) = ((l.set a p).set b q).map fun a => .int (h a : Nat) := by
  rw [← b_set (l := l.set a p) e2]
  congr 1
  exact b_keep ha e1
theorem b_ss (e1 : z = (h p : Nat)) (e2 : w = (h q : Nat)) : ((l.map fun a => PyData.int (h a : Nat)).set a (.int z)).set b (.int w) = ((l.set a p).set b q).map fun a => .int (h a : Nat) := by
  rw [← b_set (l := l.set a p) e2, ← b_set (l := l) e1]
end
theorem fX_le (c : Lt) : fX c ≤ 1 := by cases c <;> decide
theorem tZ_le (c : Lt) : tZ c ≤ 1 := by cases c <;> decide
theorem am1 {a : D} : atI [a] (-1) = some a := rfl
theorem am2 {a b : D} : atI [a, b] (-1) = some b := rfl
theorem am3 {a b c : D} : atI [a, b, c] (-1) = some c := rfl
theorem nl_c {a b : Nat} {l m : List Nat} : (a :: l = b :: m) = (a = b ∧ l = m) := List.cons.injEq ..
theorem nl_0 {b : Nat} {m : List Nat} : (([] : List Nat) = b :: m) = False := by simp
theorem nl_1 {b : Nat} {m : List Nat} : (b :: m = []) = False := by simp
theorem nl_2 : (([] : List Nat) = []) = True := by simp
theorem Ws_nil {Q : S → Prop} : Ws ([] : S) Q = Q [] := rfl
end Ek

def EkS.pre := And.intro (And.intro (And.intro (And.intro (And.intro (And.intro (And.intro (@Ek.w_oName) (@Ek.w_oX)) (And.intro (@Ek.w_cC) (@Ek.w_cName))) (And.intro (And.intro (@Ek.w_cFz) (@Ek.w_cArgs0)) (And.intro (@Ek.w_cArgs1) (And.intro (@Ek.w_cTup) (@Ek.w_cLst))))) (And.intro (And.intro (And.intro (@Ek.w_deref_v) (@Ek.w_deref_s)) (And.intro (@Ek.w_derefD_v) (@Ek.w_derefD_s))) (And.intro (And.intro (@Ek.w_cBin) (@Ek.w_cCmp)) (And.intro (@Ek.w_cUn) (And.intro (@Ek.w_cChain) (@Ek.w_cAnd)))))) (And.intro (And.intro (And.intro (And.intro (@Ek.w_cOr) (@Ek.w_cAnds1)) (And.intro (@Ek.w_cAnds2) (@Ek.w_cOrs1))) (And.intro (And.intro (@Ek.w_cOrs2) (@Ek.w_cNot)) (And.intro (@Ek.w_cIf) (And.intro (@Ek.w_tTru) (@Ek.w_tBl))))) (And.intro (And.intro (And.intro (@Ek.w_tAndF) (@Ek.w_tOrF)) (And.intro (@Ek.w_tAnds1) (@Ek.w_tAnds2))) (And.intro (And.intro (@Ek.w_tOrs1) (@Ek.w_tOrs2)) (And.intro (@Ek.w_tNotF) (And.intro (@Ek.w_tTrue) (@Ek.w_pNo))))))) (And.intro (And.intro (And.intro (And.intro (And.intro (@Ek.w_pAt) (@Ek.w_cSl)) (And.intro (@Ek.Wl_v) (@Ek.Wl_s))) (And.intro (And.intro (@Ek.w_cListOf) (@Ek.w_cLenOf)) (And.intro (@Ek.w_cIsi) (And.intro (@Ek.w_oArgs0) (@Ek.w_oArgs1))))) (And.intro (And.intro (And.intro (@Ek.w_ioSlot0) (@Ek.w_ioSlot1)) (And.intro (@Ek.w_derefs0) (@Ek.w_derefs1))) (And.intro (And.intro (@Ek.w_doCall) (@Ek.w_cCall)) (And.intro (@Ek.w_cCallK) (And.intro (@Ek.w_cMut) (@Ek.w_cMeth)))))) (And.intro (And.intro (And.intro (And.intro (@Ek.w_cDix) (@Ek.w_cCallS)) (And.intro (@Ek.w_cDin) (@Ek.w_cDget1))) (And.intro (And.intro (@Ek.w_cDget2) (@Ek.w_cMeth0)) (And.intro (@Ek.w_wIt) (And.intro (@Ek.w_wR1) (@Ek.w_wR2))))) (And.intro (And.intro (And.intro (@Ek.w_wZip) (@Ek.w_wEnum)) (And.intro (@Ek.w_gSet) (And.intro (@Ek.w_gAll0) (@Ek.w_gAll1)))) (And.intro (And.intro (@Ek.w_gPut) (@Ek.w_gUnp)) (And.intro (@Ek.w_cLc) (And.intro (@Ek.w_lcL0) (@Ek.w_lcL1)))))))) (And.intro (And.intro (And.intro (And.intro (And.intro (And.intro (@Ek.w_cLc2) (@Ek.w_lc2L0)) (And.intro (@Ek.w_lc2L1) (@Ek.Sq_nx))) (And.intro (And.intro (@Ek.Sq_bk) (@Ek.Sq_ct)) (And.intro (@Ek.Sq_rt) (And.intro (@Ek.Sq_rw) (@Ek.w_sSkip))))) (And.intro (And.intro (And.intro (@Ek.w_sSeq) (@Ek.w_sSet)) (And.intro (@Ek.w_sTg) (@Ek.w_rArgs0))) (And.intro (And.intro (@Ek.w_rArgs1) (@Ek.w_sPar)) (And.intro (@Ek.w_cMv) (And.intro (@Ek.w_sRow) (@Ek.w_sUnR)))))) (And.intro (And.intro (And.intro (And.intro (@Ek.w_sIf) (@Ek.w_sRet)) (And.intro (@Ek.w_sRetN) (@Ek.w_sRet0))) (And.intro (And.intro (@Ek.w_sDrop) (@Ek.w_sBrk)) (And.intro (@Ek.w_sCnt) (And.intro (@Ek.w_sAug) (@Ek.w_sPut))))) (And.intro (And.intro (And.intro (@Ek.w_sPutOp) (@Ek.w_sFor)) (And.intro (@Ek.Lp_nx) (@Ek.Lp_bk))) (And.intro (And.intro (@Ek.Lp_ct) (@Ek.Lp_rt)) (And.intro (@Ek.w_forL0) (And.intro (@Ek.w_sWh) (@Ek.w_out0))))))) (And.intro (And.intro (And.intro (And.intro (And.intro (@Ek.w_out1) (@Ek.Fo_nx)) (And.intro (@Ek.Fo_d) (@Ek.Fo_own))) (And.intro (And.intro (@Ek.Fs_d) (@Ek.Fs_own)) (And.intro (@Ek.Fr_rw) (And.intro (@Ek.v_adds) (@Ek.v_addl))))) (And.intro (And.intro (And.intro (@Ek.v_addt) (@Ek.v_mul)) (And.intro (@Ek.v_mull) (@Ek.v_mult))) (And.intro (And.intro (@Ek.v_muls) (@Ek.v_fdiv)) (And.intro (@Ek.v_mod) (And.intro (@Ek.v_pow) (@Ek.v_shl)))))) (And.intro (And.intro (And.intro (And.intro (@Ek.v_shr) (@Ek.v_ishl)) (And.intro (@Ek.v_ishr) (@Ek.in_tup))) (And.intro (And.intro (@Ek.v_is) (@Ek.v_isn)) (And.intro (@Ek.v_eq) (And.intro (@Ek.v_ne) (@Ek.v_in))))) (And.intro (And.intro (And.intro (@Ek.v_nin) (@Ek.t_s)) (And.intro (@Ek.x_s) (And.intro (@Ek.s_s) (@Ek.b_len_s)))) (And.intro (And.intro (@Ek.b_list_s) (@Ek.b_str)) (And.intro (@Ek.it_s) (And.intro (@Ek.m_app1) (@Ek.m_ext1))))))))
def EkS.post := And.intro (And.intro (And.intro (And.intro (And.intro (And.intro (And.intro (And.intro (@Ek.Br_true) (@Ek.Br_false)) (And.intro (@Ek.Ck_true) (@Ek.wok))) (And.intro (And.intro (@Ek.wbad) (@Ek.wgok)) (And.intro (@Ek.wgbad) (And.intro (@Ek.wo_some) (@Ek.wo_none))))) (And.intro (And.intro (And.intro (@Ek.wo_map) (@Ek.wo_bind)) (And.intro (@Ek.wq_some) (And.intro (@Ek.wq_none) (@Ek.ws_cons)))) (And.intro (And.intro (@Ek.scR_scr) (@Ek.fz_d)) (And.intro (@Ek.fz_own) (And.intro (@Ek.fz_scr) (@Ek.dR_d)))))) (And.intro (And.intro (And.intro (And.intro (@Ek.dR_own) (@Ek.blR_d)) (And.intro (@Ek.inR_d) (@Ek.owR_own))) (And.intro (And.intro (@Ek.owR_d) (@Ek.sqD_t)) (And.intro (@Ek.sqD_l) (And.intro (@Ek.stD_s) (@Ek.Wn_d))))) (And.intro (And.intro (And.intro (@Ek.Wn_own) (@Ek.Wn_scr)) (And.intro (@Ek.Wl2_scr) (And.intro (@Ek.Wl2_d) (@Ek.Wl2_own)))) (And.intro (And.intro (@Ek.Wi_s) (@Ek.derA_t)) (And.intro (@Ek.derA_f) (And.intro (@Ek.ioAt_n) (@Ek.ioAt_s))))))) (And.intro (And.intro (And.intro (And.intro (And.intro (@Ek.w_putIo0) (@Ek.w_putIo1)) (And.intro (@Ek.enum_0) (@Ek.enum_1))) (And.intro (And.intro (@Ek.zip_0) (@Ek.zip_00)) (And.intro (@Ek.zip_1) (And.intro (@Ek.wipe0) (@Ek.wipe1))))) (And.intro (And.intro (And.intro (@Ek.bk_n) (@Ek.bk_d)) (And.intro (@Ek.bk_s) (And.intro (@Ek.bk_o) (@Ek.back0)))) (And.intro (And.intro (@Ek.back1) (@Ek.putAll0)) (And.intro (@Ek.putAll1) (And.intro (@Ek.Mv_d) (@Ek.Mv_own)))))) (And.intro (And.intro (And.intro (And.intro (@Ek.Wt_d) (@Ek.Wt_own)) (And.intro (@Ek.mask_n) (@Ek.mask_s))) (And.intro (And.intro (@Ek.mask_0) (@Ek.enR_f)) (And.intro (@Ek.enR_l) (And.intro (@Ek.entL_0) (@Ek.entL_1))))) (And.intro (And.intro (And.intro (@Ek.entry_u) (@Ek.v_add)) (And.intro (@Ek.v_sub) (And.intro (@Ek.v_and) (@Ek.v_or)))) (And.intro (And.intro (@Ek.v_xor) (@Ek.v_iadd)) (And.intro (@Ek.v_isub) (And.intro (@Ek.v_iand) (@Ek.v_ior)))))))) (And.intro (And.intro (And.intro (And.intro (And.intro (And.intro (@Ek.v_ixor) (@Ek.v_neg)) (And.intro (@Ek.v_lt) (@Ek.v_lts))) (And.intro (And.intro (@Ek.fl_i) (@Ek.fl_s)) (And.intro (@Ek.fl_b) (And.intro (@Ek.fl_n) (@Ek.fl_t))))) (And.intro (And.intro (And.intro (@Ek.fl_l) (@Ek.ev_ii)) (And.intro (@Ek.ev_ss) (And.intro (@Ek.v_le) (@Ek.v_gt)))) (And.intro (And.intro (@Ek.v_ge) (@Ek.v_non)) (And.intro (@Ek.v_nonb) (And.intro (@Ek.v_noni) (@Ek.v_nons)))))) (And.intro (And.intro (And.intro (And.intro (@Ek.v_nonl) (@Ek.v_nont)) (And.intro (@Ek.e_ii) (@Ek.e_bb))) (And.intro (And.intro (@Ek.e_ss) (@Ek.e_nn)) (And.intro (@Ek.e_ni) (And.intro (@Ek.e_in) (@Ek.e_nb))))) (And.intro (And.intro (And.intro (@Ek.e_bn) (@Ek.e_ns)) (And.intro (@Ek.e_sn) (And.intro (@Ek.e_is) (@Ek.e_si)))) (And.intro (And.intro (@Ek.e_bs) (@Ek.e_sb)) (And.intro (@Ek.t_n) (And.intro (@Ek.t_b) (@Ek.t_i))))))) (And.intro (And.intro (And.intro (And.intro (And.intro (@Ek.t_l) (@Ek.t_t)) (And.intro (@Ek.x_l) (@Ek.x_t))) (And.intro (And.intro (@Ek.atI_0) (@Ek.atI_1)) (And.intro (@Ek.atI_2) (And.intro (@Ek.atI_3) (@Ek.atI_4))))) (And.intro (And.intro (And.intro (@Ek.atI_5) (@Ek.atI_6)) (And.intro (@Ek.atI_7) (And.intro (@Ek.atI_8) (@Ek.atI_9)))) (And.intro (And.intro (@Ek.atI_10) (@Ek.atI_11)) (And.intro (@Ek.atI_12) (And.intro (@Ek.atI_13) (@Ek.atI_14)))))) (And.intro (And.intro (And.intro (And.intro (@Ek.atI_15) (@Ek.ixN_0)) (And.intro (@Ek.ixN_1) (@Ek.ixN_2))) (And.intro (And.intro (@Ek.ixN_3) (@Ek.ixN_4)) (And.intro (@Ek.ixN_5) (And.intro (@Ek.ixN_6) (@Ek.ixN_7))))) (And.intro (And.intro (And.intro (@Ek.ixN_8) (@Ek.ixN_9)) (And.intro (@Ek.ixN_10) (And.intro (@Ek.ixN_11) (@Ek.ixN_12)))) (And.intro (And.intro (@Ek.s_l) (@Ek.s_t)) (And.intro (@Ek.rev_l) (And.intro (@Ek.rev_t) (@Ek.m0_bits))))))))) (And.intro (And.intro (And.intro (And.intro (And.intro (And.intro (And.intro (@Ek.b_len_l) (@Ek.b_len_t)) (And.intro (@Ek.b_int_i) (@Ek.b_int_b))) (And.intro (And.intro (@Ek.b_abs) (@Ek.b_list_l)) (And.intro (@Ek.b_list_t) (And.intro (@Ek.b_tup_l) (@Ek.b_tup_t))))) (And.intro (And.intro (And.intro (@Ek.b_sum) (@Ek.b_all)) (And.intro (@Ek.b_any) (And.intro (@Ek.b_max) (@Ek.b_min)))) (And.intro (And.intro (@Ek.it_l) (@Ek.it_t)) (And.intro (@Ek.m_app) (And.intro (@Ek.m_ext) (@Ek.m_pop)))))) (And.intro (And.intro (And.intro (And.intro (@Ek.ty_n) (@Ek.ty_b)) (And.intro (@Ek.ty_i) (@Ek.ty_s))) (And.intro (And.intro (@Ek.ty_l) (@Ek.ty_t)) (And.intro (@Ek.bls0) (And.intro (@Ek.bls1) (@Ek.ints0))))) (And.intro (And.intro (And.intro (@Ek.ints1) (@Ek.it_NoneType_int)) (And.intro (@Ek.it_NoneType_bool) (And.intro (@Ek.it_NoneType_str) (@Ek.it_NoneType_tuple)))) (And.intro (And.intro (@Ek.it_NoneType_list) (@Ek.it_bool_int)) (And.intro (@Ek.it_bool_bool) (And.intro (@Ek.it_bool_str) (@Ek.it_bool_tuple))))))) (And.intro (And.intro (And.intro (And.intro (And.intro (@Ek.it_bool_list) (@Ek.it_int_int)) (And.intro (@Ek.it_int_bool) (@Ek.it_int_str))) (And.intro (And.intro (@Ek.it_int_tuple) (@Ek.it_int_list)) (And.intro (@Ek.it_str_int) (And.intro (@Ek.it_str_bool) (@Ek.it_str_str))))) (And.intro (And.intro (And.intro (@Ek.it_str_tuple) (@Ek.it_str_list)) (And.intro (@Ek.it_list_int) (And.intro (@Ek.it_list_bool) (@Ek.it_list_str)))) (And.intro (And.intro (@Ek.it_list_tuple) (@Ek.it_list_list)) (And.intro (@Ek.it_tuple_int) (And.intro (@Ek.it_tuple_bool) (@Ek.it_tuple_str)))))) (And.intro (And.intro (And.intro (And.intro (@Ek.it_tuple_tuple) (@Ek.it_tuple_list)) (And.intro (@Ek.any_0) (@Ek.any_1))) (And.intro (And.intro (@Ek.all_0) (@Ek.all_1)) (And.intro (@Ek.g_0) (And.intro (@Ek.g_s) (@Ek.t_0))))) (And.intro (And.intro (And.intro (@Ek.t_k) (@Ek.n_0)) (And.intro (@Ek.n_s) (And.intro (@Ek.r_0) (@Ek.r_s)))) (And.intro (And.intro (@Ek.a_0) (@Ek.a_s)) (And.intro (@Ek.d_0) (And.intro (@Ek.d_1) (@Ek.d_2)))))))) (And.intro (And.intro (And.intro (And.intro (And.intro (And.intro (@Ek.d_3) (@Ek.d_4)) (And.intro (@Ek.d_5) (@Ek.d_6))) (And.intro (And.intro (@Ek.d_7) (@Ek.k_0)) (And.intro (@Ek.k_1) (And.intro (@Ek.k_2) (@Ek.k_3))))) (And.intro (And.intro (And.intro (@Ek.k_4) (@Ek.k_5)) (And.intro (@Ek.k_6) (And.intro (@Ek.k_7) (@Ek.k_8)))) (And.intro (And.intro (@Ek.k_9) (@Ek.k_10)) (And.intro (@Ek.k_11) (And.intro (@Ek.k_12) (@Ek.k_13)))))) (And.intro (And.intro (And.intro (And.intro (@Ek.k_14) (@Ek.k_15)) (And.intro (@Ek.k_16) (@Ek.k_17))) (And.intro (And.intro (@Ek.k_18) (@Ek.k_19)) (And.intro (@Ek.k_20) (And.intro (@Ek.k_21) (@Ek.k_22))))) (And.intro (And.intro (And.intro (@Ek.k_23) (@Ek.k_24)) (And.intro (@Ek.k_25) (And.intro (@Ek.k_26) (@Ek.fl_0)))) (And.intro (And.intro (@Ek.fl_1) (@Ek.nb_0)) (And.intro (@Ek.nb_1) (And.intro (@Ek.nb_2) (@Ek.nc_0))))))) (And.intro (And.intro (And.intro (And.intro (And.intro (@Ek.nc_1) (@Ek.nc_2)) (And.intro (@Ek.nc_3) (@Ek.nc_4))) (And.intro (And.intro (@Ek.nc_5) (@Ek.nc_6)) (And.intro (@Ek.nc_7) (And.intro (@Ek.nc_8) (@Ek.nc_9))))) (And.intro (And.intro (And.intro (@Ek.nc_10) (@Ek.nc_11)) (And.intro (@Ek.nc_12) (And.intro (@Ek.nc_13) (@Ek.nc_14)))) (And.intro (And.intro (@Ek.nc_15) (@Ek.nc_16)) (And.intro (@Ek.nc_17) (And.intro (@Ek.nc_18) (@Ek.nc_19)))))) (And.intro (And.intro (And.intro (And.intro (@Ek.nc_20) (@Ek.nc_1000000)) (And.intro (@Ek.rg_0) (And.intro (@Ek.rg_1) (@Ek.rg_2)))) (And.intro (And.intro (@Ek.rg_3) (@Ek.rg_4)) (And.intro (@Ek.rg_5) (And.intro (@Ek.rg_6) (@Ek.rg_7))))) (And.intro (And.intro (And.intro (@Ek.rg_8) (@Ek.rg_9)) (And.intro (@Ek.rg_10) (And.intro (@Ek.rg_11) (@Ek.rg_12)))) (And.intro (And.intro (@Ek.rg_13) (@Ek.rg_14)) (And.intro (@Ek.rg_15) (And.intro (@Ek.rg_16) (@Ek.Pr_u)))))))))
namespace K39
open PySem L2 PySem.Spec PyProof.Rows Ek
/-! ### the text, as it was read -/
theorem so_0 : Str.ofString "w" = sx [119] := by decide +kernel
theorem so_1 : Str.ofString "cx" = sx [99, 120] := by decide +kernel
theorem so_2 : Str.ofString "cz" = sx [99, 122] := by decide +kernel
theorem so_3 : Str.ofString "swap" = sx [115, 119, 97, 112] := by decide +kernel
theorem so_4 : Str.ofString "h" = sx [104] := by decide +kernel
theorem so_5 : Str.ofString "s" = sx [115] := by decide +kernel
theorem so_6 : Str.ofString "sd" = sx [115, 100] := by decide +kernel
theorem so_7 : Str.ofString "x" = sx [120] := by decide +kernel
theorem so_8 : Str.ofString "y" = sx [121] := by decide +kernel
theorem so_9 : Str.ofString "z" = sx [122] := by decide +kernel
theorem so_10 : Str.ofString "XY" = sx [88, 89] := by decide +kernel
theorem so_11 : Str.ofString "Y" = sx [89] := by decide +kernel
theorem so_12 : Str.ofString "YZ" = sx [89, 90] := by decide +kernel
theorem so_13 : Str.ofString "" = sx [] := by decide +kernel
theorem so_14 : Str.ofString "IXZY" = sx [73, 88, 90, 89] := by decide +kernel
theorem so_15 : Str.ofString "I" = sx [73] := by decide +kernel
theorem so_16 : Str.ofString "XZ" = sx [88, 90] := by decide +kernel
theorem so_17 : Str.ofString "t" = sx [116] := by decide +kernel
theorem so_18 : Str.ofString "td" = sx [116, 100] := by decide +kernel
theorem so_19 : Str.ofString "IXYZ" = sx [73, 88, 89, 90] := by decide +kernel
theorem so_20 : Str.ofString "II" = sx [73, 73] := by decide +kernel
theorem so_21 : Str.ofString "IX" = sx [73, 88] := by decide +kernel
theorem so_22 : Str.ofString "IY" = sx [73, 89] := by decide +kernel
theorem so_23 : Str.ofString "IZ" = sx [73, 90] := by decide +kernel
theorem so_24 : Str.ofString "XI" = sx [88, 73] := by decide +kernel
theorem so_25 : Str.ofString "XX" = sx [88, 88] := by decide +kernel
theorem so_26 : Str.ofString "YI" = sx [89, 73] := by decide +kernel
theorem so_27 : Str.ofString "YX" = sx [89, 88] := by decide +kernel
theorem so_28 : Str.ofString "YY" = sx [89, 89] := by decide +kernel
theorem so_29 : Str.ofString "ZI" = sx [90, 73] := by decide +kernel
theorem so_30 : Str.ofString "ZX" = sx [90, 88] := by decide +kernel
theorem so_31 : Str.ofString "ZY" = sx [90, 89] := by decide +kernel
theorem so_32 : Str.ofString "ZZ" = sx [90, 90] := by decide +kernel
theorem so_33 : Str.ofString "X" = sx [88] := by decide +kernel
theorem so_34 : Str.ofString "Z" = sx [90] := by decide +kernel
theorem so_35 : Str.ofString "hX" = sx [104, 88] := by decide +kernel
theorem so_36 : Str.ofString "hY" = sx [104, 89] := by decide +kernel
theorem so_37 : Str.ofString "hZ" = sx [104, 90] := by decide +kernel
theorem so_38 : Str.ofString "sX" = sx [115, 88] := by decide +kernel
theorem so_39 : Str.ofString "sY" = sx [115, 89] := by decide +kernel
theorem so_40 : Str.ofString "sdX" = sx [115, 100, 88] := by decide +kernel
theorem so_41 : Str.ofString "sdY" = sx [115, 100, 89] := by decide +kernel
theorem so_42 : Str.ofString "xY" = sx [120, 89] := by decide +kernel
theorem so_43 : Str.ofString "xZ" = sx [120, 90] := by decide +kernel
theorem so_44 : Str.ofString "yX" = sx [121, 88] := by decide +kernel
theorem so_45 : Str.ofString "yZ" = sx [121, 90] := by decide +kernel
theorem so_46 : Str.ofString "zX" = sx [122, 88] := by decide +kernel
theorem so_47 : Str.ofString "zY" = sx [122, 89] := by decide +kernel
theorem so_48 : Str.ofString "cxI" = sx [99, 120, 73] := by decide +kernel
theorem so_49 : Str.ofString "cxX" = sx [99, 120, 88] := by decide +kernel
theorem so_50 : Str.ofString "cxY" = sx [99, 120, 89] := by decide +kernel
theorem so_51 : Str.ofString "cxZ" = sx [99, 120, 90] := by decide +kernel
theorem so_52 : Str.ofString "czI" = sx [99, 122, 73] := by decide +kernel
theorem so_53 : Str.ofString "czX" = sx [99, 122, 88] := by decide +kernel
theorem so_54 : Str.ofString "czY" = sx [99, 122, 89] := by decide +kernel
theorem so_55 : Str.ofString "czZ" = sx [99, 122, 90] := by decide +kernel
theorem so_56 : Str.ofString "swapI" = sx [115, 119, 97, 112, 73] := by decide +kernel
theorem so_57 : Str.ofString "swapX" = sx [115, 119, 97, 112, 88] := by decide +kernel
theorem so_58 : Str.ofString "swapY" = sx [115, 119, 97, 112, 89] := by decide +kernel
theorem so_59 : Str.ofString "swapZ" = sx [115, 119, 97, 112, 90] := by decide +kernel
def topS (i : Nat) : Stmt := PySem.Challenge.pw_wholecircuits_k39_whole_tables_of_joined.main.body.getD i (.Pass ⟨0, 0, 0, 0⟩)
def d_GATES : List (Str × D) := [(Str.ofString "w", (.int 0)), (Str.ofString "h", (.int 1)), (Str.ofString "s", (.int 1)), (Str.ofString "sd", (.int 1)), (Str.ofString "t", (.int 1)), (Str.ofString "td", (.int 1)), (Str.ofString "x", (.int 1)), (Str.ofString "y", (.int 1)), (Str.ofString "z", (.int 1)), (Str.ofString "cx", (.int 2)), (Str.ofString "cz", (.int 2)), (Str.ofString "swap", (.int 2))]
def d_TURNED : List (Str × D) := [(Str.ofString "s", (.str (Str.ofString "sd"))), (Str.ofString "sd", (.str (Str.ofString "s"))), (Str.ofString "t", (.str (Str.ofString "td"))), (Str.ofString "td", (.str (Str.ofString "t")))]
def d_PRODUCTS : List (Str × D) := [(Str.ofString "II", (.tuple [(.int 0), (.str (Str.ofString "I"))])), (Str.ofString "IX", (.tuple [(.int 0), (.str (Str.ofString "X"))])), (Str.ofString "IY", (.tuple [(.int 0), (.str (Str.ofString "Y"))])), (Str.ofString "IZ", (.tuple [(.int 0), (.str (Str.ofString "Z"))])), (Str.ofString "XI", (.tuple [(.int 0), (.str (Str.ofString "X"))])), (Str.ofString "XX", (.tuple [(.int 0), (.str (Str.ofString "I"))])), (Str.ofString "XY", (.tuple [(.int 1), (.str (Str.ofString "Z"))])), (Str.ofString "XZ", (.tuple [(.int 3), (.str (Str.ofString "Y"))])), (Str.ofString "YI", (.tuple [(.int 0), (.str (Str.ofString "Y"))])), (Str.ofString "YX", (.tuple [(.int 3), (.str (Str.ofString "Z"))])), (Str.ofString "YY", (.tuple [(.int 0), (.str (Str.ofString "I"))])), (Str.ofString "YZ", (.tuple [(.int 1), (.str (Str.ofString "X"))])), (Str.ofString "ZI", (.tuple [(.int 0), (.str (Str.ofString "Z"))])), (Str.ofString "ZX", (.tuple [(.int 1), (.str (Str.ofString "Y"))])), (Str.ofString "ZY", (.tuple [(.int 3), (.str (Str.ofString "X"))])), (Str.ofString "ZZ", (.tuple [(.int 0), (.str (Str.ofString "I"))]))]
def d_LED : List (Str × D) := [(Str.ofString "hX", (.tuple [(.int 0), (.str (Str.ofString "Z"))])), (Str.ofString "hY", (.tuple [(.int 2), (.str (Str.ofString "Y"))])), (Str.ofString "hZ", (.tuple [(.int 0), (.str (Str.ofString "X"))])), (Str.ofString "sX", (.tuple [(.int 0), (.str (Str.ofString "Y"))])), (Str.ofString "sY", (.tuple [(.int 2), (.str (Str.ofString "X"))])), (Str.ofString "sdX", (.tuple [(.int 2), (.str (Str.ofString "Y"))])), (Str.ofString "sdY", (.tuple [(.int 0), (.str (Str.ofString "X"))])), (Str.ofString "xY", (.tuple [(.int 2), (.str (Str.ofString "Y"))])), (Str.ofString "xZ", (.tuple [(.int 2), (.str (Str.ofString "Z"))])), (Str.ofString "yX", (.tuple [(.int 2), (.str (Str.ofString "X"))])), (Str.ofString "yZ", (.tuple [(.int 2), (.str (Str.ofString "Z"))])), (Str.ofString "zX", (.tuple [(.int 2), (.str (Str.ofString "X"))])), (Str.ofString "zY", (.tuple [(.int 2), (.str (Str.ofString "Y"))]))]
def d_FIRST : List (Str × D) := [(Str.ofString "cxI", (.str (Str.ofString "II"))), (Str.ofString "cxX", (.str (Str.ofString "XX"))), (Str.ofString "cxY", (.str (Str.ofString "YX"))), (Str.ofString "cxZ", (.str (Str.ofString "ZI"))), (Str.ofString "czI", (.str (Str.ofString "II"))), (Str.ofString "czX", (.str (Str.ofString "XZ"))), (Str.ofString "czY", (.str (Str.ofString "YZ"))), (Str.ofString "czZ", (.str (Str.ofString "ZI"))), (Str.ofString "swapI", (.str (Str.ofString "II"))), (Str.ofString "swapX", (.str (Str.ofString "IX"))), (Str.ofString "swapY", (.str (Str.ofString "IY"))), (Str.ofString "swapZ", (.str (Str.ofString "IZ")))]
def d_SECOND : List (Str × D) := [(Str.ofString "cxI", (.str (Str.ofString "II"))), (Str.ofString "cxX", (.str (Str.ofString "IX"))), (Str.ofString "cxY", (.str (Str.ofString "ZY"))), (Str.ofString "cxZ", (.str (Str.ofString "ZZ"))), (Str.ofString "czI", (.str (Str.ofString "II"))), (Str.ofString "czX", (.str (Str.ofString "ZX"))), (Str.ofString "czY", (.str (Str.ofString "ZY"))), (Str.ofString "czZ", (.str (Str.ofString "IZ"))), (Str.ofString "swapI", (.str (Str.ofString "II"))), (Str.ofString "swapX", (.str (Str.ofString "XI"))), (Str.ofString "swapY", (.str (Str.ofString "YI"))), (Str.ofString "swapZ", (.str (Str.ofString "ZI")))]
abbrev st__law_pot : Stmt := topS 52
def N__law_pot : List Str := ["script"]
theorem sc__law_pot : FnScope N__law_pot ["script"] (defScope st__law_pot) := ⟨rfl, rfl, rfl, by decide +kernel, rfl, by decide +kernel, by decide +kernel⟩
def M__law_pot : En := mkEn [] [] [] ["list"]
def sh__law_pot : SF :=
  (sSeq (sRet (cBin (dBin .Add) (oX (cLst [(cC (.int 0)), (cC (.int 19088743)), (cC (.int 1)), (cC (.int 4))])) (oX (cListOf (oName 0))))) sSkip)
theorem bd__law_pot : bodyF { M__law_pot with fuel := FU } N__law_pot st__law_pot (ioL none) = sh__law_pot := by kernel_rfl
def fs__law_pot : FS := mkFSs ["script"] 1 sh__law_pot
theorem sr__law_pot {Q : (List Int → Option R) → Prop} : Wo fs__law_pot.sr Q = Q fun ns => okRs (fnRunS 1 sh__law_pot ns) := w_runS2
theorem rn__law_pot {ns : List Int} {Q : R → Prop} : Wo (okRs (fnRunS 1 sh__law_pot ns)) Q = Ws (some (.scr ns) :: List.replicate 0 none) fun s => Wp (sh__law_pot s) fun f _ => Fs f Q := w_runS
abbrev st__law_take : Stmt := topS 53
def N__law_take : List Str := ["pot", "many", "cell", "drawn", "mixed"]
theorem sc__law_take : FnScope N__law_take ["pot", "many"] (defScope st__law_take) := ⟨rfl, rfl, rfl, by decide +kernel, rfl, by decide +kernel, by decide +kernel⟩
def M__law_take : En := mkEn [] [] [] ["len", "int"]
def sh__law_take : SF :=
  (sSeq (sIf (tAnds [(tBl (cCmp .Eq (oX (cBin dIx (oName 0) (oX (cC (.int 0))))) (oX (cC (.int 0))))), (tBl (cCmp .Lt (oX (cBin dIx (oName 0) (oX (cC (.int 3))))) (oX (cLenOf (oName 0)))))]) (sSeq (sSet 2 (cBin dIx (oName 0) (oX (cBin dIx (oName 0) (oX (cC (.int 3))))))) (sSeq (sPutOp 0 (cC (.int 3)) (dIop .Add) (cC (.int 1))) (sSeq (sIf (tBl (cCmp .GtE (oName 2) (oX (cBin (dBin .Pow) (oX (cC (.int 10))) (oX (cC (.int 18))))))) (sSeq (sPut 0 (cC (.int 0)) (cBin (dBin .Sub) (oName 2) (oX (cBin (dBin .Pow) (oX (cC (.int 10))) (oX (cC (.int 18))))))) sSkip) (sSeq (sPut 0 (cC (.int 1)) (cBin (dBin .Mod) (oX (cUn (dB1 "int") (oX (cBin (dBin .Add) (oX (cBin (dBin .Add) (oX (cBin (dBin .Mult) (oX (cBin dIx (oName 0) (oX (cC (.int 1))))) (oX (cC (.int 1566083941))))) (oName 2))) (oX (cBin (dBin .Mult) (oX (cC (.int 7))) (oX (cBin dIx (oName 0) (oX (cC (.int 3))))))))))) (oX (cC (.int 4611686018427387847))))) sSkip)) sSkip))) sSkip) (sSeq (sIf (tBl (cCmp .Gt (oX (cBin dIx (oName 0) (oX (cC (.int 0))))) (oX (cC (.int 0))))) (sSeq (sSet 3 (cBin (dBin .Mod) (oX (cUn (dB1 "int") (oX (cBin dIx (oName 0) (oX (cC (.int 0))))))) (oName 1))) (sSeq (sPut 0 (cC (.int 0)) (cBin (dBin .FloorDiv) (oX (cBin dIx (oName 0) (oX (cC (.int 0))))) (oName 1))) (sSeq (sRetN 3) sSkip))) sSkip) (sSeq (sPutOp 0 (cC (.int 2)) (dIop .Add) (cC (.int 1))) (sSeq (sSet 4 (cBin (dBin .Mod) (oX (cUn (dB1 "int") (oX (cBin (dBin .Add) (oX (cBin (dBin .Pow) (oX (cBin (dBin .Add) (oX (cBin dIx (oName 0) (oX (cC (.int 1))))) (oX (cBin (dBin .Mult) (oX (cC (.int 2654435761))) (oX (cBin dIx (oName 0) (oX (cC (.int 2))))))))) (oX (cC (.int 2))))) (oX (cBin (dBin .Mult) (oX (cC (.int 97))) (oX (cBin dIx (oName 0) (oX (cC (.int 2))))))))))) (oX (cC (.int 2305843009213693951))))) (sSeq (sSet 4 (cBin (dBin .Mod) (oX (cUn (dB1 "int") (oX (cBin (dBin .Pow) (oX (cBin (dBin .Add) (oName 4) (oX (cC (.int 1013904223))))) (oX (cC (.int 3))))))) (oX (cC (.int 1000000000000000177))))) (sSeq (sRet (cBin (dBin .Mod) (oX (cUn (dB1 "int") (oX (cBin (dBin .FloorDiv) (oName 4) (oX (cC (.int 512))))))) (oName 1))) sSkip))))))
theorem bd__law_take : bodyF { M__law_take with fuel := FU } N__law_take st__law_take (ioL (some 0)) = sh__law_take := by kernel_rfl
def fs__law_take : FS := mkFS ["pot", "many"] [] (some 0) 5 sh__law_take
theorem rn__law_take {xs : List D} {Q : R → List D → Prop} : Wq (fs__law_take.run xs) Q = Ws (entry 5 (some 0) xs) fun s => Wp (sh__law_take s) fun f s => Fo f (some 0) s Q := w_run
theorem io__law_take : fs__law_take.io = (some 0) := rfl
abbrev st__law_gates : Stmt := topS 60
def N__law_gates : List Str := ["pot", "many", "most", "names", "found", "turn", "name", "first"]
theorem sc__law_gates : FnScope N__law_gates ["pot", "many", "most", "names"] (defScope st__law_gates) := ⟨rfl, rfl, rfl, by decide +kernel, rfl, by decide +kernel, by decide +kernel⟩
def M__law_gates : En := mkEn [("_law_take", fs__law_take)] [] [] ["range", "len", "int", "tuple"]
def lb__law_gates_1 : SF :=
  (sSeq (sPar [6, 7] [(cBin dIx (oName 3) (oX (cCall fs__law_take [(oName 0), (oX (cLenOf (oName 3)))]))), (cCall fs__law_take [(oName 0), (oX (cName 1))])]) (sSeq (sIf (tBl (cCmp .Eq (oName 6) (oX (cC (.str (Str.ofString "w")))))) (sSeq (sDrop (cMut 4 (dMut "append") [(cTup [(cName 6)])])) sSkip) (sSeq (sIf (tBl (cCmp .NotIn (oName 6) (oX (cTup [(cC (.str (Str.ofString "cx"))), (cC (.str (Str.ofString "cz"))), (cC (.str (Str.ofString "swap")))])))) (sSeq (sDrop (cMut 4 (dMut "append") [(cTup [(cName 6), (cName 7)])])) sSkip) (sSeq (sIf (tBl (cCmp .Gt (oName 1) (oX (cC (.int 1))))) (sSeq (sDrop (cMut 4 (dMut "append") [(cTup [(cName 6), (cName 7), (cBin (dBin .Mod) (oX (cUn (dB1 "int") (oX (cBin (dBin .Add) (oX (cBin (dBin .Add) (oName 7) (oX (cC (.int 1))))) (oX (cCall fs__law_take [(oName 0), (oX (cBin (dBin .Sub) (oName 1) (oX (cC (.int 1)))))])))))) (oName 1))])])) sSkip) sSkip) sSkip)) sSkip)) sSkip))
def sh__law_gates : SF :=
  (sSeq (sSet 4 (cLst [])) (sSeq (sFor (wR1 (cCall fs__law_take [(oName 0), (oX (cBin (dBin .Add) (oName 2) (oX (cC (.int 1)))))])) (gSet 5) lb__law_gates_1) (sSeq (sRet (cUn (dB1 "tuple") (oName 4))) sSkip)))
theorem bd__law_gates : bodyF { M__law_gates with fuel := FU } N__law_gates st__law_gates (ioL (some 0)) = sh__law_gates := by kernel_rfl
def fs__law_gates : FS := mkFS ["pot", "many", "most", "names"] [] (some 0) 8 sh__law_gates
theorem rn__law_gates {xs : List D} {Q : R → List D → Prop} : Wq (fs__law_gates.run xs) Q = Ws (entry 8 (some 0) xs) fun s => Wp (sh__law_gates s) fun f s => Fo f (some 0) s Q := w_run
theorem io__law_gates : fs__law_gates.io = (some 0) := rfl
abbrev st__law_names : Stmt := topS 61
def N__law_names : List Str := []
theorem sc__law_names : FnScope N__law_names [] (defScope st__law_names) := ⟨rfl, rfl, rfl, by decide +kernel, rfl, by decide +kernel, by decide +kernel⟩
def M__law_names : En := mkEn [] [] [] []
def sh__law_names : SF :=
  (sSeq (sRet (cLst [(cC (.str (Str.ofString "h"))), (cC (.str (Str.ofString "h"))), (cC (.str (Str.ofString "h"))), (cC (.str (Str.ofString "s"))), (cC (.str (Str.ofString "sd"))), (cC (.str (Str.ofString "x"))), (cC (.str (Str.ofString "y"))), (cC (.str (Str.ofString "z"))), (cC (.str (Str.ofString "cx"))), (cC (.str (Str.ofString "cx"))), (cC (.str (Str.ofString "cx"))), (cC (.str (Str.ofString "cz"))), (cC (.str (Str.ofString "swap"))), (cC (.str (Str.ofString "s")))])) sSkip)
theorem bd__law_names : bodyF { M__law_names with fuel := FU } N__law_names st__law_names (ioL none) = sh__law_names := by kernel_rfl
def fs__law_names : FS := mkFS [] [] none 0 sh__law_names
theorem rn__law_names {xs : List D} {Q : R → List D → Prop} : Wq (fs__law_names.run xs) Q = Ws (entry 0 none xs) fun s => Wp (sh__law_names s) fun f s => Fo f none s Q := w_run
theorem io__law_names : fs__law_names.io = none := rfl
abbrev st__law_split : Stmt := topS 55
def N__law_split : List Str := ["pauli", "e", "letters", "flips", "letter"]
theorem sc__law_split : FnScope N__law_split ["pauli"] (defScope st__law_split) := ⟨rfl, rfl, rfl, by decide +kernel, rfl, by decide +kernel, by decide +kernel⟩
def M__law_split : En := mkEn [] [] [] ["int"]
def ce__law_split_1 : XF :=
  (cUn (dB1 "int") (oX (cCmp .In (oName 4) (oX (cC (.str (Str.ofString "XY")))))))
def ce__law_split_2 : XF :=
  (cUn (dB1 "int") (oX (cCmp .In (oName 4) (oX (cC (.str (Str.ofString "YZ")))))))
def sh__law_split : SF :=
  (sSeq (sTg (gUnp [(gSet 1), (gSet 2)]) (cName 0)) (sSeq (sSet 3 (cLc (wIt (cName 2)) [4] (gSet 4) tTrue ce__law_split_1)) (sSeq (sRow [(cBin (dBin .Add) (oName 1) (oX (cMeth "count" (oName 2) [(cC (.str (Str.ofString "Y")))]))), (cMv 3), (cLc (wIt (cName 2)) [4] (gSet 4) tTrue ce__law_split_2)]) sSkip)))
theorem bd__law_split : bodyF { M__law_split with fuel := FU, row := true } N__law_split st__law_split [] = sh__law_split := by kernel_rfl
def fs__law_split : FS := mkFSr ["pauli"] 5 sh__law_split
def go__law_split : List D → Option (List R) := fun xs => okRs (fnRunR 5 sh__law_split xs)
theorem rr__law_split : fs__law_split.rr = some go__law_split := rfl
theorem rn__law_split {xs : List D} {Q : List R → Prop} : Wo (go__law_split xs) Q = Ws (entry 5 none xs) fun s => Wp (sh__law_split s) fun f _ => Fr f Q := w_runR
abbrev st__law_word : Stmt := topS 56
def N__law_word : List Str := ["pieces", "e", "flips", "turns", "letters", "k"]
theorem sc__law_word : FnScope N__law_word ["pieces"] (defScope st__law_word) := ⟨rfl, rfl, rfl, by decide +kernel, rfl, by decide +kernel, by decide +kernel⟩
def M__law_word : En := mkEn [] [] [] ["range", "len", "int"]
def ce__law_word_1 : XF :=
  (cBin dIx (oX (cC (.str (Str.ofString "IXZY")))) (oX (cBin (dBin .Add) (oX (cBin dIx (oName 2) (oName 5))) (oX (cBin (dBin .Mult) (oX (cC (.int 2))) (oX (cBin dIx (oName 3) (oName 5))))))))
def sh__law_word : SF :=
  (sSeq (sTg (gUnp [(gSet 1), (gSet 2), (gSet 3)]) (cName 0)) (sSeq (sSet 4 (cMeth "join" (oX (cC (.str (Str.ofString "")))) [(cLc (wR1 (cLenOf (oName 2))) [5] (gSet 5) tTrue ce__law_word_1)])) (sSeq (sRet (cTup [(cBin (dBin .Mod) (oX (cUn (dB1 "int") (oX (cBin (dBin .Sub) (oName 1) (oX (cMeth "count" (oName 4) [(cC (.str (Str.ofString "Y")))])))))) (oX (cC (.int 4)))), (cName 4)])) sSkip)))
theorem bd__law_word : bodyF { M__law_word with fuel := FU } N__law_word st__law_word (ioL none) = sh__law_word := by kernel_rfl
def fs__law_word : FS := mkFS ["pieces"] [] none 6 sh__law_word
theorem rn__law_word {xs : List D} {Q : R → List D → Prop} : Wq (fs__law_word.run xs) Q = Ws (entry 6 none xs) fun s => Wp (sh__law_word s) fun f s => Fo f none s Q := w_run
theorem io__law_word : fs__law_word.io = none := rfl
abbrev st__law_led : Stmt := topS 59
def N__law_led : List Str := ["gates", "pauli", "e", "flips", "turns", "gate", "name", "a", "b"]
theorem sc__law_led : FnScope N__law_led ["gates", "pauli"] (defScope st__law_led) := ⟨rfl, rfl, rfl, by decide +kernel, rfl, by decide +kernel, by decide +kernel⟩
def M__law_led : En := mkEn [("_law_split", fs__law_split), ("_law_word", fs__law_word)] [] [] ["min", "len"]
def lb__law_led_1 : SF :=
  (sSeq (sPar [6, 7, 8] [(cBin dIx (oName 5) (oX (cC (.int 0)))), (cBin dIx (oName 5) (oX (cBin (dB2 "min") (oX (cC (.int 1))) (oX (cBin (dBin .Sub) (oX (cLenOf (oName 5))) (oX (cC (.int 1)))))))), (cBin dIx (oName 5) (oX (cUn (dUn .USub) (oX (cC (.int 1))))))]) (sSeq (sIf (tBl (cCmp .Eq (oName 6) (oX (cC (.str (Str.ofString "h")))))) (sSeq (sAug 2 (dIop .Add) (oX (cBin (dBin .Mult) (oX (cBin (dBin .Mult) (oX (cC (.int 2))) (oX (cBin dIx (oName 3) (oName 7))))) (oX (cBin dIx (oName 4) (oName 7)))))) (sSeq (sTg (gUnp [(gPut 3 (cName 7)), (gPut 4 (cName 7))]) (cTup [(cBin dIx (oName 4) (oName 7)), (cBin dIx (oName 3) (oName 7))])) sSkip)) sSkip) (sSeq (sIf (tOrs [(tBl (cCmp .Eq (oName 6) (oX (cC (.str (Str.ofString "s")))))), (tBl (cCmp .Eq (oName 6) (oX (cC (.str (Str.ofString "sd"))))))]) (sSeq (sAug 2 (dIop .Add) (oX (cBin (dBin .Mult) (oX (cBin dIx (oName 3) (oName 7))) (oX (cIf (tBl (cCmp .Eq (oName 6) (oX (cC (.str (Str.ofString "s")))))) (cC (.int 1)) (cC (.int 3))))))) (sSeq (sPut 4 (cName 7) (cBin (dBin .BitXor) (oX (cBin dIx (oName 4) (oName 7))) (oX (cBin dIx (oName 3) (oName 7))))) sSkip)) sSkip) (sSeq (sIf (tOrs [(tBl (cCmp .Eq (oName 6) (oX (cC (.str (Str.ofString "x")))))), (tBl (cCmp .Eq (oName 6) (oX (cC (.str (Str.ofString "y"))))))]) (sSeq (sAug 2 (dIop .Add) (oX (cBin (dBin .Mult) (oX (cC (.int 2))) (oX (cBin dIx (oName 4) (oName 7)))))) sSkip) sSkip) (sSeq (sIf (tOrs [(tBl (cCmp .Eq (oName 6) (oX (cC (.str (Str.ofString "z")))))), (tBl (cCmp .Eq (oName 6) (oX (cC (.str (Str.ofString "y"))))))]) (sSeq (sAug 2 (dIop .Add) (oX (cBin (dBin .Mult) (oX (cC (.int 2))) (oX (cBin dIx (oName 3) (oName 7)))))) sSkip) sSkip) (sSeq (sIf (tBl (cCmp .Eq (oName 6) (oX (cC (.str (Str.ofString "cx")))))) (sSeq (sTg (gUnp [(gPut 3 (cName 8)), (gPut 4 (cName 7))]) (cTup [(cBin (dBin .BitXor) (oX (cBin dIx (oName 3) (oName 8))) (oX (cBin dIx (oName 3) (oName 7)))), (cBin (dBin .BitXor) (oX (cBin dIx (oName 4) (oName 7))) (oX (cBin dIx (oName 4) (oName 8))))])) sSkip) sSkip) (sSeq (sIf (tBl (cCmp .Eq (oName 6) (oX (cC (.str (Str.ofString "cz")))))) (sSeq (sAug 2 (dIop .Add) (oX (cBin (dBin .Mult) (oX (cBin (dBin .Mult) (oX (cC (.int 2))) (oX (cBin dIx (oName 3) (oName 7))))) (oX (cBin dIx (oName 3) (oName 8)))))) (sSeq (sTg (gUnp [(gPut 4 (cName 7)), (gPut 4 (cName 8))]) (cTup [(cBin (dBin .BitXor) (oX (cBin dIx (oName 4) (oName 7))) (oX (cBin dIx (oName 3) (oName 8)))), (cBin (dBin .BitXor) (oX (cBin dIx (oName 4) (oName 8))) (oX (cBin dIx (oName 3) (oName 7))))])) sSkip)) sSkip) (sSeq (sIf (tBl (cCmp .Eq (oName 6) (oX (cC (.str (Str.ofString "swap")))))) (sSeq (sTg (gUnp [(gPut 3 (cName 7)), (gPut 3 (cName 8))]) (cTup [(cBin dIx (oName 3) (oName 8)), (cBin dIx (oName 3) (oName 7))])) (sSeq (sTg (gUnp [(gPut 4 (cName 7)), (gPut 4 (cName 8))]) (cTup [(cBin dIx (oName 4) (oName 8)), (cBin dIx (oName 4) (oName 7))])) sSkip)) sSkip) sSkip))))))))
def sh__law_led : SF :=
  (sSeq (sUnR [2, 3, 4] fs__law_split [(oX (cName 1))]) (sSeq (sFor (wIt (cName 0)) (gSet 5) lb__law_led_1) (sSeq (sRet (cCall fs__law_word [(oX (cLst [(cName 2), (cName 3), (cName 4)]))])) sSkip)))
theorem bd__law_led : bodyF { M__law_led with fuel := FU } N__law_led st__law_led (ioL none) = sh__law_led := by kernel_rfl
def fs__law_led : FS := mkFS ["gates", "pauli"] [] none 9 sh__law_led
theorem rn__law_led {xs : List D} {Q : R → List D → Prop} : Wq (fs__law_led.run xs) Q = Ws (entry 9 none xs) fun s => Wp (sh__law_led s) fun f s => Fo f none s Q := w_run
theorem io__law_led : fs__law_led.io = none := rfl
abbrev st__law_at : Stmt := topS 58
def N__law_at : List Str := ["many", "line", "letter"]
theorem sc__law_at : FnScope N__law_at ["many", "line", "letter"] (defScope st__law_at) := ⟨rfl, rfl, rfl, by decide +kernel, rfl, by decide +kernel, by decide +kernel⟩
def M__law_at : En := mkEn [] [] [] []
def sh__law_at : SF :=
  (sSeq (sRet (cTup [(cC (.int 0)), (cBin (dBin .Add) (oX (cBin (dBin .Add) (oX (cBin (dBin .Mult) (oX (cC (.str (Str.ofString "I")))) (oName 1))) (oName 2))) (oX (cBin (dBin .Mult) (oX (cC (.str (Str.ofString "I")))) (oX (cBin (dBin .Sub) (oX (cBin (dBin .Sub) (oName 0) (oX (cC (.int 1))))) (oName 1))))))])) sSkip)
theorem bd__law_at : bodyF { M__law_at with fuel := FU } N__law_at st__law_at (ioL none) = sh__law_at := by kernel_rfl
def fs__law_at : FS := mkFS ["many", "line", "letter"] [] none 3 sh__law_at
theorem rn__law_at {xs : List D} {Q : R → List D → Prop} : Wq (fs__law_at.run xs) Q = Ws (entry 3 none xs) fun s => Wp (sh__law_at s) fun f s => Fo f none s Q := w_run
theorem io__law_at : fs__law_at.io = none := rfl
abbrev st__law_table_of : Stmt := topS 65
def N__law_table_of : List Str := ["many", "gates", "at"]
theorem sc__law_table_of : FnScope N__law_table_of ["many", "gates"] (defScope st__law_table_of) := ⟨rfl, rfl, rfl, by decide +kernel, rfl, by decide +kernel, by decide +kernel⟩
def M__law_table_of : En := mkEn [("_law_led", fs__law_led), ("_law_at", fs__law_at)] [] [] ["tuple", "range", "int"]
def ce__law_table_of_1 : XF :=
  (cCall fs__law_led [(oX (cName 1)), (oX (cCall fs__law_at [(oX (cName 0)), (oX (cBin (dBin .Mod) (oX (cUn (dB1 "int") (oName 2))) (oName 0))), (oX (cBin dIx (oX (cC (.str (Str.ofString "XZ")))) (oX (cBin (dBin .FloorDiv) (oName 2) (oName 0)))))]))])
def sh__law_table_of : SF :=
  (sSeq (sRet (cUn (dB1 "tuple") (oX (cLc (wR1 (cBin (dBin .Mult) (oX (cC (.int 2))) (oName 0))) [2] (gSet 2) tTrue ce__law_table_of_1)))) sSkip)
theorem bd__law_table_of : bodyF { M__law_table_of with fuel := FU } N__law_table_of st__law_table_of (ioL none) = sh__law_table_of := by kernel_rfl
def fs__law_table_of : FS := mkFS ["many", "gates"] [] none 3 sh__law_table_of
theorem rn__law_table_of {xs : List D} {Q : R → List D → Prop} : Wq (fs__law_table_of.run xs) Q = Ws (entry 3 none xs) fun s => Wp (sh__law_table_of s) fun f s => Fo f none s Q := w_run
theorem io__law_table_of : fs__law_table_of.io = none := rfl
abbrev st__law_same : Stmt := topS 54
def N__law_same : List Str := ["got", "due", "k"]
theorem sc__law_same : FnScope N__law_same ["got", "due"] (defScope st__law_same) := ⟨rfl, rfl, rfl, by decide +kernel, rfl, by decide +kernel, by decide +kernel⟩
def M__law_same (fs__law_same : FS) : En := mkEn [("_law_same", fs__law_same)] [] [] ["isinstance", "tuple", "list", "len", "all", "range", "bool", "str", "int"]
def ce__law_same_1 (fs__law_same : FS) : XF :=
  (cCall fs__law_same [(oX (cBin dIx (oName 0) (oName 2))), (oX (cBin dIx (oName 1) (oName 2)))])
def sh__law_same (fs__law_same : FS) : SF :=
  (sSeq (sIf (tTru (oX (cIsi (oName 1) ["tuple", "list"]))) (sSeq (sIf (tOrs [(tBl (cCmp .NotEq (oX (cIsi (oName 0) ["tuple"])) (oX (cIsi (oName 1) ["tuple"])))), (tBl (cCmp .NotEq (oX (cIsi (oName 0) ["list"])) (oX (cIsi (oName 1) ["list"]))))]) (sSeq (sRet (cC (.bool false))) sSkip) sSkip) (sSeq (sRet (cAnds [(cCmp .Eq (oX (cLenOf (oName 0))) (oX (cLenOf (oName 1)))), (cUn (dB1 "all") (oX (cLc (wR1 (cLenOf (oName 1))) [2] (gSet 2) tTrue (ce__law_same_1 fs__law_same))))])) sSkip)) sSkip) (sSeq (sIf (tOrs [(tBl (cCmp .Is (oName 1) (oX (cC .none)))), (tBl (cCmp .Is (oName 0) (oX (cC .none))))]) (sSeq (sRet (cAnds [(cCmp .Is (oName 1) (oX (cC .none))), (cCmp .Is (oName 0) (oX (cC .none)))])) sSkip) sSkip) (sSeq (sIf (tOrs [(tTru (oX (cIsi (oName 1) ["bool"]))), (tTru (oX (cIsi (oName 0) ["bool"])))]) (sSeq (sRet (cAnds [(cIsi (oName 1) ["bool"]), (cIsi (oName 0) ["bool"]), (cCmp .Eq (oName 0) (oName 1))])) sSkip) sSkip) (sSeq (sIf (tTru (oX (cIsi (oName 1) ["str"]))) (sSeq (sRet (cAnds [(cIsi (oName 0) ["str"]), (cCmp .Eq (oName 0) (oName 1))])) sSkip) sSkip) (sSeq (sRet (cAnds [(cIsi (oName 1) ["int"]), (cIsi (oName 0) ["int"]), (cCmp .Eq (oName 0) (oName 1))])) sSkip)))))
theorem bd__law_same (run : List D → Option (R × List D)) : bodyF { M__law_same ⟨["got", "due"], [], none, run, none, none⟩ with fuel := FU } N__law_same st__law_same (ioL none) = sh__law_same ⟨["got", "due"], [], none, run, none, none⟩ := by kernel_rfl
def run__law_same : Nat → List D → Option (R × List D)
  | 0, _ => none
  | k + 1, xs => okRs (fnRun 3 none (sh__law_same ⟨["got", "due"], [], none, run__law_same k, none, none⟩) xs)
def fs__law_same (k : Nat) : FS := ⟨["got", "due"], [], none, run__law_same k, none, none⟩
theorem rn__law_same {k : Nat} {xs : List D} {Q : R → List D → Prop} : Wq ((fs__law_same (k + 1)).run xs) Q = Ws (entry 3 none xs) fun s => Wp (sh__law_same (fs__law_same k) s) fun f s => Fo f none s Q := w_fnRun
theorem io__law_same {k : Nat} : (fs__law_same k).io = none := rfl
abbrev st_is_integer : Stmt := topS 7
def N_is_integer : List Str := ["value"]
theorem sc_is_integer : FnScope N_is_integer ["value"] (defScope st_is_integer) := ⟨rfl, rfl, rfl, by decide +kernel, rfl, by decide +kernel, by decide +kernel⟩
def M_is_integer : En := mkEn [] [] [] ["isinstance", "int", "bool"]
def sh_is_integer : SF :=
  (sSeq (sRet (cAnds [(cIsi (oName 0) ["int"]), (cNot (tTru (oX (cIsi (oName 0) ["bool"]))))])) sSkip)
theorem bd_is_integer : bodyF { M_is_integer with fuel := FU } N_is_integer st_is_integer (ioL none) = sh_is_integer := by kernel_rfl
def fs_is_integer : FS := mkFS ["value"] [] none 1 sh_is_integer
theorem rn_is_integer {xs : List D} {Q : R → List D → Prop} : Wq (fs_is_integer.run xs) Q = Ws (entry 1 none xs) fun s => Wp (sh_is_integer s) fun f s => Fo f none s Q := w_run
theorem io_is_integer : fs_is_integer.io = none := rfl
abbrev st_is_natural : Stmt := topS 8
def N_is_natural : List Str := ["value"]
theorem sc_is_natural : FnScope N_is_natural ["value"] (defScope st_is_natural) := ⟨rfl, rfl, rfl, by decide +kernel, rfl, by decide +kernel, by decide +kernel⟩
def M_is_natural : En := mkEn [("is_integer", fs_is_integer)] [] [] []
def sh_is_natural : SF :=
  (sSeq (sRet (cAnds [(cCall fs_is_integer [(oX (cName 0))]), (cCmp .GtE (oName 0) (oX (cC (.int 0))))])) sSkip)
theorem bd_is_natural : bodyF { M_is_natural with fuel := FU } N_is_natural st_is_natural (ioL none) = sh_is_natural := by kernel_rfl
def fs_is_natural : FS := mkFS ["value"] [] none 1 sh_is_natural
theorem rn_is_natural {xs : List D} {Q : R → List D → Prop} : Wq (fs_is_natural.run xs) Q = Ws (entry 1 none xs) fun s => Wp (sh_is_natural s) fun f s => Fo f none s Q := w_run
theorem io_is_natural : fs_is_natural.io = none := rfl
abbrev st_is_gate : Stmt := topS 12
def N_is_gate : List Str := ["many", "value", "lines", "line"]
theorem sc_is_gate : FnScope N_is_gate ["many", "value"] (defScope st_is_gate) := ⟨rfl, rfl, rfl, by decide +kernel, rfl, by decide +kernel, by decide +kernel⟩
def M_is_gate : En := mkEn [("is_natural", fs_is_natural)] [] [("GATES", d_GATES)] ["isinstance", "tuple", "len", "str", "all"]
def ce_is_gate_1 : XF :=
  (cAnds [(cCall fs_is_natural [(oX (cName 3))]), (cCmp .Lt (oName 3) (oName 0))])
def sh_is_gate : SF :=
  (sSeq (sIf (tOrs [(tNotF (tTru (oX (cIsi (oName 1) ["tuple"])))), (tBl (cCmp .Eq (oX (cLenOf (oName 1))) (oX (cC (.int 0))))), (tNotF (tTru (oX (cIsi (oX (cBin dIx (oName 1) (oX (cC (.int 0))))) ["str"])))), (tBl (cDin true d_GATES (oX (cBin dIx (oName 1) (oX (cC (.int 0)))))))]) (sSeq (sRet (cC (.bool false))) sSkip) sSkip) (sSeq (sSet 2 (cSl (oName 1) (pAt (cC (.int 1))) pNo)) (sSeq (sIf (tOrs [(tBl (cCmp .NotEq (oX (cLenOf (oName 2))) (oX (cDix d_GATES (oX (cBin dIx (oName 1) (oX (cC (.int 0))))))))), (tNotF (tTru (oX (cUn (dB1 "all") (oX (cLc (wIt (cName 2)) [3] (gSet 3) tTrue ce_is_gate_1))))))]) (sSeq (sRet (cC (.bool false))) sSkip) sSkip) (sSeq (sRet (cOrs [(cCmp .Lt (oX (cLenOf (oName 2))) (oX (cC (.int 2)))), (cCmp .NotEq (oX (cBin dIx (oName 2) (oX (cC (.int 0))))) (oX (cBin dIx (oName 2) (oX (cC (.int 1))))))])) sSkip))))
theorem bd_is_gate : bodyF { M_is_gate with fuel := FU } N_is_gate st_is_gate (ioL none) = sh_is_gate := by kernel_rfl
def fs_is_gate : FS := mkFS ["many", "value"] [] none 4 sh_is_gate
theorem rn_is_gate {xs : List D} {Q : R → List D → Prop} : Wq (fs_is_gate.run xs) Q = Ws (entry 4 none xs) fun s => Wp (sh_is_gate s) fun f s => Fo f none s Q := w_run
theorem io_is_gate : fs_is_gate.io = none := rfl
abbrev st_is_circuit : Stmt := topS 13
def N_is_circuit : List Str := ["value", "gate"]
theorem sc_is_circuit : FnScope N_is_circuit ["value"] (defScope st_is_circuit) := ⟨rfl, rfl, rfl, by decide +kernel, rfl, by decide +kernel, by decide +kernel⟩
def M_is_circuit : En := mkEn [("is_integer", fs_is_integer), ("is_gate", fs_is_gate)] [] [] ["isinstance", "tuple", "len", "all"]
def ce_is_circuit_1 : XF :=
  (cCall fs_is_gate [(oX (cBin dIx (oName 0) (oX (cC (.int 0))))), (oX (cName 1))])
def sh_is_circuit : SF :=
  (sSeq (sIf (tOrs [(tNotF (tTru (oX (cIsi (oName 0) ["tuple"])))), (tBl (cCmp .NotEq (oX (cLenOf (oName 0))) (oX (cC (.int 2))))), (tNotF (tTru (oX (cCall fs_is_integer [(oX (cBin dIx (oName 0) (oX (cC (.int 0)))))])))), (tBl (cCmp .Lt (oX (cBin dIx (oName 0) (oX (cC (.int 0))))) (oX (cC (.int 1)))))]) (sSeq (sRet (cC (.bool false))) sSkip) sSkip) (sSeq (sRet (cAnds [(cIsi (oX (cBin dIx (oName 0) (oX (cC (.int 1))))) ["tuple"]), (cUn (dB1 "all") (oX (cLc (wIt (cBin dIx (oName 0) (oX (cC (.int 1))))) [1] (gSet 1) tTrue ce_is_circuit_1)))])) sSkip))
theorem bd_is_circuit : bodyF { M_is_circuit with fuel := FU } N_is_circuit st_is_circuit (ioL none) = sh_is_circuit := by kernel_rfl
def fs_is_circuit : FS := mkFS ["value"] [] none 2 sh_is_circuit
theorem rn_is_circuit {xs : List D} {Q : R → List D → Prop} : Wq (fs_is_circuit.run xs) Q = Ws (entry 2 none xs) fun s => Wp (sh_is_circuit s) fun f s => Fo f none s Q := w_run
theorem io_is_circuit : fs_is_circuit.io = none := rfl
abbrev st_check_circuit : Stmt := topS 14
def N_check_circuit : List Str := ["circuit"]
theorem sc_check_circuit : FnScope N_check_circuit ["circuit"] (defScope st_check_circuit) := ⟨rfl, rfl, rfl, by decide +kernel, rfl, by decide +kernel, by decide +kernel⟩
def M_check_circuit : En := mkEn [("is_circuit", fs_is_circuit)] [] [] []
def sh_check_circuit : SF :=
  (sSeq (sIf (tNotF (tTru (oX (cCall fs_is_circuit [(oX (cName 0))])))) (sSeq badS sSkip) sSkip) sSkip)
theorem bd_check_circuit : bodyF { M_check_circuit with fuel := FU } N_check_circuit st_check_circuit (ioL none) = sh_check_circuit := by kernel_rfl
def fs_check_circuit : FS := mkFS ["circuit"] [] none 1 sh_check_circuit
theorem rn_check_circuit {xs : List D} {Q : R → List D → Prop} : Wq (fs_check_circuit.run xs) Q = Ws (entry 1 none xs) fun s => Wp (sh_check_circuit s) fun f s => Fo f none s Q := w_run
theorem io_check_circuit : fs_check_circuit.io = none := rfl
abbrev st_is_without : Stmt := topS 16
def N_is_without : List Str := ["circuit", "names", "gate"]
theorem sc_is_without : FnScope N_is_without ["circuit", "names"] (defScope st_is_without) := ⟨rfl, rfl, rfl, by decide +kernel, rfl, by decide +kernel, by decide +kernel⟩
def M_is_without : En := mkEn [] [] [] ["all"]
def ce_is_without_1 : XF :=
  (cCmp .NotIn (oX (cBin dIx (oName 2) (oX (cC (.int 0))))) (oName 1))
def sh_is_without : SF :=
  (sSeq (sRet (cUn (dB1 "all") (oX (cLc (wIt (cBin dIx (oName 0) (oX (cC (.int 1))))) [2] (gSet 2) tTrue ce_is_without_1)))) sSkip)
theorem bd_is_without : bodyF { M_is_without with fuel := FU } N_is_without st_is_without (ioL none) = sh_is_without := by kernel_rfl
def fs_is_without : FS := mkFS ["circuit", "names"] [] none 3 sh_is_without
theorem rn_is_without {xs : List D} {Q : R → List D → Prop} : Wq (fs_is_without.run xs) Q = Ws (entry 3 none xs) fun s => Wp (sh_is_without s) fun f s => Fo f none s Q := w_run
theorem io_is_without : fs_is_without.io = none := rfl
abbrev st_check_clifford : Stmt := topS 29
def N_check_clifford : List Str := ["circuit"]
theorem sc_check_clifford : FnScope N_check_clifford ["circuit"] (defScope st_check_clifford) := ⟨rfl, rfl, rfl, by decide +kernel, rfl, by decide +kernel, by decide +kernel⟩
def M_check_clifford : En := mkEn [("check_circuit", fs_check_circuit), ("is_without", fs_is_without)] [] [] []
def sh_check_clifford : SF :=
  (sSeq (sDrop (cCall fs_check_circuit [(oX (cName 0))])) (sSeq (sIf (tNotF (tTru (oX (cCall fs_is_without [(oX (cName 0)), (oX (cTup [(cC (.str (Str.ofString "t"))), (cC (.str (Str.ofString "td")))]))])))) (sSeq badS sSkip) sSkip) sSkip))
theorem bd_check_clifford : bodyF { M_check_clifford with fuel := FU } N_check_clifford st_check_clifford (ioL none) = sh_check_clifford := by kernel_rfl
def fs_check_clifford : FS := mkFS ["circuit"] [] none 1 sh_check_clifford
theorem rn_check_clifford {xs : List D} {Q : R → List D → Prop} : Wq (fs_check_clifford.run xs) Q = Ws (entry 1 none xs) fun s => Wp (sh_check_clifford s) fun f s => Fo f none s Q := w_run
theorem io_check_clifford : fs_check_clifford.io = none := rfl
abbrev st_letter_at : Stmt := topS 32
def N_letter_at : List Str := ["many", "line", "letter"]
theorem sc_letter_at : FnScope N_letter_at ["many", "line", "letter"] (defScope st_letter_at) := ⟨rfl, rfl, rfl, by decide +kernel, rfl, by decide +kernel, by decide +kernel⟩
def M_letter_at : En := mkEn [] [] [] []
def sh_letter_at : SF :=
  (sSeq (sRet (cTup [(cC (.int 0)), (cBin (dBin .Add) (oX (cBin (dBin .Add) (oX (cBin (dBin .Mult) (oX (cC (.str (Str.ofString "I")))) (oName 1))) (oName 2))) (oX (cBin (dBin .Mult) (oX (cC (.str (Str.ofString "I")))) (oX (cBin (dBin .Sub) (oX (cBin (dBin .Sub) (oName 0) (oX (cC (.int 1))))) (oName 1))))))])) sSkip)
theorem bd_letter_at : bodyF { M_letter_at with fuel := FU } N_letter_at st_letter_at (ioL none) = sh_letter_at := by kernel_rfl
def fs_letter_at : FS := mkFS ["many", "line", "letter"] [] none 3 sh_letter_at
theorem rn_letter_at {xs : List D} {Q : R → List D → Prop} : Wq (fs_letter_at.run xs) Q = Ws (entry 3 none xs) fun s => Wp (sh_letter_at s) fun f s => Fo f none s Q := w_run
theorem io_letter_at : fs_letter_at.io = none := rfl
abbrev st_ones_of : Stmt := topS 33
def N_ones_of : List Str := ["many", "letter", "line"]
theorem sc_ones_of : FnScope N_ones_of ["many"] (defScope st_ones_of) := ⟨rfl, rfl, rfl, by decide +kernel, rfl, by decide +kernel, by decide +kernel⟩
def M_ones_of : En := mkEn [("letter_at", fs_letter_at)] [] [] ["range"]
def sh_ones_of : SF :=
  (sSeq (sRet (cLc2 (wIt (cC (.str (Str.ofString "XZ")))) [1, 2] (gSet 1) tTrue (wR1 (cName 0)) [2] (gSet 2) tTrue (cCall fs_letter_at [(oX (cName 0)), (oX (cName 2)), (oX (cName 1))]))) sSkip)
theorem bd_ones_of : bodyF { M_ones_of with fuel := FU } N_ones_of st_ones_of (ioL none) = sh_ones_of := by kernel_rfl
def fs_ones_of : FS := mkFS ["many"] [] none 3 sh_ones_of
theorem rn_ones_of {xs : List D} {Q : R → List D → Prop} : Wq (fs_ones_of.run xs) Q = Ws (entry 3 none xs) fun s => Wp (sh_ones_of s) fun f s => Fo f none s Q := w_run
theorem io_ones_of : fs_ones_of.io = none := rfl
abbrev st_product_of : Stmt := topS 30
def N_product_of : List Str := ["pauli", "second", "e", "letters", "one", "other", "more", "letter"]
theorem sc_product_of : FnScope N_product_of ["pauli", "second"] (defScope st_product_of) := ⟨rfl, rfl, rfl, by decide +kernel, rfl, by decide +kernel, by decide +kernel⟩
def M_product_of : En := mkEn [] [] [("PRODUCTS", d_PRODUCTS)] ["zip"]
def lb_product_of_1 : SF :=
  (sSeq (sTg (gUnp [(gSet 6), (gSet 7)]) (cDix d_PRODUCTS (oX (cBin (dBin .Add) (oName 4) (oName 5))))) (sSeq (sAug 2 (dIop .Add) (oName 6)) (sSeq (sDrop (cMut 3 (dMut "append") [(cName 7)])) sSkip)))
def sh_product_of : SF :=
  (sSeq (sPar [2, 3] [(cBin (dBin .Add) (oX (cBin dIx (oName 0) (oX (cC (.int 0))))) (oX (cBin dIx (oName 1) (oX (cC (.int 0)))))), (cLst [])]) (sSeq (sFor (wZip (cBin dIx (oName 0) (oX (cC (.int 1)))) (cBin dIx (oName 1) (oX (cC (.int 1))))) (gUnp [(gSet 4), (gSet 5)]) lb_product_of_1) (sSeq (sRet (cTup [(cBin (dBin .Mod) (oName 2) (oX (cC (.int 4)))), (cMeth "join" (oX (cC (.str (Str.ofString "")))) [(cName 3)])])) sSkip)))
theorem bd_product_of : bodyF { M_product_of with fuel := FU } N_product_of st_product_of (ioL none) = sh_product_of := by kernel_rfl
def fs_product_of : FS := mkFS ["pauli", "second"] [] none 8 sh_product_of
theorem rn_product_of {xs : List D} {Q : R → List D → Prop} : Wq (fs_product_of.run xs) Q = Ws (entry 8 none xs) fun s => Wp (sh_product_of s) fun f s => Fo f none s Q := w_run
theorem io_product_of : fs_product_of.io = none := rfl
abbrev st_led_by : Stmt := topS 34
def N_led_by : List Str := ["gate", "pauli", "name", "lines", "e", "letters", "signs", "more", "first", "second", "own", "other", "both"]
theorem sc_led_by : FnScope N_led_by ["gate", "pauli"] (defScope st_led_by) := ⟨rfl, rfl, rfl, by decide +kernel, rfl, by decide +kernel, by decide +kernel⟩
def M_led_by : En := mkEn [("product_of", fs_product_of)] [] [("LED", d_LED), ("FIRST", d_FIRST), ("SECOND", d_SECOND)] ["len", "list"]
def sh_led_by : SF :=
  (sSeq (sPar [2, 3] [(cBin dIx (oName 0) (oX (cC (.int 0)))), (cSl (oName 0) (pAt (cC (.int 1))) pNo)]) (sSeq (sTg (gUnp [(gSet 4), (gSet 5)]) (cName 1)) (sSeq (sIf (tBl (cCmp .Eq (oX (cLenOf (oName 3))) (oX (cC (.int 0))))) (sSeq (sRetN 1) sSkip) sSkip) (sSeq (sSet 6 (cListOf (oName 5))) (sSeq (sIf (tBl (cCmp .Eq (oX (cLenOf (oName 3))) (oX (cC (.int 1))))) (sSeq (sTg (gUnp [(gSet 7), (gPut 6 (cBin dIx (oName 3) (oX (cC (.int 0)))))]) (cDget d_LED [(cBin (dBin .Add) (oName 2) (oX (cBin dIx (oName 5) (oX (cBin dIx (oName 3) (oX (cC (.int 0)))))))), (cTup [(cC (.int 0)), (cBin dIx (oName 5) (oX (cBin dIx (oName 3) (oX (cC (.int 0))))))])])) sSkip) (sSeq (sTg (gUnp [(gSet 8), (gSet 9)]) (cName 3)) (sSeq (sPar [10, 11] [(cDix d_FIRST (oX (cBin (dBin .Add) (oName 2) (oX (cBin dIx (oName 5) (oName 8)))))), (cDix d_SECOND (oX (cBin (dBin .Add) (oName 2) (oX (cBin dIx (oName 5) (oName 9))))))]) (sSeq (sTg (gUnp [(gSet 7), (gSet 12)]) (cCall fs_product_of [(oX (cTup [(cC (.int 0)), (cName 10)])), (oX (cTup [(cC (.int 0)), (cName 11)]))])) (sSeq (sTg (gUnp [(gPut 6 (cName 8)), (gPut 6 (cName 9))]) (cTup [(cBin dIx (oName 12) (oX (cC (.int 0)))), (cBin dIx (oName 12) (oX (cC (.int 1))))])) sSkip))))) (sSeq (sRet (cTup [(cBin (dBin .Mod) (oX (cBin (dBin .Add) (oName 4) (oName 7))) (oX (cC (.int 4)))), (cMeth "join" (oX (cC (.str (Str.ofString "")))) [(cName 6)])])) sSkip))))))
theorem bd_led_by : bodyF { M_led_by with fuel := FU } N_led_by st_led_by (ioL none) = sh_led_by := by kernel_rfl
def fs_led_by : FS := mkFS ["gate", "pauli"] [] none 13 sh_led_by
theorem rn_led_by {xs : List D} {Q : R → List D → Prop} : Wq (fs_led_by.run xs) Q = Ws (entry 13 none xs) fun s => Wp (sh_led_by s) fun f s => Fo f none s Q := w_run
theorem io_led_by : fs_led_by.io = none := rfl
abbrev st_led_by_all : Stmt := topS 35
def N_led_by_all : List Str := ["gates", "pauli", "gate"]
theorem sc_led_by_all : FnScope N_led_by_all ["gates", "pauli"] (defScope st_led_by_all) := ⟨rfl, rfl, rfl, by decide +kernel, rfl, by decide +kernel, by decide +kernel⟩
def M_led_by_all : En := mkEn [("led_by", fs_led_by)] [] [] []
def lb_led_by_all_1 : SF :=
  (sSeq (sSet 1 (cCall fs_led_by [(oX (cName 2)), (oX (cName 1))])) sSkip)
def sh_led_by_all : SF :=
  (sSeq (sFor (wIt (cName 0)) (gSet 2) lb_led_by_all_1) (sSeq (sRetN 1) sSkip))
theorem bd_led_by_all : bodyF { M_led_by_all with fuel := FU } N_led_by_all st_led_by_all (ioL none) = sh_led_by_all := by kernel_rfl
def fs_led_by_all : FS := mkFS ["gates", "pauli"] [] none 3 sh_led_by_all
theorem rn_led_by_all {xs : List D} {Q : R → List D → Prop} : Wq (fs_led_by_all.run xs) Q = Ws (entry 3 none xs) fun s => Wp (sh_led_by_all s) fun f s => Fo f none s Q := w_run
theorem io_led_by_all : fs_led_by_all.io = none := rfl
abbrev st_led_of : Stmt := topS 36
def N_led_of : List Str := ["circuit", "pauli"]
theorem sc_led_of : FnScope N_led_of ["circuit", "pauli"] (defScope st_led_of) := ⟨rfl, rfl, rfl, by decide +kernel, rfl, by decide +kernel, by decide +kernel⟩
def M_led_of : En := mkEn [("led_by_all", fs_led_by_all)] [] [] []
def sh_led_of : SF :=
  (sSeq (sRet (cCall fs_led_by_all [(oX (cBin dIx (oName 0) (oX (cC (.int 1))))), (oX (cName 1))])) sSkip)
theorem bd_led_of : bodyF { M_led_of with fuel := FU } N_led_of st_led_of (ioL none) = sh_led_of := by kernel_rfl
def fs_led_of : FS := mkFS ["circuit", "pauli"] [] none 2 sh_led_of
theorem rn_led_of {xs : List D} {Q : R → List D → Prop} : Wq (fs_led_of.run xs) Q = Ws (entry 2 none xs) fun s => Wp (sh_led_of s) fun f s => Fo f none s Q := w_run
theorem io_led_of : fs_led_of.io = none := rfl
abbrev st_table_of_right : Stmt := topS 42
def N_table_of_right : List Str := ["circuit", "word"]
theorem sc_table_of_right : FnScope N_table_of_right ["circuit"] (defScope st_table_of_right) := ⟨rfl, rfl, rfl, by decide +kernel, rfl, by decide +kernel, by decide +kernel⟩
def M_table_of_right : En := mkEn [("ones_of", fs_ones_of), ("led_of", fs_led_of)] [] [] ["tuple"]
def ce_table_of_right_1 : XF :=
  (cCall fs_led_of [(oX (cName 0)), (oX (cName 1))])
def sh_table_of_right : SF :=
  (sSeq (sRet (cUn (dB1 "tuple") (oX (cLc (wIt (cCall fs_ones_of [(oX (cBin dIx (oName 0) (oX (cC (.int 0)))))])) [1] (gSet 1) tTrue ce_table_of_right_1)))) sSkip)
theorem bd_table_of_right : bodyF { M_table_of_right with fuel := FU } N_table_of_right st_table_of_right (ioL none) = sh_table_of_right := by kernel_rfl
def fs_table_of_right : FS := mkFS ["circuit"] [] none 2 sh_table_of_right
theorem rn_table_of_right {xs : List D} {Q : R → List D → Prop} : Wq (fs_table_of_right.run xs) Q = Ws (entry 2 none xs) fun s => Wp (sh_table_of_right s) fun f s => Fo f none s Q := w_run
theorem io_table_of_right : fs_table_of_right.io = none := rfl
abbrev st_table_of : Stmt := topS 47
def N_table_of : List Str := ["circuit"]
theorem sc_table_of : FnScope N_table_of ["circuit"] (defScope st_table_of) := ⟨rfl, rfl, rfl, by decide +kernel, rfl, by decide +kernel, by decide +kernel⟩
def M_table_of : En := mkEn [("check_clifford", fs_check_clifford), ("table_of_right", fs_table_of_right)] [] [] []
def sh_table_of : SF :=
  (sSeq (sDrop (cCall fs_check_clifford [(oX (cName 0))])) (sSeq (sRet (cCall fs_table_of_right [(oX (cName 0))])) sSkip))
theorem bd_table_of : bodyF { M_table_of with fuel := FU } N_table_of st_table_of (ioL none) = sh_table_of := by kernel_rfl
def fs_table_of : FS := mkFS ["circuit"] [["circuit"]] none 1 sh_table_of
theorem rn_table_of {xs : List D} {Q : R → List D → Prop} : Wq (fs_table_of.run xs) Q = Ws (entry 1 none xs) fun s => Wp (sh_table_of s) fun f s => Fo f none s Q := w_run
theorem io_table_of : fs_table_of.io = none := rfl
theorem pk_table_of_0 {w0 : O} : pick fs_table_of.ps ["circuit"] [] [w0] = some [w0] := by kernel_rfl
abbrev st_check_two : Stmt := topS 15
def N_check_two : List Str := ["circuit", "second_circuit"]
theorem sc_check_two : FnScope N_check_two ["circuit", "second_circuit"] (defScope st_check_two) := ⟨rfl, rfl, rfl, by decide +kernel, rfl, by decide +kernel, by decide +kernel⟩
def M_check_two : En := mkEn [("check_circuit", fs_check_circuit)] [] [] []
def sh_check_two : SF :=
  (sSeq (sDrop (cCall fs_check_circuit [(oX (cName 0))])) (sSeq (sDrop (cCall fs_check_circuit [(oX (cName 1))])) (sSeq (sIf (tBl (cCmp .NotEq (oX (cBin dIx (oName 0) (oX (cC (.int 0))))) (oX (cBin dIx (oName 1) (oX (cC (.int 0))))))) (sSeq badS sSkip) sSkip) sSkip)))
theorem bd_check_two : bodyF { M_check_two with fuel := FU } N_check_two st_check_two (ioL none) = sh_check_two := by kernel_rfl
def fs_check_two : FS := mkFS ["circuit", "second_circuit"] [] none 2 sh_check_two
theorem rn_check_two {xs : List D} {Q : R → List D → Prop} : Wq (fs_check_two.run xs) Q = Ws (entry 2 none xs) fun s => Wp (sh_check_two s) fun f s => Fo f none s Q := w_run
theorem io_check_two : fs_check_two.io = none := rfl
abbrev st_joined_of : Stmt := topS 17
def N_joined_of : List Str := ["circuit", "second_circuit"]
theorem sc_joined_of : FnScope N_joined_of ["circuit", "second_circuit"] (defScope st_joined_of) := ⟨rfl, rfl, rfl, by decide +kernel, rfl, by decide +kernel, by decide +kernel⟩
def M_joined_of : En := mkEn [] [] [] []
def sh_joined_of : SF :=
  (sSeq (sRet (cTup [(cBin dIx (oName 0) (oX (cC (.int 0)))), (cBin (dBin .Add) (oX (cBin dIx (oName 0) (oX (cC (.int 1))))) (oX (cBin dIx (oName 1) (oX (cC (.int 1))))))])) sSkip)
theorem bd_joined_of : bodyF { M_joined_of with fuel := FU } N_joined_of st_joined_of (ioL none) = sh_joined_of := by kernel_rfl
def fs_joined_of : FS := mkFS ["circuit", "second_circuit"] [] none 2 sh_joined_of
theorem rn_joined_of {xs : List D} {Q : R → List D → Prop} : Wq (fs_joined_of.run xs) Q = Ws (entry 2 none xs) fun s => Wp (sh_joined_of s) fun f s => Fo f none s Q := w_run
theorem io_joined_of : fs_joined_of.io = none := rfl
abbrev st_joined : Stmt := topS 19
def N_joined : List Str := ["circuit", "second_circuit"]
theorem sc_joined : FnScope N_joined ["circuit", "second_circuit"] (defScope st_joined) := ⟨rfl, rfl, rfl, by decide +kernel, rfl, by decide +kernel, by decide +kernel⟩
def M_joined : En := mkEn [("check_two", fs_check_two), ("joined_of", fs_joined_of)] [] [] []
def sh_joined : SF :=
  (sSeq (sDrop (cCall fs_check_two [(oX (cName 0)), (oX (cName 1))])) (sSeq (sRet (cCall fs_joined_of [(oX (cName 0)), (oX (cName 1))])) sSkip))
theorem bd_joined : bodyF { M_joined with fuel := FU } N_joined st_joined (ioL none) = sh_joined := by kernel_rfl
def fs_joined : FS := mkFS ["circuit", "second_circuit"] [] none 2 sh_joined
theorem rn_joined {xs : List D} {Q : R → List D → Prop} : Wq (fs_joined.run xs) Q = Ws (entry 2 none xs) fun s => Wp (sh_joined s) fun f s => Fo f none s Q := w_run
theorem io_joined : fs_joined.io = none := rfl
abbrev st_is_pauli : Stmt := topS 26
def N_is_pauli : List Str := ["value", "letters", "letter"]
theorem sc_is_pauli : FnScope N_is_pauli ["value"] (defScope st_is_pauli) := ⟨rfl, rfl, rfl, by decide +kernel, rfl, by decide +kernel, by decide +kernel⟩
def M_is_pauli : En := mkEn [("is_integer", fs_is_integer)] [] [] ["isinstance", "tuple", "len", "str", "all"]
def ce_is_pauli_1 : XF :=
  (cCmp .In (oName 2) (oX (cC (.str (Str.ofString "IXYZ")))))
def sh_is_pauli : SF :=
  (sSeq (sIf (tOrs [(tNotF (tTru (oX (cIsi (oName 0) ["tuple"])))), (tBl (cCmp .NotEq (oX (cLenOf (oName 0))) (oX (cC (.int 2))))), (tNotF (tTru (oX (cCall fs_is_integer [(oX (cBin dIx (oName 0) (oX (cC (.int 0)))))])))), (tNotF (tBl (cChain .LtE .LtE (oX (cC (.int 0))) (oX (cBin dIx (oName 0) (oX (cC (.int 0))))) (oX (cC (.int 3))))))]) (sSeq (sRet (cC (.bool false))) sSkip) sSkip) (sSeq (sSet 1 (cBin dIx (oName 0) (oX (cC (.int 1))))) (sSeq (sRet (cAnds [(cIsi (oName 1) ["str"]), (cCmp .NotEq (oName 1) (oX (cC (.str (Str.ofString ""))))), (cUn (dB1 "all") (oX (cLc (wIt (cName 1)) [2] (gSet 2) tTrue ce_is_pauli_1)))])) sSkip)))
theorem bd_is_pauli : bodyF { M_is_pauli with fuel := FU } N_is_pauli st_is_pauli (ioL none) = sh_is_pauli := by kernel_rfl
def fs_is_pauli : FS := mkFS ["value"] [] none 3 sh_is_pauli
theorem rn_is_pauli {xs : List D} {Q : R → List D → Prop} : Wq (fs_is_pauli.run xs) Q = Ws (entry 3 none xs) fun s => Wp (sh_is_pauli s) fun f s => Fo f none s Q := w_run
theorem io_is_pauli : fs_is_pauli.io = none := rfl
abbrev st_is_upright : Stmt := topS 27
def N_is_upright : List Str := ["value"]
theorem sc_is_upright : FnScope N_is_upright ["value"] (defScope st_is_upright) := ⟨rfl, rfl, rfl, by decide +kernel, rfl, by decide +kernel, by decide +kernel⟩
def M_is_upright : En := mkEn [("is_pauli", fs_is_pauli)] [] [] []
def sh_is_upright : SF :=
  (sSeq (sRet (cAnds [(cCall fs_is_pauli [(oX (cName 0))]), (cCmp .Eq (oX (cBin (dBin .Mod) (oX (cBin dIx (oName 0) (oX (cC (.int 0))))) (oX (cC (.int 2))))) (oX (cC (.int 0))))])) sSkip)
theorem bd_is_upright : bodyF { M_is_upright with fuel := FU } N_is_upright st_is_upright (ioL none) = sh_is_upright := by kernel_rfl
def fs_is_upright : FS := mkFS ["value"] [] none 1 sh_is_upright
theorem rn_is_upright {xs : List D} {Q : R → List D → Prop} : Wq (fs_is_upright.run xs) Q = Ws (entry 1 none xs) fun s => Wp (sh_is_upright s) fun f s => Fo f none s Q := w_run
theorem io_is_upright : fs_is_upright.io = none := rfl
abbrev st_meets_of : Stmt := topS 31
def N_meets_of : List Str := ["pauli", "second", "unlike", "one", "other"]
theorem sc_meets_of : FnScope N_meets_of ["pauli", "second"] (defScope st_meets_of) := ⟨rfl, rfl, rfl, by decide +kernel, rfl, by decide +kernel, by decide +kernel⟩
def M_meets_of : En := mkEn [] [] [] ["zip", "len"]
def ce_meets_of_1 : XF :=
  (cName 3)
def sh_meets_of : SF :=
  (sSeq (sSet 2 (cLc (wZip (cBin dIx (oName 0) (oX (cC (.int 1)))) (cBin dIx (oName 1) (oX (cC (.int 1))))) [3, 4] (gUnp [(gSet 3), (gSet 4)]) (tAnds [(tBl (cCmp .NotEq (oName 3) (oName 4))), (tBl (cCmp .NotIn (oX (cC (.str (Str.ofString "I")))) (oX (cTup [(cName 3), (cName 4)]))))]) ce_meets_of_1)) (sSeq (sRet (cCmp .Eq (oX (cBin (dBin .Mod) (oX (cLenOf (oName 2))) (oX (cC (.int 2))))) (oX (cC (.int 0))))) sSkip))
theorem bd_meets_of : bodyF { M_meets_of with fuel := FU } N_meets_of st_meets_of (ioL none) = sh_meets_of := by kernel_rfl
def fs_meets_of : FS := mkFS ["pauli", "second"] [] none 5 sh_meets_of
theorem rn_meets_of {xs : List D} {Q : R → List D → Prop} : Wq (fs_meets_of.run xs) Q = Ws (entry 5 none xs) fun s => Wp (sh_meets_of s) fun f s => Fo f none s Q := w_run
theorem io_meets_of : fs_meets_of.io = none := rfl
abbrev st_is_table : Stmt := topS 39
def N_is_table : List Str := ["value", "many", "at", "word", "next_at"]
theorem sc_is_table : FnScope N_is_table ["value"] (defScope st_is_table) := ⟨rfl, rfl, rfl, by decide +kernel, rfl, by decide +kernel, by decide +kernel⟩
def M_is_table : En := mkEn [("is_upright", fs_is_upright), ("meets_of", fs_meets_of)] [] [] ["isinstance", "tuple", "len", "all", "enumerate", "range"]
def ce_is_table_1 : XF :=
  (cAnds [(cCall fs_is_upright [(oX (cName 3))]), (cCmp .Eq (oX (cLenOf (oX (cBin dIx (oName 3) (oX (cC (.int 1))))))) (oName 1))])
def lb_is_table_1 : SF :=
  (sSeq (sIf (tBl (cCmp .Eq (oX (cCall fs_meets_of [(oX (cName 3)), (oX (cBin dIx (oName 0) (oName 4)))])) (oX (cCmp .Eq (oName 4) (oX (cBin (dBin .Add) (oName 2) (oName 1))))))) (sSeq (sRet (cC (.bool false))) sSkip) sSkip) sSkip)
def lb_is_table_2 : SF :=
  (sSeq (sFor (wR2 (cBin (dBin .Add) (oName 2) (oX (cC (.int 1)))) (cLenOf (oName 0))) (gSet 4) lb_is_table_1) sSkip)
def sh_is_table : SF :=
  (sSeq (sIf (tOrs [(tNotF (tTru (oX (cIsi (oName 0) ["tuple"])))), (tBl (cCmp .Lt (oX (cLenOf (oName 0))) (oX (cC (.int 2))))), (tBl (cCmp .NotEq (oX (cBin (dBin .Mod) (oX (cLenOf (oName 0))) (oX (cC (.int 2))))) (oX (cC (.int 0)))))]) (sSeq (sRet (cC (.bool false))) sSkip) sSkip) (sSeq (sSet 1 (cBin (dBin .FloorDiv) (oX (cLenOf (oName 0))) (oX (cC (.int 2))))) (sSeq (sIf (tNotF (tTru (oX (cUn (dB1 "all") (oX (cLc (wIt (cName 0)) [3] (gSet 3) tTrue ce_is_table_1)))))) (sSeq (sRet (cC (.bool false))) sSkip) sSkip) (sSeq (sFor (wEnum (cName 0)) (gUnp [(gSet 2), (gSet 3)]) lb_is_table_2) (sSeq (sRet (cC (.bool true))) sSkip)))))
theorem bd_is_table : bodyF { M_is_table with fuel := FU } N_is_table st_is_table (ioL none) = sh_is_table := by kernel_rfl
def fs_is_table : FS := mkFS ["value"] [] none 5 sh_is_table
theorem rn_is_table {xs : List D} {Q : R → List D → Prop} : Wq (fs_is_table.run xs) Q = Ws (entry 5 none xs) fun s => Wp (sh_is_table s) fun f s => Fo f none s Q := w_run
theorem io_is_table : fs_is_table.io = none := rfl
abbrev st_check_table : Stmt := topS 40
def N_check_table : List Str := ["table"]
theorem sc_check_table : FnScope N_check_table ["table"] (defScope st_check_table) := ⟨rfl, rfl, rfl, by decide +kernel, rfl, by decide +kernel, by decide +kernel⟩
def M_check_table : En := mkEn [("is_table", fs_is_table)] [] [] []
def sh_check_table : SF :=
  (sSeq (sIf (tNotF (tTru (oX (cCall fs_is_table [(oX (cName 0))])))) (sSeq badS sSkip) sSkip) sSkip)
theorem bd_check_table : bodyF { M_check_table with fuel := FU } N_check_table st_check_table (ioL none) = sh_check_table := by kernel_rfl
def fs_check_table : FS := mkFS ["table"] [] none 1 sh_check_table
theorem rn_check_table {xs : List D} {Q : R → List D → Prop} : Wq (fs_check_table.run xs) Q = Ws (entry 1 none xs) fun s => Wp (sh_check_table s) fun f s => Fo f none s Q := w_run
theorem io_check_table : fs_check_table.io = none := rfl
abbrev st_check_two_tables : Stmt := topS 41
def N_check_two_tables : List Str := ["table", "second_table"]
theorem sc_check_two_tables : FnScope N_check_two_tables ["table", "second_table"] (defScope st_check_two_tables) := ⟨rfl, rfl, rfl, by decide +kernel, rfl, by decide +kernel, by decide +kernel⟩
def M_check_two_tables : En := mkEn [("check_table", fs_check_table)] [] [] ["len"]
def sh_check_two_tables : SF :=
  (sSeq (sDrop (cCall fs_check_table [(oX (cName 0))])) (sSeq (sDrop (cCall fs_check_table [(oX (cName 1))])) (sSeq (sIf (tBl (cCmp .NotEq (oX (cLenOf (oName 0))) (oX (cLenOf (oName 1))))) (sSeq badS sSkip) sSkip) sSkip)))
theorem bd_check_two_tables : bodyF { M_check_two_tables with fuel := FU } N_check_two_tables st_check_two_tables (ioL none) = sh_check_two_tables := by kernel_rfl
def fs_check_two_tables : FS := mkFS ["table", "second_table"] [] none 2 sh_check_two_tables
theorem rn_check_two_tables {xs : List D} {Q : R → List D → Prop} : Wq (fs_check_two_tables.run xs) Q = Ws (entry 2 none xs) fun s => Wp (sh_check_two_tables s) fun f s => Fo f none s Q := w_run
theorem io_check_two_tables : fs_check_two_tables.io = none := rfl
abbrev st_led_by_table : Stmt := topS 43
def N_led_by_table : List Str := ["table", "pauli", "many", "found", "line", "letter"]
theorem sc_led_by_table : FnScope N_led_by_table ["table", "pauli"] (defScope st_led_by_table) := ⟨rfl, rfl, rfl, by decide +kernel, rfl, by decide +kernel, by decide +kernel⟩
def M_led_by_table : En := mkEn [("product_of", fs_product_of)] [] [] ["len", "enumerate"]
def lb_led_by_table_1 : SF :=
  (sSeq (sIf (tBl (cCmp .Eq (oName 5) (oX (cC (.str (Str.ofString "Y")))))) (sSeq (sSet 3 (cCall fs_product_of [(oX (cName 3)), (oX (cTup [(cC (.int 1)), (cBin (dBin .Mult) (oX (cC (.str (Str.ofString "I")))) (oName 2))]))])) sSkip) sSkip) (sSeq (sIf (tBl (cCmp .In (oName 5) (oX (cC (.str (Str.ofString "XY")))))) (sSeq (sSet 3 (cCall fs_product_of [(oX (cName 3)), (oX (cBin dIx (oName 0) (oName 4)))])) sSkip) sSkip) (sSeq (sIf (tBl (cCmp .In (oName 5) (oX (cC (.str (Str.ofString "YZ")))))) (sSeq (sSet 3 (cCall fs_product_of [(oX (cName 3)), (oX (cBin dIx (oName 0) (oX (cBin (dBin .Add) (oName 2) (oName 4)))))])) sSkip) sSkip) sSkip)))
def sh_led_by_table : SF :=
  (sSeq (sSet 2 (cLenOf (oX (cBin dIx (oName 1) (oX (cC (.int 1))))))) (sSeq (sSet 3 (cTup [(cBin dIx (oName 1) (oX (cC (.int 0)))), (cBin (dBin .Mult) (oX (cC (.str (Str.ofString "I")))) (oName 2))])) (sSeq (sFor (wEnum (cBin dIx (oName 1) (oX (cC (.int 1))))) (gUnp [(gSet 4), (gSet 5)]) lb_led_by_table_1) (sSeq (sRetN 3) sSkip))))
theorem bd_led_by_table : bodyF { M_led_by_table with fuel := FU } N_led_by_table st_led_by_table (ioL none) = sh_led_by_table := by kernel_rfl
def fs_led_by_table : FS := mkFS ["table", "pauli"] [] none 6 sh_led_by_table
theorem rn_led_by_table {xs : List D} {Q : R → List D → Prop} : Wq (fs_led_by_table.run xs) Q = Ws (entry 6 none xs) fun s => Wp (sh_led_by_table s) fun f s => Fo f none s Q := w_run
theorem io_led_by_table : fs_led_by_table.io = none := rfl
abbrev st_composed_of : Stmt := topS 44
def N_composed_of : List Str := ["table", "second", "word"]
theorem sc_composed_of : FnScope N_composed_of ["table", "second"] (defScope st_composed_of) := ⟨rfl, rfl, rfl, by decide +kernel, rfl, by decide +kernel, by decide +kernel⟩
def M_composed_of : En := mkEn [("led_by_table", fs_led_by_table)] [] [] ["tuple"]
def ce_composed_of_1 : XF :=
  (cCall fs_led_by_table [(oX (cName 1)), (oX (cName 2))])
def sh_composed_of : SF :=
  (sSeq (sRet (cUn (dB1 "tuple") (oX (cLc (wIt (cName 0)) [2] (gSet 2) tTrue ce_composed_of_1)))) sSkip)
theorem bd_composed_of : bodyF { M_composed_of with fuel := FU } N_composed_of st_composed_of (ioL none) = sh_composed_of := by kernel_rfl
def fs_composed_of : FS := mkFS ["table", "second"] [] none 3 sh_composed_of
theorem rn_composed_of {xs : List D} {Q : R → List D → Prop} : Wq (fs_composed_of.run xs) Q = Ws (entry 3 none xs) fun s => Wp (sh_composed_of s) fun f s => Fo f none s Q := w_run
theorem io_composed_of : fs_composed_of.io = none := rfl
abbrev st_composed : Stmt := topS 49
def N_composed : List Str := ["table", "second_table"]
theorem sc_composed : FnScope N_composed ["table", "second_table"] (defScope st_composed) := ⟨rfl, rfl, rfl, by decide +kernel, rfl, by decide +kernel, by decide +kernel⟩
def M_composed : En := mkEn [("check_two_tables", fs_check_two_tables), ("composed_of", fs_composed_of)] [] [] []
def sh_composed : SF :=
  (sSeq (sDrop (cCall fs_check_two_tables [(oX (cName 0)), (oX (cName 1))])) (sSeq (sRet (cCall fs_composed_of [(oX (cName 0)), (oX (cName 1))])) sSkip))
theorem bd_composed : bodyF { M_composed with fuel := FU } N_composed st_composed (ioL none) = sh_composed := by kernel_rfl
def fs_composed : FS := mkFS ["table", "second_table"] [["second_table", "table"]] none 2 sh_composed
theorem rn_composed {xs : List D} {Q : R → List D → Prop} : Wq (fs_composed.run xs) Q = Ws (entry 2 none xs) fun s => Wp (sh_composed s) fun f s => Fo f none s Q := w_run
theorem io_composed : fs_composed.io = none := rfl
theorem pk_composed_0 {w0 w1 : O} : pick fs_composed.ps ["second_table", "table"] [] [w0, w1] = some [w1, w0] := by kernel_rfl
abbrev st_undone_of : Stmt := topS 18
def N_undone_of : List Str := ["circuit", "found", "gate"]
theorem sc_undone_of : FnScope N_undone_of ["circuit"] (defScope st_undone_of) := ⟨rfl, rfl, rfl, by decide +kernel, rfl, by decide +kernel, by decide +kernel⟩
def M_undone_of : En := mkEn [] [] [("TURNED", d_TURNED)] ["tuple"]
def lb_undone_of_1 : SF :=
  (sSeq (sIf (tBl (cCmp .Eq (oX (cBin dIx (oName 2) (oX (cC (.int 0))))) (oX (cC (.str (Str.ofString "w")))))) (sSeq (sDrop (cMut 1 (dMut "extend") [(cBin (dBin .Mult) (oX (cLst [(cName 2)])) (oX (cC (.int 7))))])) sSkip) (sSeq (sDrop (cMut 1 (dMut "append") [(cBin (dBin .Add) (oX (cTup [(cDget d_TURNED [(cBin dIx (oName 2) (oX (cC (.int 0)))), (cBin dIx (oName 2) (oX (cC (.int 0))))])])) (oX (cSl (oName 2) (pAt (cC (.int 1))) pNo)))])) sSkip)) sSkip)
def sh_undone_of : SF :=
  (sSeq (sSet 1 (cLst [])) (sSeq (sFor (wIt (cUn dRev (oX (cBin dIx (oName 0) (oX (cC (.int 1))))))) (gSet 2) lb_undone_of_1) (sSeq (sRet (cTup [(cBin dIx (oName 0) (oX (cC (.int 0)))), (cUn (dB1 "tuple") (oName 1))])) sSkip)))
theorem bd_undone_of : bodyF { M_undone_of with fuel := FU } N_undone_of st_undone_of (ioL none) = sh_undone_of := by kernel_rfl
def fs_undone_of : FS := mkFS ["circuit"] [] none 3 sh_undone_of
theorem rn_undone_of {xs : List D} {Q : R → List D → Prop} : Wq (fs_undone_of.run xs) Q = Ws (entry 3 none xs) fun s => Wp (sh_undone_of s) fun f s => Fo f none s Q := w_run
theorem io_undone_of : fs_undone_of.io = none := rfl
abbrev st_undone : Stmt := topS 20
def N_undone : List Str := ["circuit"]
theorem sc_undone : FnScope N_undone ["circuit"] (defScope st_undone) := ⟨rfl, rfl, rfl, by decide +kernel, rfl, by decide +kernel, by decide +kernel⟩
def M_undone : En := mkEn [("check_circuit", fs_check_circuit), ("undone_of", fs_undone_of)] [] [] []
def sh_undone : SF :=
  (sSeq (sDrop (cCall fs_check_circuit [(oX (cName 0))])) (sSeq (sRet (cCall fs_undone_of [(oX (cName 0))])) sSkip))
theorem bd_undone : bodyF { M_undone with fuel := FU } N_undone st_undone (ioL none) = sh_undone := by kernel_rfl
def fs_undone : FS := mkFS ["circuit"] [] none 1 sh_undone
theorem rn_undone {xs : List D} {Q : R → List D → Prop} : Wq (fs_undone.run xs) Q = Ws (entry 1 none xs) fun s => Wp (sh_undone s) fun f s => Fo f none s Q := w_run
theorem io_undone : fs_undone.io = none := rfl
abbrev st_undone_letters : Stmt := topS 45
def N_undone_letters : List Str := ["table", "word", "many", "letters", "line", "flip", "turn"]
theorem sc_undone_letters : FnScope N_undone_letters ["table", "word"] (defScope st_undone_letters) := ⟨rfl, rfl, rfl, by decide +kernel, rfl, by decide +kernel, by decide +kernel⟩
def M_undone_letters : En := mkEn [("meets_of", fs_meets_of)] [] [] ["len", "range", "int"]
def lb_undone_letters_1 : SF :=
  (sSeq (sPar [5, 6] [(cNot (tTru (oX (cCall fs_meets_of [(oX (cBin dIx (oName 0) (oX (cBin (dBin .Add) (oName 2) (oName 4))))), (oX (cName 1))])))), (cNot (tTru (oX (cCall fs_meets_of [(oX (cBin dIx (oName 0) (oName 4))), (oX (cName 1))]))))]) (sSeq (sDrop (cMut 3 (dMut "append") [(cBin dIx (oX (cC (.str (Str.ofString "IXZY")))) (oX (cBin (dBin .Add) (oX (cUn (dB1 "int") (oName 5))) (oX (cBin (dBin .Mult) (oX (cC (.int 2))) (oX (cUn (dB1 "int") (oName 6))))))))])) sSkip))
def sh_undone_letters : SF :=
  (sSeq (sPar [2, 3] [(cBin (dBin .FloorDiv) (oX (cLenOf (oName 0))) (oX (cC (.int 2)))), (cLst [])]) (sSeq (sFor (wR1 (cName 2)) (gSet 4) lb_undone_letters_1) (sSeq (sRet (cMeth "join" (oX (cC (.str (Str.ofString "")))) [(cName 3)])) sSkip)))
theorem bd_undone_letters : bodyF { M_undone_letters with fuel := FU } N_undone_letters st_undone_letters (ioL none) = sh_undone_letters := by kernel_rfl
def fs_undone_letters : FS := mkFS ["table", "word"] [] none 7 sh_undone_letters
theorem rn_undone_letters {xs : List D} {Q : R → List D → Prop} : Wq (fs_undone_letters.run xs) Q = Ws (entry 7 none xs) fun s => Wp (sh_undone_letters s) fun f s => Fo f none s Q := w_run
theorem io_undone_letters : fs_undone_letters.io = none := rfl
abbrev st_undone_table : Stmt := topS 46
def N_undone_table : List Str := ["table", "found", "word", "letters"]
theorem sc_undone_table : FnScope N_undone_table ["table"] (defScope st_undone_table) := ⟨rfl, rfl, rfl, by decide +kernel, rfl, by decide +kernel, by decide +kernel⟩
def M_undone_table : En := mkEn [("ones_of", fs_ones_of), ("undone_letters", fs_undone_letters), ("led_by_table", fs_led_by_table)] [] [] ["len", "tuple"]
def lb_undone_table_1 : SF :=
  (sSeq (sSet 3 (cCall fs_undone_letters [(oX (cName 0)), (oX (cName 2))])) (sSeq (sDrop (cMut 1 (dMut "append") [(cTup [(cBin dIx (oX (cCall fs_led_by_table [(oX (cName 0)), (oX (cTup [(cC (.int 0)), (cName 3)]))])) (oX (cC (.int 0)))), (cName 3)])])) sSkip))
def sh_undone_table : SF :=
  (sSeq (sSet 1 (cLst [])) (sSeq (sFor (wIt (cCall fs_ones_of [(oX (cBin (dBin .FloorDiv) (oX (cLenOf (oName 0))) (oX (cC (.int 2)))))])) (gSet 2) lb_undone_table_1) (sSeq (sRet (cUn (dB1 "tuple") (oName 1))) sSkip)))
theorem bd_undone_table : bodyF { M_undone_table with fuel := FU } N_undone_table st_undone_table (ioL none) = sh_undone_table := by kernel_rfl
def fs_undone_table : FS := mkFS ["table"] [] none 4 sh_undone_table
theorem rn_undone_table {xs : List D} {Q : R → List D → Prop} : Wq (fs_undone_table.run xs) Q = Ws (entry 4 none xs) fun s => Wp (sh_undone_table s) fun f s => Fo f none s Q := w_run
theorem io_undone_table : fs_undone_table.io = none := rfl
abbrev st_table_undone : Stmt := topS 50
def N_table_undone : List Str := ["table"]
theorem sc_table_undone : FnScope N_table_undone ["table"] (defScope st_table_undone) := ⟨rfl, rfl, rfl, by decide +kernel, rfl, by decide +kernel, by decide +kernel⟩
def M_table_undone : En := mkEn [("check_table", fs_check_table), ("undone_table", fs_undone_table)] [] [] []
def sh_table_undone : SF :=
  (sSeq (sDrop (cCall fs_check_table [(oX (cName 0))])) (sSeq (sRet (cCall fs_undone_table [(oX (cName 0))])) sSkip))
theorem bd_table_undone : bodyF { M_table_undone with fuel := FU } N_table_undone st_table_undone (ioL none) = sh_table_undone := by kernel_rfl
def fs_table_undone : FS := mkFS ["table"] [["table"]] none 1 sh_table_undone
theorem rn_table_undone {xs : List D} {Q : R → List D → Prop} : Wq (fs_table_undone.run xs) Q = Ws (entry 1 none xs) fun s => Wp (sh_table_undone s) fun f s => Fo f none s Q := w_run
theorem io_table_undone : fs_table_undone.io = none := rfl
theorem pk_table_undone_0 {w0 : O} : pick fs_table_undone.ps ["table"] [] [w0] = some [w0] := by kernel_rfl
abbrev st__law_drawn : Stmt := topS 62
def N__law_drawn : List Str := ["pot", "many", "by", "letters", "line"]
theorem sc__law_drawn : FnScope N__law_drawn ["pot", "many", "by"] (defScope st__law_drawn) := ⟨rfl, rfl, rfl, by decide +kernel, rfl, by decide +kernel, by decide +kernel⟩
def M__law_drawn : En := mkEn [("_law_take", fs__law_take)] [] [] ["range"]
def ce__law_drawn_1 : XF :=
  (cBin dIx (oX (cC (.str (Str.ofString "IXYZ")))) (oX (cCall fs__law_take [(oName 0), (oX (cC (.int 4)))])))
def sh__law_drawn : SF :=
  (sSeq (sSet 3 (cMeth "join" (oX (cC (.str (Str.ofString "")))) [(cLc (wR1 (cName 1)) [4] (gSet 4) tTrue ce__law_drawn_1)])) (sSeq (sRet (cTup [(cBin (dBin .Mult) (oName 2) (oX (cCall fs__law_take [(oName 0), (oX (cBin (dBin .FloorDiv) (oX (cC (.int 4))) (oName 2)))]))), (cName 3)])) sSkip))
theorem bd__law_drawn : bodyF { M__law_drawn with fuel := FU } N__law_drawn st__law_drawn (ioL (some 0)) = sh__law_drawn := by kernel_rfl
def fs__law_drawn : FS := mkFS ["pot", "many", "by"] [] (some 0) 5 sh__law_drawn
theorem rn__law_drawn {xs : List D} {Q : R → List D → Prop} : Wq (fs__law_drawn.run xs) Q = Ws (entry 5 (some 0) xs) fun s => Wp (sh__law_drawn s) fun f s => Fo f (some 0) s Q := w_run
theorem io__law_drawn : fs__law_drawn.io = (some 0) := rfl
abbrev st_check_pauli : Stmt := topS 28
def N_check_pauli : List Str := ["pauli", "many"]
theorem sc_check_pauli : FnScope N_check_pauli ["pauli", "many"] (defScope st_check_pauli) := ⟨rfl, rfl, rfl, by decide +kernel, rfl, by decide +kernel, by decide +kernel⟩
def M_check_pauli : En := mkEn [("is_pauli", fs_is_pauli)] [] [] ["len"]
def sh_check_pauli : SF :=
  (sSeq (sIf (tOrs [(tNotF (tTru (oX (cCall fs_is_pauli [(oX (cName 0))])))), (tAnds [(tBl (cCmp .IsNot (oName 1) (oX (cC .none)))), (tBl (cCmp .NotEq (oX (cLenOf (oX (cBin dIx (oName 0) (oX (cC (.int 1))))))) (oName 1)))])]) (sSeq badS sSkip) sSkip) sSkip)
theorem bd_check_pauli : bodyF { M_check_pauli with fuel := FU } N_check_pauli st_check_pauli (ioL none) = sh_check_pauli := by kernel_rfl
def fs_check_pauli : FS := mkFS ["pauli", "many"] [] none 2 sh_check_pauli
theorem rn_check_pauli {xs : List D} {Q : R → List D → Prop} : Wq (fs_check_pauli.run xs) Q = Ws (entry 2 none xs) fun s => Wp (sh_check_pauli s) fun f s => Fo f none s Q := w_run
theorem io_check_pauli : fs_check_pauli.io = none := rfl
abbrev st_table_led : Stmt := topS 48
def N_table_led : List Str := ["table", "pauli"]
theorem sc_table_led : FnScope N_table_led ["table", "pauli"] (defScope st_table_led) := ⟨rfl, rfl, rfl, by decide +kernel, rfl, by decide +kernel, by decide +kernel⟩
def M_table_led : En := mkEn [("check_table", fs_check_table), ("check_pauli", fs_check_pauli), ("led_by_table", fs_led_by_table)] [] [] ["len"]
def sh_table_led : SF :=
  (sSeq (sDrop (cCall fs_check_table [(oX (cName 0))])) (sSeq (sDrop (cCall fs_check_pauli [(oX (cName 1)), (oX (cBin (dBin .FloorDiv) (oX (cLenOf (oName 0))) (oX (cC (.int 2)))))])) (sSeq (sRet (cCall fs_led_by_table [(oX (cName 0)), (oX (cName 1))])) sSkip)))
theorem bd_table_led : bodyF { M_table_led with fuel := FU } N_table_led st_table_led (ioL none) = sh_table_led := by kernel_rfl
def fs_table_led : FS := mkFS ["table", "pauli"] [["pauli", "table"]] none 2 sh_table_led
theorem rn_table_led {xs : List D} {Q : R → List D → Prop} : Wq (fs_table_led.run xs) Q = Ws (entry 2 none xs) fun s => Wp (sh_table_led s) fun f s => Fo f none s Q := w_run
theorem io_table_led : fs_table_led.io = none := rfl
theorem pk_table_led_0 {w0 w1 : O} : pick fs_table_led.ps ["pauli", "table"] [] [w0, w1] = some [w1, w0] := by kernel_rfl
abbrev st_led : Stmt := topS 37
def N_led : List Str := ["circuit", "pauli"]
theorem sc_led : FnScope N_led ["circuit", "pauli"] (defScope st_led) := ⟨rfl, rfl, rfl, by decide +kernel, rfl, by decide +kernel, by decide +kernel⟩
def M_led : En := mkEn [("check_clifford", fs_check_clifford), ("check_pauli", fs_check_pauli), ("led_of", fs_led_of)] [] [] []
def sh_led : SF :=
  (sSeq (sDrop (cCall fs_check_clifford [(oX (cName 0))])) (sSeq (sDrop (cCall fs_check_pauli [(oX (cName 1)), (oX (cBin dIx (oName 0) (oX (cC (.int 0)))))])) (sSeq (sRet (cCall fs_led_of [(oX (cName 0)), (oX (cName 1))])) sSkip)))
theorem bd_led : bodyF { M_led with fuel := FU } N_led st_led (ioL none) = sh_led := by kernel_rfl
def fs_led : FS := mkFS ["circuit", "pauli"] [] none 2 sh_led
theorem rn_led {xs : List D} {Q : R → List D → Prop} : Wq (fs_led.run xs) Q = Ws (entry 2 none xs) fun s => Wp (sh_led s) fun f s => Fo f none s Q := w_run
theorem io_led : fs_led.io = none := rfl
abbrev st__law_times : Stmt := topS 57
def N__law_times : List Str := ["one", "other", "e", "flips", "turns", "more", "xs", "zs", "passed", "both", "k"]
theorem sc__law_times : FnScope N__law_times ["one", "other"] (defScope st__law_times) := ⟨rfl, rfl, rfl, by decide +kernel, rfl, by decide +kernel, by decide +kernel⟩
def M__law_times : En := mkEn [("_law_split", fs__law_split), ("_law_word", fs__law_word)] [] [] ["sum", "range", "len"]
def ce__law_times_1 : XF :=
  (cBin (dBin .Mult) (oX (cBin dIx (oName 4) (oName 10))) (oX (cBin dIx (oName 6) (oName 10))))
def ce__law_times_2 : XF :=
  (cBin (dBin .BitXor) (oX (cBin dIx (oName 3) (oName 10))) (oX (cBin dIx (oName 6) (oName 10))))
def ce__law_times_3 : XF :=
  (cBin (dBin .BitXor) (oX (cBin dIx (oName 4) (oName 10))) (oX (cBin dIx (oName 7) (oName 10))))
def sh__law_times : SF :=
  (sSeq (sUnR [2, 3, 4] fs__law_split [(oX (cName 0))]) (sSeq (sUnR [5, 6, 7] fs__law_split [(oX (cName 1))]) (sSeq (sSet 8 (cUn (dB1 "sum") (oX (cLc (wR1 (cLenOf (oName 3))) [10] (gSet 10) tTrue ce__law_times_1)))) (sSeq (sSet 9 (cLc (wR1 (cLenOf (oName 3))) [10] (gSet 10) tTrue ce__law_times_2)) (sSeq (sRet (cCall fs__law_word [(oX (cLst [(cBin (dBin .Add) (oX (cBin (dBin .Add) (oName 2) (oName 5))) (oX (cBin (dBin .Mult) (oX (cC (.int 2))) (oName 8)))), (cName 9), (cLc (wR1 (cLenOf (oName 3))) [10] (gSet 10) tTrue ce__law_times_3)]))])) sSkip)))))
theorem bd__law_times : bodyF { M__law_times with fuel := FU } N__law_times st__law_times (ioL none) = sh__law_times := by kernel_rfl
def fs__law_times : FS := mkFS ["one", "other"] [] none 11 sh__law_times
theorem rn__law_times {xs : List D} {Q : R → List D → Prop} : Wq (fs__law_times.run xs) Q = Ws (entry 11 none xs) fun s => Wp (sh__law_times s) fun f s => Fo f none s Q := w_run
theorem io__law_times : fs__law_times.io = none := rfl
abbrev st__law_table_led : Stmt := topS 64
def N__law_table_led : List Str := ["table", "pauli", "many", "e", "flips", "turns", "found", "line", "at"]
theorem sc__law_table_led : FnScope N__law_table_led ["table", "pauli"] (defScope st__law_table_led) := ⟨rfl, rfl, rfl, by decide +kernel, rfl, by decide +kernel, by decide +kernel⟩
def M__law_table_led : En := mkEn [("_law_split", fs__law_split), ("_law_times", fs__law_times)] [] [] ["len", "int", "range"]
def lb__law_table_led_1 : SF :=
  (sSeq (sSet 6 (cCall fs__law_times [(oX (cName 6)), (oX (cBin dIx (oName 0) (oName 8)))])) sSkip)
def lb__law_table_led_2 : SF :=
  (sSeq (sFor (wIt (cBin (dBin .Add) (oX (cBin (dBin .Mult) (oX (cLst [(cName 7)])) (oX (cBin dIx (oName 4) (oName 7))))) (oX (cBin (dBin .Mult) (oX (cLst [(cBin (dBin .Add) (oName 2) (oName 7))])) (oX (cBin dIx (oName 5) (oName 7))))))) (gSet 8) lb__law_table_led_1) sSkip)
def sh__law_table_led : SF :=
  (sSeq (sSet 2 (cBin (dBin .FloorDiv) (oX (cLenOf (oName 0))) (oX (cC (.int 2))))) (sSeq (sUnR [3, 4, 5] fs__law_split [(oX (cName 1))]) (sSeq (sSet 6 (cTup [(cBin (dBin .Mod) (oX (cUn (dB1 "int") (oName 3))) (oX (cC (.int 4)))), (cBin (dBin .Mult) (oX (cC (.str (Str.ofString "I")))) (oName 2))])) (sSeq (sFor (wR1 (cName 2)) (gSet 7) lb__law_table_led_2) (sSeq (sRetN 6) sSkip)))))
theorem bd__law_table_led : bodyF { M__law_table_led with fuel := FU } N__law_table_led st__law_table_led (ioL none) = sh__law_table_led := by kernel_rfl
def fs__law_table_led : FS := mkFS ["table", "pauli"] [] none 9 sh__law_table_led
theorem rn__law_table_led {xs : List D} {Q : R → List D → Prop} : Wq (fs__law_table_led.run xs) Q = Ws (entry 9 none xs) fun s => Wp (sh__law_table_led s) fun f s => Fo f none s Q := w_run
theorem io__law_table_led : fs__law_table_led.io = none := rfl
abbrev st__law_table : Stmt := topS 63
def N__law_table : List Str := ["pot", "many", "gates", "found", "at", "e", "letters"]
theorem sc__law_table : FnScope N__law_table ["pot", "many"] (defScope st__law_table) := ⟨rfl, rfl, rfl, by decide +kernel, rfl, by decide +kernel, by decide +kernel⟩
def M__law_table : En := mkEn [("_law_gates", fs__law_gates), ("_law_names", fs__law_names), ("_law_led", fs__law_led), ("_law_at", fs__law_at), ("_law_take", fs__law_take)] [] [] ["range", "int", "tuple"]
def lb__law_table_1 : SF :=
  (sSeq (sTg (gUnp [(gSet 5), (gSet 6)]) (cCall fs__law_led [(oX (cName 2)), (oX (cCall fs__law_at [(oX (cName 1)), (oX (cBin (dBin .Mod) (oX (cUn (dB1 "int") (oName 4))) (oName 1))), (oX (cBin dIx (oX (cC (.str (Str.ofString "XZ")))) (oX (cBin (dBin .FloorDiv) (oName 4) (oName 1)))))]))])) (sSeq (sDrop (cMut 3 (dMut "append") [(cTup [(cBin (dBin .Mod) (oX (cUn (dB1 "int") (oX (cBin (dBin .Add) (oName 5) (oX (cBin (dBin .Mult) (oX (cC (.int 2))) (oX (cCall fs__law_take [(oName 0), (oX (cC (.int 2)))])))))))) (oX (cC (.int 4)))), (cName 6)])])) sSkip))
def sh__law_table : SF :=
  (sSeq (sPar [2, 3] [(cCall fs__law_gates [(oName 0), (oX (cName 1)), (oX (cC (.int 20))), (oX (cCall fs__law_names []))]), (cLst [])]) (sSeq (sFor (wR1 (cBin (dBin .Mult) (oX (cC (.int 2))) (oName 1))) (gSet 4) lb__law_table_1) (sSeq (sRet (cUn (dB1 "tuple") (oName 3))) sSkip)))
theorem bd__law_table : bodyF { M__law_table with fuel := FU } N__law_table st__law_table (ioL (some 0)) = sh__law_table := by kernel_rfl
def fs__law_table : FS := mkFS ["pot", "many"] [] (some 0) 7 sh__law_table
theorem rn__law_table {xs : List D} {Q : R → List D → Prop} : Wq (fs__law_table.run xs) Q = Ws (entry 7 (some 0) xs) fun s => Wp (sh__law_table s) fun f s => Fo f (some 0) s Q := w_run
theorem io__law_table : fs__law_table.io = (some 0) := rfl
abbrev st_law : Stmt := topS 66
def N_law : List Str := ["script", "pot", "turn", "many", "gates", "more", "own", "other", "one", "two", "both", "nothing", "told", "back", "word", "due", "drawn", "image"]
theorem sc_law : FnScope N_law ["script"] (defScope st_law) := ⟨rfl, rfl, rfl, by decide +kernel, rfl, by decide +kernel, by decide +kernel⟩
def M_law : En := mkEn [("_law_pot", fs__law_pot), ("_law_take", fs__law_take), ("_law_gates", fs__law_gates), ("_law_names", fs__law_names), ("_law_table_of", fs__law_table_of), ("_law_same", fs__law_same 5), ("table_of", fs_table_of), ("joined", fs_joined), ("composed", fs_composed), ("undone", fs_undone), ("table_undone", fs_table_undone), ("_law_drawn", fs__law_drawn), ("_law_led", fs__law_led), ("table_led", fs_table_led), ("led", fs_led), ("_law_table_led", fs__law_table_led), ("_law_table", fs__law_table)] [] [] ["range", "tuple"]
def ce_law_1 : XF :=
  (cCall fs__law_table_led [(oX (cName 16)), (oX (cName 17))])
def lb_law_1 : SF :=
  (sSeq (sSet 3 (cBin (dBin .Add) (oX (cC (.int 1))) (oX (cCall fs__law_take [(oName 1), (oX (cC (.int 6)))])))) (sSeq (sPar [4, 5] [(cCall fs__law_gates [(oName 1), (oX (cName 3)), (oX (cC (.int 14))), (oX (cCall fs__law_names []))]), (cCall fs__law_gates [(oName 1), (oX (cName 3)), (oX (cC (.int 14))), (oX (cCall fs__law_names []))])]) (sSeq (sPar [6, 7] [(cTup [(cName 3), (cBin (dBin .Add) (oName 4) (oX (cBin (dBin .Mult) (oX (cTup [(cTup [(cC (.str (Str.ofString "w")))])])) (oX (cCall fs__law_take [(oName 1), (oX (cC (.int 2)))])))))]), (cTup [(cName 3), (cName 5)])]) (sSeq (sPar [8, 9, 10] [(cCall fs__law_table_of [(oX (cName 3)), (oX (cName 4))]), (cCall fs__law_table_of [(oX (cName 3)), (oX (cName 5))]), (cCall fs__law_table_of [(oX (cName 3)), (oX (cBin (dBin .Add) (oName 4) (oName 5)))])]) (sSeq (sSet 11 (cCall fs__law_table_of [(oX (cName 3)), (oX (cTup []))])) (sSeq (sIf (tNotF (tTru (oX (cCall (fs__law_same 5) [(oX (cLst [(cCall fs_table_of [(oX (cName 6))]), (cCallK fs_table_of ["circuit"] [] [(oX (cName 7))]), (cCall fs_table_of [(oX (cCall fs_joined [(oX (cName 6)), (oX (cName 7))]))])])), (oX (cLst [(cName 8), (cName 9), (cName 10)]))])))) (sSeq (sRet (cC (.bool false))) sSkip) sSkip) (sSeq (sSet 12 (cLst [(cCall fs_composed [(oX (cName 8)), (oX (cName 9))]), (cCallK fs_composed ["second_table", "table"] [] [(oX (cName 9)), (oX (cName 8))]), (cCall fs_composed [(oX (cCall fs_table_of [(oX (cName 6))])), (oX (cCall fs_table_of [(oX (cName 7))]))])])) (sSeq (sIf (tNotF (tTru (oX (cCall (fs__law_same 5) [(oX (cName 12)), (oX (cLst [(cName 10), (cName 10), (cName 10)]))])))) (sSeq (sRet (cC (.bool false))) sSkip) sSkip) (sSeq (sSet 13 (cCall fs_table_of [(oX (cCall fs_undone [(oX (cName 6))]))])) (sSeq (sIf (tNotF (tTru (oX (cCall (fs__law_same 5) [(oX (cLst [(cCall fs_table_undone [(oX (cName 8))]), (cCallK fs_table_undone ["table"] [] [(oX (cName 8))]), (cCall fs_table_undone [(oX (cName 13))])])), (oX (cLst [(cName 13), (cName 13), (cName 8)]))])))) (sSeq (sRet (cC (.bool false))) sSkip) sSkip) (sSeq (sIf (tNotF (tTru (oX (cCall (fs__law_same 5) [(oX (cLst [(cCall fs_composed [(oX (cName 8)), (oX (cName 13))]), (cCall fs_composed [(oX (cName 13)), (oX (cName 8))]), (cCall fs_composed [(oX (cName 11)), (oX (cName 9))]), (cCall fs_composed [(oX (cName 9)), (oX (cName 11))])])), (oX (cLst [(cName 11), (cName 11), (cName 9), (cName 9)]))])))) (sSeq (sRet (cC (.bool false))) sSkip) sSkip) (sSeq (sSet 14 (cCall fs__law_drawn [(oName 1), (oX (cName 3)), (oX (cC (.int 1)))])) (sSeq (sSet 15 (cCall fs__law_led [(oX (cName 4)), (oX (cName 14))])) (sSeq (sSet 12 (cLst [(cCall fs_table_led [(oX (cName 8)), (oX (cName 14))]), (cCallK fs_table_led ["pauli", "table"] [] [(oX (cName 14)), (oX (cName 8))]), (cCall fs_led [(oX (cName 6)), (oX (cName 14))]), (cCall fs_table_led [(oX (cName 13)), (oX (cName 15))])])) (sSeq (sIf (tOrs [(tNotF (tTru (oX (cCall (fs__law_same 5) [(oX (cName 12)), (oX (cLst [(cName 15), (cName 15), (cName 15), (cName 14)]))])))), (tBl (cCmp .NotEq (oX (cCall fs__law_table_led [(oX (cName 8)), (oX (cName 14))])) (oName 15)))]) (sSeq (sRet (cC (.bool false))) sSkip) sSkip) (sSeq (sSet 16 (cCall fs__law_table [(oName 1), (oX (cName 3))])) (sSeq (sIf (tNotF (tTru (oX (cCall (fs__law_same 5) [(oX (cCall fs_table_led [(oX (cName 16)), (oX (cName 14))])), (oX (cCall fs__law_table_led [(oX (cName 16)), (oX (cName 14))]))])))) (sSeq (sRet (cC (.bool false))) sSkip) sSkip) (sSeq (sSet 15 (cUn (dB1 "tuple") (oX (cLc (wIt (cName 10)) [17] (gSet 17) tTrue ce_law_1)))) (sSeq (sIf (tNotF (tTru (oX (cCall (fs__law_same 5) [(oX (cLst [(cCall fs_composed [(oX (cCall fs_composed [(oX (cName 8)), (oX (cName 9))])), (oX (cName 16))]), (cCall fs_composed [(oX (cName 8)), (oX (cCall fs_composed [(oX (cName 9)), (oX (cName 16))]))])])), (oX (cLst [(cName 15), (cName 15)]))])))) (sSeq (sRet (cC (.bool false))) sSkip) sSkip) (sSeq (sIf (tNotF (tTru (oX (cCall (fs__law_same 5) [(oX (cLst [(cCall fs_composed [(oX (cName 16)), (oX (cCall fs_table_undone [(oX (cName 16))]))]), (cCall fs_composed [(oX (cCall fs_table_undone [(oX (cName 16))])), (oX (cName 16))])])), (oX (cLst [(cName 11), (cName 11)]))])))) (sSeq (sRet (cC (.bool false))) sSkip) sSkip) sSkip))))))))))))))))))))
def sh_law : SF :=
  (sSeq (sSet 1 (cCallS fs__law_pot 0)) (sSeq (sFor (wR1 (cC (.int 3))) (gSet 2) lb_law_1) (sSeq (sRet (cC (.bool true))) sSkip)))
theorem bd_law : bodyF { M_law with fuel := FU } N_law st_law (ioL none) = sh_law := by kernel_rfl
end K39

def K39TS.pre := @K39.sr__law_pot
def K39TS.post := And.intro (And.intro (And.intro (And.intro (And.intro (And.intro (@K39.so_0) (And.intro (@K39.so_1) (@K39.so_2))) (And.intro (And.intro (@K39.so_3) (@K39.so_4)) (And.intro (@K39.so_5) (@K39.so_6)))) (And.intro (And.intro (@K39.so_7) (And.intro (@K39.so_8) (@K39.so_9))) (And.intro (And.intro (@K39.so_10) (@K39.so_11)) (And.intro (@K39.so_12) (@K39.so_13))))) (And.intro (And.intro (And.intro (@K39.so_14) (And.intro (@K39.so_15) (@K39.so_16))) (And.intro (And.intro (@K39.so_17) (@K39.so_18)) (And.intro (@K39.so_19) (@K39.so_20)))) (And.intro (And.intro (@K39.so_21) (And.intro (@K39.so_22) (@K39.so_23))) (And.intro (And.intro (@K39.so_24) (@K39.so_25)) (And.intro (@K39.so_26) (@K39.so_27)))))) (And.intro (And.intro (And.intro (And.intro (@K39.so_28) (And.intro (@K39.so_29) (@K39.so_30))) (And.intro (And.intro (@K39.so_31) (@K39.so_32)) (And.intro (@K39.so_33) (@K39.so_34)))) (And.intro (And.intro (@K39.so_35) (And.intro (@K39.so_36) (@K39.so_37))) (And.intro (And.intro (@K39.so_38) (@K39.so_39)) (And.intro (@K39.so_40) (@K39.so_41))))) (And.intro (And.intro (And.intro (@K39.so_42) (And.intro (@K39.so_43) (@K39.so_44))) (And.intro (And.intro (@K39.so_45) (@K39.so_46)) (And.intro (@K39.so_47) (@K39.so_48)))) (And.intro (And.intro (@K39.so_49) (And.intro (@K39.so_50) (@K39.so_51))) (And.intro (And.intro (@K39.so_52) (@K39.so_53)) (And.intro (@K39.so_54) (@K39.so_55))))))) (And.intro (And.intro (And.intro (And.intro (And.intro (@K39.so_56) (And.intro (@K39.so_57) (@K39.so_58))) (And.intro (And.intro (@K39.so_59) (@K39.io__law_take)) (And.intro (@K39.io__law_gates) (@K39.io__law_names)))) (And.intro (And.intro (@K39.rr__law_split) (And.intro (@K39.io__law_word) (@K39.io__law_led))) (And.intro (And.intro (@K39.io__law_at) (@K39.io__law_table_of)) (And.intro (@K39.io__law_same) (@K39.io_is_integer))))) (And.intro (And.intro (And.intro (@K39.io_is_natural) (And.intro (@K39.io_is_gate) (@K39.io_is_circuit))) (And.intro (And.intro (@K39.io_check_circuit) (@K39.io_is_without)) (And.intro (@K39.io_check_clifford) (@K39.io_letter_at)))) (And.intro (And.intro (@K39.io_ones_of) (And.intro (@K39.io_product_of) (@K39.io_led_by))) (And.intro (And.intro (@K39.io_led_by_all) (@K39.io_led_of)) (And.intro (@K39.io_table_of_right) (@K39.io_table_of)))))) (And.intro (And.intro (And.intro (And.intro (@K39.pk_table_of_0) (And.intro (@K39.io_check_two) (@K39.io_joined_of))) (And.intro (And.intro (@K39.io_joined) (@K39.io_is_pauli)) (And.intro (@K39.io_is_upright) (@K39.io_meets_of)))) (And.intro (And.intro (@K39.io_is_table) (And.intro (@K39.io_check_table) (@K39.io_check_two_tables))) (And.intro (And.intro (@K39.io_led_by_table) (@K39.io_composed_of)) (And.intro (@K39.io_composed) (@K39.pk_composed_0))))) (And.intro (And.intro (And.intro (@K39.io_undone_of) (And.intro (@K39.io_undone) (@K39.io_undone_letters))) (And.intro (And.intro (@K39.io_undone_table) (@K39.io_table_undone)) (And.intro (@K39.pk_table_undone_0) (@K39.io__law_drawn)))) (And.intro (And.intro (@K39.io_check_pauli) (And.intro (@K39.io_table_led) (@K39.pk_table_led_0))) (And.intro (And.intro (@K39.io_led) (@K39.io__law_times)) (And.intro (@K39.io__law_table_led) (@K39.io__law_table)))))))
namespace K39
open PySem L2 PySem.Spec PyProof.Rows Ek
theorem take_run {b : Int} {ns : List Int} {m : Int} (hp : PotB b ns) (hbb : b ≤ 1000000000) (hm : 0 < m) (hb : m.natAbs.log2 < 9000) : Wq (fs__law_take.run [.list (ns.map .int), .int m]) fun q ys => ∃ (z : Int) (ns : List Int), q = .d (.int z) ∧ ys = ns.map .int ∧ 0 ≤ z ∧ z < m ∧ PotB (b + 1) ns := by
  obtain ⟨p0, p1, p2, p3, r, rfl, h0, h1, h1', h2, h2', h3⟩ := hp.ex
  unfold fs__law_take
  rw [w_run, List.map_cons, List.map_cons, List.map_cons, List.map_cons]
  unfold sh__law_take
  have fin : ∀ (z q0 q1 q2 q3 : Int), 0 ≤ z → z < m → 0 ≤ q0 → 0 ≤ q1 → q1 < 4611686018427387847 → 0 ≤ q2 → q2 ≤ b + 1 → 4 ≤ q3 → ∃ (z' : Int) (ns : List Int), R.d (PyData.int z) = .d (.int z') ∧ (PyData.int q0 :: .int q1 :: .int q2 :: .int q3 :: r.map .int) = ns.map .int ∧ 0 ≤ z' ∧ z' < m ∧ PotB (b + 1) ns := fun z q0 q1 q2 q3 a b c d e f g h => ⟨z, q0 :: q1 :: q2 :: q3 :: r, rfl, rfl, a, b, ⟨q0, q1, q2, q3, r, rfl, c, d, e, f, g, h⟩⟩
  have md : ∀ z : Int, 0 ≤ z % m ∧ z % m < m := fun z => ⟨Int.emod_nonneg _ (by omega), Int.emod_lt_of_pos _ hm⟩
  have dv : ∀ z : Int, 0 ≤ z → 0 ≤ z / m := fun z h => Int.ediv_nonneg h (by omega)
  simp only [word_snoc, ↓EkS.pre, EkS.post, ↓K39TS.pre, K39TS.post, List.length_map, List.length_set, Int.reduceLT, Int.reduceLE, Int.reduceNeg, Int.reducePow, Int.reduceToNat, Nat.reduceLT, Nat.reducePow, Nat.reduceAdd, Nat.reduceLeDiff, Nat.reduceSub, Nat.reduceBEq, Int.reduceAdd, Int.reduceSub, Int.reduceMul, Int.reduceEq, Nat.reduceEqDiff]
  refine br (fun h4 => ?_) (fun h4 => ?_)
  · simp only [word_snoc, ↓EkS.pre, EkS.post, ↓K39TS.pre, K39TS.post, List.length_map, List.length_set, Int.reduceLT, Int.reduceLE, Int.reduceNeg, Int.reducePow, Int.reduceToNat, Nat.reduceLT, Nat.reducePow, Nat.reduceAdd, Nat.reduceLeDiff, Nat.reduceSub, Nat.reduceBEq, Int.reduceAdd, Int.reduceSub, Int.reduceMul, Int.reduceEq, Nat.reduceEqDiff]
    refine br (fun h5 => ?_) (fun h5 => ?_)
    · obtain ⟨c, hc⟩ := potB_cell (p0 := p0) (p1 := p1) (p2 := p2) h3 h5
      simp only [word_snoc, ↓EkS.pre, EkS.post, ↓K39TS.pre, K39TS.post, List.length_map, List.length_set, Int.reduceLT, Int.reduceLE, Int.reduceNeg, Int.reducePow, Int.reduceToNat, Nat.reduceLT, Nat.reducePow, Nat.reduceAdd, Nat.reduceLeDiff, Nat.reduceSub, Nat.reduceBEq, Int.reduceAdd, Int.reduceSub, Int.reduceMul, Int.reduceEq, Nat.reduceEqDiff, hc]
      repeat' (first | (simp only [word_snoc, ↓EkS.pre, EkS.post, ↓K39TS.pre, K39TS.post, List.length_map, List.length_set, Int.reduceLT, Int.reduceLE, Int.reduceNeg, Int.reducePow, Int.reduceToNat, Nat.reduceLT, Nat.reducePow, Nat.reduceAdd, Nat.reduceLeDiff, Nat.reduceSub, Nat.reduceBEq, Int.reduceAdd, Int.reduceSub, Int.reduceMul, Int.reduceEq, Nat.reduceEqDiff]) | (with_reducible refine br (fun _ => ?_) (fun _ => ?_)) | ((with_reducible refine ck ?_ ?_); · first | decide +kernel | omega | assumption | exact .inl (.inr (by decide)) | exact .inl (.inl (by omega)) | exact ⟨hm, hb⟩))
      all_goals first | exact fin _ _ _ _ _ (md _).1 (md _).2 (dv _ (by omega)) (by omega) (by omega) (by omega) (by omega) (by omega) | exact fin _ _ _ _ _ (md _).1 (md _).2 (by omega) (by omega) (by omega) (by omega) (by omega) (by omega)
    · repeat' (first | (simp only [word_snoc, ↓EkS.pre, EkS.post, ↓K39TS.pre, K39TS.post, List.length_map, List.length_set, Int.reduceLT, Int.reduceLE, Int.reduceNeg, Int.reducePow, Int.reduceToNat, Nat.reduceLT, Nat.reducePow, Nat.reduceAdd, Nat.reduceLeDiff, Nat.reduceSub, Nat.reduceBEq, Int.reduceAdd, Int.reduceSub, Int.reduceMul, Int.reduceEq, Nat.reduceEqDiff]) | (with_reducible refine br (fun _ => ?_) (fun _ => ?_)) | ((with_reducible refine ck ?_ ?_); · first | decide +kernel | omega | assumption | exact .inl (.inr (by decide)) | exact .inl (.inl (by omega)) | exact ⟨hm, hb⟩))
      all_goals first | exact fin _ _ _ _ _ (md _).1 (md _).2 (dv _ (by omega)) (by omega) (by omega) (by omega) (by omega) (by omega) | exact fin _ _ _ _ _ (md _).1 (md _).2 (by omega) (by omega) (by omega) (by omega) (by omega) (by omega)
  · repeat' (first | (simp only [word_snoc, ↓EkS.pre, EkS.post, ↓K39TS.pre, K39TS.post, List.length_map, List.length_set, Int.reduceLT, Int.reduceLE, Int.reduceNeg, Int.reducePow, Int.reduceToNat, Nat.reduceLT, Nat.reducePow, Nat.reduceAdd, Nat.reduceLeDiff, Nat.reduceSub, Nat.reduceBEq, Int.reduceAdd, Int.reduceSub, Int.reduceMul, Int.reduceEq, Nat.reduceEqDiff]) | (with_reducible refine br (fun _ => ?_) (fun _ => ?_)) | ((with_reducible refine ck ?_ ?_); · first | decide +kernel | omega | assumption | exact .inl (.inr (by decide)) | exact .inl (.inl (by omega)) | exact ⟨hm, hb⟩))
    all_goals first | exact fin _ _ _ _ _ (md _).1 (md _).2 (dv _ (by omega)) (by omega) (by omega) (by omega) (by omega) (by omega) | exact fin _ _ _ _ _ (md _).1 (md _).2 (by omega) (by omega) (by omega) (by omega) (by omega) (by omega)

def okL (c : List Nat) : Bool := c.all fun x => decide (x ∈ [73, 88, 89, 90])
theorem is_pauli_str (e : Int) (c : List Nat) (hc : c.length ≤ 1000000) : fs_is_pauli.run [.tuple [.int e, .str (sx c)]] = some (.d (.bool ((decide (0 ≤ e) && decide (e ≤ 3)) && (decide (c ≠ []) && okL c))), []) := by
  have h : Wq (fs_is_pauli.run [.tuple [.int e, .str (sx c)]]) fun r ys => r = .d (.bool ((decide (0 ≤ e) && decide (e ≤ 3)) && (decide (c ≠ []) && okL c))) ∧ ys = [] := by
    repeat' (first | (simp only [word_snoc, ↓EkS.pre, EkS.post, ↓K39TS.pre, K39TS.post, List.length_map, List.length_set, Int.reduceLT, Int.reduceLE, Int.reduceNeg, Int.reducePow, Int.reduceToNat, Nat.reduceLT, Nat.reducePow, Nat.reduceAdd, Nat.reduceLeDiff, Nat.reduceSub, Nat.reduceBEq, Int.reduceAdd, Int.reduceSub, Int.reduceMul, Int.reduceEq, Nat.reduceEqDiff, ↓rn_is_pauli, sh_is_pauli, ↓rn_is_integer, sh_is_integer, sx_inj, sx_chars, sx_len]) | (with_reducible refine br (fun _ => ?_) (fun _ => ?_)) | ((with_reducible refine ck ?_ ?_); · first | decide +kernel | omega | assumption | exact .inl (.inr (by decide)) | exact .inl (.inl (by omega)) | skip))
    · first | (simp; omega) | simp_all
    · refine lc_all (c) _ (fun x => .bool (decide (x ∈ [73, 88, 89, 90]))) ?_ (fun a ha => ?_) ?_
      · first | omega | (simp only [List.length_map, List.length_range, List.length_zip]; omega)
      · simp only [word_snoc, ↓EkS.pre, EkS.post, ↓K39TS.pre, K39TS.post, List.length_map, List.length_set, Int.reduceLT, Int.reduceLE, Int.reduceNeg, Int.reducePow, Int.reduceToNat, Nat.reduceLT, Nat.reducePow, Nat.reduceAdd, Nat.reduceLeDiff, Nat.reduceSub, Nat.reduceBEq, Int.reduceAdd, Int.reduceSub, Int.reduceMul, Int.reduceEq, Nat.reduceEqDiff, ce_is_pauli_1, in_sign]
      simp only [word_snoc, ↓EkS.pre, EkS.post, ↓K39TS.pre, K39TS.post, List.length_map, List.length_set, Int.reduceLT, Int.reduceLE, Int.reduceNeg, Int.reducePow, Int.reduceToNat, Nat.reduceLT, Nat.reducePow, Nat.reduceAdd, Nat.reduceLeDiff, Nat.reduceSub, Nat.reduceBEq, Int.reduceAdd, Int.reduceSub, Int.reduceMul, Int.reduceEq, Nat.reduceEqDiff, bls_map, List.all_map]
      simp_all [okL]
    · first | (simp; omega) | simp_all
    · first | (simp; omega) | simp_all
  obtain ⟨r, ys, e, rfl, rfl⟩ := h.ex
  exact e
theorem okL_cd : ∀ l : List Lt, okL (l.map cd) = true
  | [] => rfl
  | a :: l => by
    have := okL_cd l
    unfold okL at this ⊢
    rw [List.map_cons, List.all_cons, this]
    cases a <;> rfl
theorem is_pauli_pw {e : Int} {l : List Lt} (h0 : 0 ≤ e) (h3 : e ≤ 3) (hl : l ≠ []) (hz : l.length ≤ 1000000) : fs_is_pauli.run [pw e l] = some (.d (.bool true), []) := by
  have := is_pauli_str e (l.map cd) (by simpa using hz)
  rw [okL_cd] at this
  unfold pw wd
  rw [this]
  simp [h0, h3, hl]
theorem look_ml (a b : Lt) : d_PRODUCTS.lookup (sx [cd a, cd b]) = some (.tuple [.int (ph a b), .str (sx [cd (ml a b)])]) := by
  cases a <;> cases b <;> kernel_rfl
theorem product_of_run {e e' : Int} {l m : List Lt} (hl : l.length ≤ 1000) (hm : m.length ≤ 1000) : fs_product_of.run [pw e l, pw e' m] = some (.d (pw ((e + e' + pes l m) % 4) (pms l m)), []) := by
  have h : Wq (fs_product_of.run [pw e l, pw e' m]) fun r ys => r = .d (pw ((e + e' + pes l m) % 4) (pms l m)) ∧ ys = [] := by
    unfold pw
    repeat' (first | (simp only [word_snoc, ↓EkS.pre, EkS.post, ↓K39TS.pre, K39TS.post, List.length_map, List.length_set, Int.reduceLT, Int.reduceLE, Int.reduceNeg, Int.reducePow, Int.reduceToNat, Nat.reduceLT, Nat.reducePow, Nat.reduceAdd, Nat.reduceLeDiff, Nat.reduceSub, Nat.reduceBEq, Int.reduceAdd, Int.reduceSub, Int.reduceMul, Int.reduceEq, Nat.reduceEqDiff, ↓rn_product_of, sh_product_of]) | (with_reducible refine br (fun _ => ?_) (fun _ => ?_)) | ((with_reducible refine ck ?_ ?_); · first | decide +kernel | omega | assumption | exact .inl (.inr (by decide)) | exact .inl (.inl (by omega)) | (simp only [wd_len]; omega)))
    rw [wd_zip]
    refine for_pre (l.zip m) _ (fun pre => [some (R.d (.tuple [.int e, .str (wd l)])), some (R.d (.tuple [.int e', .str (wd m)])), some (.d (.int (e + e' + (pre.map fun p => ph p.1 p.2).sum))), some (.own (pre.map fun p => .str (sx [cd (ml p.1 p.2)]))), none, none, none, none]) (by simp [mask]) (fun pre a post hp => ?_) ?_
    · have hz : pre.length < 1000000 := by
        have := congrArg List.length hp
        simp at this
        omega
      simp only [word_snoc, ↓EkS.pre, EkS.post, ↓K39TS.pre, K39TS.post, List.length_map, List.length_set, Int.reduceLT, Int.reduceLE, Int.reduceNeg, Int.reducePow, Int.reduceToNat, Nat.reduceLT, Nat.reducePow, Nat.reduceAdd, Nat.reduceLeDiff, Nat.reduceSub, Nat.reduceBEq, Int.reduceAdd, Int.reduceSub, Int.reduceMul, Int.reduceEq, Nat.reduceEqDiff, s1, lb_product_of_1, sx_len, sx_app, List.cons_append, List.nil_append, look_ml]
      repeat' (first | (simp only [word_snoc, ↓EkS.pre, EkS.post, ↓K39TS.pre, K39TS.post, List.length_map, List.length_set, Int.reduceLT, Int.reduceLE, Int.reduceNeg, Int.reducePow, Int.reduceToNat, Nat.reduceLT, Nat.reducePow, Nat.reduceAdd, Nat.reduceLeDiff, Nat.reduceSub, Nat.reduceBEq, Int.reduceAdd, Int.reduceSub, Int.reduceMul, Int.reduceEq, Nat.reduceEqDiff, s1, sx_len, sx_app, List.cons_append, List.nil_append, look_ml]) | (with_reducible refine br (fun _ => ?_) (fun _ => ?_)) | ((with_reducible refine ck ?_ ?_); · first | decide +kernel | omega | assumption | exact .inl (.inr (by decide)) | exact .inl (.inl (by omega)) | skip))
      simp [List.sum_append, Int.add_assoc]
    · have hlen : (List.zipWith ml l m).length ≤ 1000 := by rw [List.length_zipWith]; omega
      simp only [word_snoc, ↓EkS.pre, EkS.post, ↓K39TS.pre, K39TS.post, List.length_map, List.length_set, Int.reduceLT, Int.reduceLE, Int.reduceNeg, Int.reducePow, Int.reduceToNat, Nat.reduceLT, Nat.reducePow, Nat.reduceAdd, Nat.reduceLeDiff, Nat.reduceSub, Nat.reduceBEq, Int.reduceAdd, Int.reduceSub, Int.reduceMul, Int.reduceEq, Nat.reduceEqDiff]
      have e1 : ((l.zip m).map fun p => PyData.str (sx [cd (ml p.1 p.2)])) = ((pms l m).map fun a => [cd a]).map fun c => .str (sx c) := by
        rw [List.map_map]
        unfold pms List.zip
        rw [List.map_zipWith, List.map_zipWith]
        rfl
      rw [e1, meth_join, wd_join]
      refine ck ?_ ?_
      · rw [List.length_map]; exact Nat.le_trans hlen (by decide)
      simp only [word_snoc, ↓EkS.pre, EkS.post, ↓K39TS.pre, K39TS.post, List.length_map, List.length_set, Int.reduceLT, Int.reduceLE, Int.reduceNeg, Int.reducePow, Int.reduceToNat, Nat.reduceLT, Nat.reducePow, Nat.reduceAdd, Nat.reduceLeDiff, Nat.reduceSub, Nat.reduceBEq, Int.reduceAdd, Int.reduceSub, Int.reduceMul, Int.reduceEq, Nat.reduceEqDiff, pes, wd, List.zip, List.map_zipWith]
  obtain ⟨r, ys, e, rfl, rfl⟩ := h.ex
  exact e

theorem check_none {e : Int} {l : List Lt} (h0 : 0 ≤ e) (h3 : e ≤ 3) (hl : l ≠ []) (hz : l.length ≤ 1000000) : fs_check_pauli.run [pw e l, .none] = some (.d .none, []) := by
  have h : Wq (fs_check_pauli.run [pw e l, .none]) fun r ys => r = .d .none ∧ ys = [] := by
    repeat' (first | (simp only [word_snoc, ↓EkS.pre, EkS.post, ↓K39TS.pre, K39TS.post, List.length_map, List.length_set, Int.reduceLT, Int.reduceLE, Int.reduceNeg, Int.reducePow, Int.reduceToNat, Nat.reduceLT, Nat.reducePow, Nat.reduceAdd, Nat.reduceLeDiff, Nat.reduceSub, Nat.reduceBEq, Int.reduceAdd, Int.reduceSub, Int.reduceMul, Int.reduceEq, Nat.reduceEqDiff, ↓rn_check_pauli, sh_check_pauli, is_pauli_pw h0 h3 hl hz]) | (with_reducible refine br (fun _ => ?_) (fun _ => ?_)) | ((with_reducible refine ck ?_ ?_); · first | decide +kernel | omega | assumption | exact .inl (.inr (by decide)) | exact .inl (.inl (by omega)) | skip))
  obtain ⟨r, ys, e, rfl, rfl⟩ := h.ex
  exact e
theorem check_len {e : Int} {l : List Lt} {n : Nat} (h0 : 0 ≤ e) (h3 : e ≤ 3) (hl : l ≠ []) (hz : l.length ≤ 1000000) (hn : n = l.length) : fs_check_pauli.run [pw e l, .int n] = some (.d .none, []) := by
  subst hn
  have h : Wq (fs_check_pauli.run [pw e l, .int l.length]) fun r ys => r = .d .none ∧ ys = [] := by
    repeat' (first | (simp only [word_snoc, ↓EkS.pre, EkS.post, ↓K39TS.pre, K39TS.post, List.length_map, List.length_set, Int.reduceLT, Int.reduceLE, Int.reduceNeg, Int.reducePow, Int.reduceToNat, Nat.reduceLT, Nat.reducePow, Nat.reduceAdd, Nat.reduceLeDiff, Nat.reduceSub, Nat.reduceBEq, Int.reduceAdd, Int.reduceSub, Int.reduceMul, Int.reduceEq, Nat.reduceEqDiff, ↓rn_check_pauli, sh_check_pauli, is_pauli_pw h0 h3 hl hz]) | (with_reducible refine br (fun _ => ?_) (fun _ => ?_)) | ((with_reducible refine ck ?_ ?_); · first | decide +kernel | omega | assumption | exact .inl (.inr (by decide)) | exact .inl (.inl (by omega)) | skip))
    repeat' (first | (simp only [word_snoc, ↓EkS.pre, EkS.post, ↓K39TS.pre, K39TS.post, List.length_map, List.length_set, Int.reduceLT, Int.reduceLE, Int.reduceNeg, Int.reducePow, Int.reduceToNat, Nat.reduceLT, Nat.reducePow, Nat.reduceAdd, Nat.reduceLeDiff, Nat.reduceSub, Nat.reduceBEq, Int.reduceAdd, Int.reduceSub, Int.reduceMul, Int.reduceEq, Nat.reduceEqDiff, pw, wd_len]) | (with_reducible refine br (fun _ => ?_) (fun _ => ?_)) | ((with_reducible refine ck ?_ ?_); · first | decide +kernel | omega | assumption | exact .inl (.inr (by decide)) | exact .inl (.inl (by omega)) | (simp only [wd_len]; omega)))
  obtain ⟨r, ys, e, rfl, rfl⟩ := h.ex
  exact e

def unl (p : Lt × Lt) : Bool := decide (p.1 ≠ p.2) && (decide (p.1 ≠ .I) && decide (p.2 ≠ .I))
def meetL (l m : List Lt) : Bool := decide (((l.zip m).filter unl).length % 2 = 0)
theorem meets_of_run {e e' : Int} {l m : List Lt} (hl : l.length ≤ 1000) (hm : m.length ≤ 1000) : fs_meets_of.run [pw e l, pw e' m] = some (.d (.bool (meetL l m)), []) := by
  have h : Wq (fs_meets_of.run [pw e l, pw e' m]) fun r ys => r = .d (.bool (meetL l m)) ∧ ys = [] := by
    unfold pw
    repeat' (first | (simp only [word_snoc, ↓EkS.pre, EkS.post, ↓K39TS.pre, K39TS.post, List.length_map, List.length_set, Int.reduceLT, Int.reduceLE, Int.reduceNeg, Int.reducePow, Int.reduceToNat, Nat.reduceLT, Nat.reducePow, Nat.reduceAdd, Nat.reduceLeDiff, Nat.reduceSub, Nat.reduceBEq, Int.reduceAdd, Int.reduceSub, Int.reduceMul, Int.reduceEq, Nat.reduceEqDiff, ↓rn_meets_of, sh_meets_of]) | (with_reducible refine br (fun _ => ?_) (fun _ => ?_)) | ((with_reducible refine ck ?_ ?_); · first | decide +kernel | omega | assumption | exact .inl (.inr (by decide)) | exact .inl (.inl (by omega)) | (simp only [wd_len]; omega)))
    rw [wd_zip]
    refine lc_typ (l.zip m) _ (unl) (fun p => .str (s1 p.1)) ?_ (fun a ha => ?_) ?_
    · first | omega | (simp only [List.length_map, List.length_range, List.length_zip]; omega)
    · simp only [word_snoc, ↓EkS.pre, EkS.post, ↓K39TS.pre, K39TS.post, List.length_map, List.length_set, Int.reduceLT, Int.reduceLE, Int.reduceNeg, Int.reducePow, Int.reduceToNat, Nat.reduceLT, Nat.reducePow, Nat.reduceAdd, Nat.reduceLeDiff, Nat.reduceSub, Nat.reduceBEq, Int.reduceAdd, Int.reduceSub, Int.reduceMul, Int.reduceEq, Nat.reduceEqDiff, s1, sx_inj]
      repeat' (first | (simp only [word_snoc, ↓EkS.pre, EkS.post, ↓K39TS.pre, K39TS.post, List.length_map, List.length_set, Int.reduceLT, Int.reduceLE, Int.reduceNeg, Int.reducePow, Int.reduceToNat, Nat.reduceLT, Nat.reducePow, Nat.reduceAdd, Nat.reduceLeDiff, Nat.reduceSub, Nat.reduceBEq, Int.reduceAdd, Int.reduceSub, Int.reduceMul, Int.reduceEq, Nat.reduceEqDiff, s1, sx_inj, ce_meets_of_1]) | (with_reducible refine br (fun _ => ?_) (fun _ => ?_)) | ((with_reducible refine ck ?_ ?_); · first | decide +kernel | omega | assumption | exact .inl (.inr (by decide)) | exact .inl (.inl (by omega)) | skip))
      all_goals (obtain ⟨x, y⟩ := a; cases x <;> cases y <;> (try simp [unl, cd]) <;> (try simp only [word_snoc, ↓EkS.pre, EkS.post, ↓K39TS.pre, K39TS.post, List.length_map, List.length_set, Int.reduceLT, Int.reduceLE, Int.reduceNeg, Int.reducePow, Int.reduceToNat, Nat.reduceLT, Nat.reducePow, Nat.reduceAdd, Nat.reduceLeDiff, Nat.reduceSub, Nat.reduceBEq, Int.reduceAdd, Int.reduceSub, Int.reduceMul, Int.reduceEq, Nat.reduceEqDiff]) <;> (try simp_all [cd]))
    simp only [word_snoc, ↓EkS.pre, EkS.post, ↓K39TS.pre, K39TS.post, List.length_map, List.length_set, Int.reduceLT, Int.reduceLE, Int.reduceNeg, Int.reducePow, Int.reduceToNat, Nat.reduceLT, Nat.reducePow, Nat.reduceAdd, Nat.reduceLeDiff, Nat.reduceSub, Nat.reduceBEq, Int.reduceAdd, Int.reduceSub, Int.reduceMul, Int.reduceEq, Nat.reduceEqDiff]
    simp [meetL]
    omega
  obtain ⟨r, ys, e, rfl, rfl⟩ := h.ex
  exact e

theorem in_fX (a : Lt) : (if cd a ∈ [88, 89] then (1 : Int) else 0) = (fX a : Nat) := by cases a <;> decide
theorem in_tZ (a : Lt) : (if cd a ∈ [89, 90] then (1 : Int) else 0) = (tZ a : Nat) := by cases a <;> decide
theorem split_run {e : Int} {l : List Lt} (hl : l.length ≤ 1000) : go__law_split [pw e l] = some [.d (.int (e + (l.map yY).sum)), .own (l.map fun a => .int (fX a : Nat)), .own (l.map fun a => .int (tZ a : Nat))] := by
  have h : Wo (go__law_split [pw e l]) fun rs => rs = [.d (.int (e + (l.map yY).sum)), .own (l.map fun a => .int (fX a : Nat)), .own (l.map fun a => .int (tZ a : Nat))] := by
    unfold pw
    repeat' (first | (simp only [word_snoc, ↓EkS.pre, EkS.post, ↓K39TS.pre, K39TS.post, List.length_map, List.length_set, Int.reduceLT, Int.reduceLE, Int.reduceNeg, Int.reducePow, Int.reduceToNat, Nat.reduceLT, Nat.reducePow, Nat.reduceAdd, Nat.reduceLeDiff, Nat.reduceSub, Nat.reduceBEq, Int.reduceAdd, Int.reduceSub, Int.reduceMul, Int.reduceEq, Nat.reduceEqDiff, ↓rn__law_split, sh__law_split, wd_chars]) | (with_reducible refine br (fun _ => ?_) (fun _ => ?_)) | ((with_reducible refine ck ?_ ?_); · first | decide +kernel | omega | assumption | exact .inl (.inr (by decide)) | exact .inl (.inl (by omega)) | (simp only [wd_len]; omega)))
    refine lc_all (l) _ (fun a => .int (fX a : Nat)) ?_ (fun a ha => ?_) ?_
    · first | omega | (simp only [List.length_map, List.length_range, List.length_zip]; omega)
    · simp only [word_snoc, ↓EkS.pre, EkS.post, ↓K39TS.pre, K39TS.post, List.length_map, List.length_set, Int.reduceLT, Int.reduceLE, Int.reduceNeg, Int.reducePow, Int.reduceToNat, Nat.reduceLT, Nat.reducePow, Nat.reduceAdd, Nat.reduceLeDiff, Nat.reduceSub, Nat.reduceBEq, Int.reduceAdd, Int.reduceSub, Int.reduceMul, Int.reduceEq, Nat.reduceEqDiff, ce__law_split_1, s1, in_sign]
      exact congrArg PyData.int (in_fX a)
    unfold wd
    repeat' (first | (simp only [word_snoc, ↓EkS.pre, EkS.post, ↓K39TS.pre, K39TS.post, List.length_map, List.length_set, Int.reduceLT, Int.reduceLE, Int.reduceNeg, Int.reducePow, Int.reduceToNat, Nat.reduceLT, Nat.reducePow, Nat.reduceAdd, Nat.reduceLeDiff, Nat.reduceSub, Nat.reduceBEq, Int.reduceAdd, Int.reduceSub, Int.reduceMul, Int.reduceEq, Nat.reduceEqDiff, meth_count]) | (with_reducible refine br (fun _ => ?_) (fun _ => ?_)) | ((with_reducible refine ck ?_ ?_); · first | decide +kernel | omega | assumption | exact .inl (.inr (by decide)) | exact .inl (.inl (by omega)) | (simp only [sx_len, List.length_map]; omega)))
    rw [show chars (sx (l.map cd)) = l.map fun a => .str (s1 a) from wd_chars]
    refine lc_all (l) _ (fun a => .int (tZ a : Nat)) ?_ (fun a ha => ?_) ?_
    · first | omega | (simp only [List.length_map, List.length_range, List.length_zip]; omega)
    · simp only [word_snoc, ↓EkS.pre, EkS.post, ↓K39TS.pre, K39TS.post, List.length_map, List.length_set, Int.reduceLT, Int.reduceLE, Int.reduceNeg, Int.reducePow, Int.reduceToNat, Nat.reduceLT, Nat.reducePow, Nat.reduceAdd, Nat.reduceLeDiff, Nat.reduceSub, Nat.reduceBEq, Int.reduceAdd, Int.reduceSub, Int.reduceMul, Int.reduceEq, Nat.reduceEqDiff, ce__law_split_2, s1, in_sign]
      exact congrArg PyData.int (in_tZ a)
    simp only [word_snoc, ↓EkS.pre, EkS.post, ↓K39TS.pre, K39TS.post, List.length_map, List.length_set, Int.reduceLT, Int.reduceLE, Int.reduceNeg, Int.reducePow, Int.reduceToNat, Nat.reduceLT, Nat.reducePow, Nat.reduceAdd, Nat.reduceLeDiff, Nat.reduceSub, Nat.reduceBEq, Int.reduceAdd, Int.reduceSub, Int.reduceMul, Int.reduceEq, Nat.reduceEqDiff, count_Y]
  obtain ⟨rs, e, rfl⟩ := h
  exact e
theorem look_word (a : Lt) : atI (sx [73, 88, 90, 89]).cps.toList ((fX a : Nat) + 2 * ((tZ a : Nat) : Int)) = some (cd a) := by cases a <;> rfl
theorem word_run {e : Int} {l : List Lt} (hl : l.length ≤ 1000) : fs__law_word.run [.list [.int e, .list (l.map fun a => .int (fX a : Nat)), .list (l.map fun a => .int (tZ a : Nat))]] = some (.d (pw ((e - (l.map yY).sum) % 4) l), []) := by
  have h : Wq (fs__law_word.run [.list [.int e, .list (l.map fun a => .int (fX a : Nat)), .list (l.map fun a => .int (tZ a : Nat))]]) fun r ys => r = .d (pw ((e - (l.map yY).sum) % 4) l) ∧ ys = [] := by
    repeat' (first | (simp only [word_snoc, ↓EkS.pre, EkS.post, ↓K39TS.pre, K39TS.post, List.length_map, List.length_set, Int.reduceLT, Int.reduceLE, Int.reduceNeg, Int.reducePow, Int.reduceToNat, Nat.reduceLT, Nat.reducePow, Nat.reduceAdd, Nat.reduceLeDiff, Nat.reduceSub, Nat.reduceBEq, Int.reduceAdd, Int.reduceSub, Int.reduceMul, Int.reduceEq, Nat.reduceEqDiff, ↓rn__law_word, sh__law_word]) | (with_reducible refine br (fun _ => ?_) (fun _ => ?_)) | ((with_reducible refine ck ?_ ?_); · first | decide +kernel | omega | assumption | exact .inl (.inr (by decide)) | exact .inl (.inl (by omega)) | (unfold okR; simp; omega)))
    rw [range_map]
    refine lc_all (List.range l.length) _ (fun k => .str (sx [cd (l.getD k .I)])) ?_ (fun a ha => ?_) ?_
    · first | omega | (simp only [List.length_map, List.length_range, List.length_zip]; omega)
    · simp only [word_snoc, ↓EkS.pre, EkS.post, ↓K39TS.pre, K39TS.post, List.length_map, List.length_set, Int.reduceLT, Int.reduceLE, Int.reduceNeg, Int.reducePow, Int.reduceToNat, Nat.reduceLT, Nat.reducePow, Nat.reduceAdd, Nat.reduceLeDiff, Nat.reduceSub, Nat.reduceBEq, Int.reduceAdd, Int.reduceSub, Int.reduceMul, Int.reduceEq, Nat.reduceEqDiff, ce__law_word_1]
      have hk : a < l.length := List.mem_range.mp ha
      repeat' (first | (simp only [word_snoc, ↓EkS.pre, EkS.post, ↓K39TS.pre, K39TS.post, List.length_map, List.length_set, Int.reduceLT, Int.reduceLE, Int.reduceNeg, Int.reducePow, Int.reduceToNat, Nat.reduceLT, Nat.reducePow, Nat.reduceAdd, Nat.reduceLeDiff, Nat.reduceSub, Nat.reduceBEq, Int.reduceAdd, Int.reduceSub, Int.reduceMul, Int.reduceEq, Nat.reduceEqDiff, atI_getD (d := Lt.I) hk, look_word, sx_one]) | (with_reducible refine br (fun _ => ?_) (fun _ => ?_)) | ((with_reducible refine ck ?_ ?_); · first | decide +kernel | omega | assumption | exact .inl (.inr (by decide)) | exact .inl (.inl (by omega)) | (simp only [sx_len, List.length_cons, List.length_nil]; omega)))
    rw [range_one (fun a => PyData.str (sx [cd a])) Lt.I l]
    simp only [word_snoc, ↓EkS.pre, EkS.post, ↓K39TS.pre, K39TS.post, List.length_map, List.length_set, Int.reduceLT, Int.reduceLE, Int.reduceNeg, Int.reducePow, Int.reduceToNat, Nat.reduceLT, Nat.reducePow, Nat.reduceAdd, Nat.reduceLeDiff, Nat.reduceSub, Nat.reduceBEq, Int.reduceAdd, Int.reduceSub, Int.reduceMul, Int.reduceEq, Nat.reduceEqDiff]
    rw [show (l.map fun a => PyData.str (sx [cd a])) = (l.map fun a => [cd a]).map fun c => PyData.str (sx c) by rw [List.map_map]; rfl, meth_join, wd_join]
    repeat' (first | (simp only [word_snoc, ↓EkS.pre, EkS.post, ↓K39TS.pre, K39TS.post, List.length_map, List.length_set, Int.reduceLT, Int.reduceLE, Int.reduceNeg, Int.reducePow, Int.reduceToNat, Nat.reduceLT, Nat.reducePow, Nat.reduceAdd, Nat.reduceLeDiff, Nat.reduceSub, Nat.reduceBEq, Int.reduceAdd, Int.reduceSub, Int.reduceMul, Int.reduceEq, Nat.reduceEqDiff, meth_count]) | (with_reducible refine br (fun _ => ?_) (fun _ => ?_)) | ((with_reducible refine ck ?_ ?_); · first | decide +kernel | omega | assumption | exact .inl (.inr (by decide)) | exact .inl (.inl (by omega)) | (simp only [List.length_map]; omega)))
    simp [pw, wd, count_Y]
  obtain ⟨r, ys, e, rfl, rfl⟩ := h.ex
  exact e
theorem times_run {e e' : Int} {l m : List Lt} (hl : l.length ≤ 1000) (hm : m.length = l.length) : fs__law_times.run [pw e l, pw e' m] = some (.d (pw ((e + e' + pes l m) % 4) (pms l m)), []) := by
  have h : Wq (fs__law_times.run [pw e l, pw e' m]) fun r ys => r = .d (pw ((e + e' + pes l m) % 4) (pms l m)) ∧ ys = [] := by
    have c1 := split_run (e := e) hl
    have c2 := split_run (e := e') (l := m) (by omega)
    repeat' (first | (simp only [word_snoc, ↓EkS.pre, EkS.post, ↓K39TS.pre, K39TS.post, List.length_map, List.length_set, Int.reduceLT, Int.reduceLE, Int.reduceNeg, Int.reducePow, Int.reduceToNat, Nat.reduceLT, Nat.reducePow, Nat.reduceAdd, Nat.reduceLeDiff, Nat.reduceSub, Nat.reduceBEq, Int.reduceAdd, Int.reduceSub, Int.reduceMul, Int.reduceEq, Nat.reduceEqDiff, ↓rn__law_times, sh__law_times, c1, c2]) | (with_reducible refine br (fun _ => ?_) (fun _ => ?_)) | ((with_reducible refine ck ?_ ?_); · first | decide +kernel | omega | assumption | exact .inl (.inr (by decide)) | exact .inl (.inl (by omega)) | (unfold okR; simp; omega)))
    rw [range_map]
    refine lc_all (List.range l.length) _ (fun k => .int (((tZ (l.getD k .I) : Nat) : Int) * (fX (m.getD k .I) : Nat))) ?_ (fun a ha => ?_) ?_
    · first | omega | (simp only [List.length_map, List.length_range, List.length_zip]; omega)
    · simp only [word_snoc, ↓EkS.pre, EkS.post, ↓K39TS.pre, K39TS.post, List.length_map, List.length_set, Int.reduceLT, Int.reduceLE, Int.reduceNeg, Int.reducePow, Int.reduceToNat, Nat.reduceLT, Nat.reducePow, Nat.reduceAdd, Nat.reduceLeDiff, Nat.reduceSub, Nat.reduceBEq, Int.reduceAdd, Int.reduceSub, Int.reduceMul, Int.reduceEq, Nat.reduceEqDiff, ce__law_times_1]
      have hk : a < l.length := List.mem_range.mp ha
      have hk' : a < m.length := by omega
      have b1 : (((tZ (l.getD a .I) : Nat) : Int)).natAbs < 2 ^ 64 := by cases l.getD a .I <;> decide
      repeat' (first | (simp only [word_snoc, ↓EkS.pre, EkS.post, ↓K39TS.pre, K39TS.post, List.length_map, List.length_set, Int.reduceLT, Int.reduceLE, Int.reduceNeg, Int.reducePow, Int.reduceToNat, Nat.reduceLT, Nat.reducePow, Nat.reduceAdd, Nat.reduceLeDiff, Nat.reduceSub, Nat.reduceBEq, Int.reduceAdd, Int.reduceSub, Int.reduceMul, Int.reduceEq, Nat.reduceEqDiff, atI_getD (d := Lt.I) hk, atI_getD (d := Lt.I) hk']) | (with_reducible refine br (fun _ => ?_) (fun _ => ?_)) | ((with_reducible refine ck ?_ ?_); · first | decide +kernel | omega | assumption | exact .inl (.inr (by decide)) | exact .inl (.inl (by omega)) | exact .inl (.inl b1)))
    rw [range_zip (fun a b => PyData.int (((tZ a : Nat) : Int) * (fX b : Nat))) Lt.I Lt.I l m hm.symm]
    rw [show List.zipWith (fun a b => PyData.int (((tZ a : Nat) : Int) * (fX b : Nat))) l m = (List.zipWith (fun a b => ((tZ a : Nat) : Int) * (fX b : Nat)) l m).map .int by rw [List.map_zipWith]]
    repeat' (first | (simp only [word_snoc, ↓EkS.pre, EkS.post, ↓K39TS.pre, K39TS.post, List.length_map, List.length_set, Int.reduceLT, Int.reduceLE, Int.reduceNeg, Int.reducePow, Int.reduceToNat, Nat.reduceLT, Nat.reducePow, Nat.reduceAdd, Nat.reduceLeDiff, Nat.reduceSub, Nat.reduceBEq, Int.reduceAdd, Int.reduceSub, Int.reduceMul, Int.reduceEq, Nat.reduceEqDiff, ints_map id]) | (with_reducible refine br (fun _ => ?_) (fun _ => ?_)) | ((with_reducible refine ck ?_ ?_); · first | decide +kernel | omega | assumption | exact .inl (.inr (by decide)) | exact .inl (.inl (by omega)) | (unfold okR; simp; omega)))
    rw [show ints? ((List.zipWith (fun a b => ((tZ a : Nat) : Int) * (fX b : Nat)) l m).map .int) = some (List.zipWith (fun a b => ((tZ a : Nat) : Int) * (fX b : Nat)) l m) by rw [ints_map (fun a => a)]; simp]
    repeat' (first | (simp only [word_snoc, ↓EkS.pre, EkS.post, ↓K39TS.pre, K39TS.post, List.length_map, List.length_set, Int.reduceLT, Int.reduceLE, Int.reduceNeg, Int.reducePow, Int.reduceToNat, Nat.reduceLT, Nat.reducePow, Nat.reduceAdd, Nat.reduceLeDiff, Nat.reduceSub, Nat.reduceBEq, Int.reduceAdd, Int.reduceSub, Int.reduceMul, Int.reduceEq, Nat.reduceEqDiff]) | (with_reducible refine br (fun _ => ?_) (fun _ => ?_)) | ((with_reducible refine ck ?_ ?_); · first | decide +kernel | omega | assumption | exact .inl (.inr (by decide)) | exact .inl (.inl (by omega)) | (unfold okR; simp; omega)))
    rw [range_map]
    refine lc_all (List.range l.length) _ (fun k => .int (fX (ml (l.getD k .I) (m.getD k .I)) : Nat)) ?_ (fun a ha => ?_) ?_
    · first | omega | (simp only [List.length_map, List.length_range, List.length_zip]; omega)
    · simp only [word_snoc, ↓EkS.pre, EkS.post, ↓K39TS.pre, K39TS.post, List.length_map, List.length_set, Int.reduceLT, Int.reduceLE, Int.reduceNeg, Int.reducePow, Int.reduceToNat, Nat.reduceLT, Nat.reducePow, Nat.reduceAdd, Nat.reduceLeDiff, Nat.reduceSub, Nat.reduceBEq, Int.reduceAdd, Int.reduceSub, Int.reduceMul, Int.reduceEq, Nat.reduceEqDiff, ce__law_times_2]
      have hk : a < l.length := List.mem_range.mp ha
      have hk' : a < m.length := by omega
      repeat' (first | (simp only [word_snoc, ↓EkS.pre, EkS.post, ↓K39TS.pre, K39TS.post, List.length_map, List.length_set, Int.reduceLT, Int.reduceLE, Int.reduceNeg, Int.reducePow, Int.reduceToNat, Nat.reduceLT, Nat.reducePow, Nat.reduceAdd, Nat.reduceLeDiff, Nat.reduceSub, Nat.reduceBEq, Int.reduceAdd, Int.reduceSub, Int.reduceMul, Int.reduceEq, Nat.reduceEqDiff, atI_getD (d := Lt.I) hk, atI_getD (d := Lt.I) hk', xor_fX]) | (with_reducible refine br (fun _ => ?_) (fun _ => ?_)) | ((with_reducible refine ck ?_ ?_); · first | decide +kernel | omega | assumption | exact .inl (.inr (by decide)) | exact .inl (.inl (by omega)) | skip))
    rw [range_zip (fun a b => PyData.int (fX (ml a b) : Nat)) Lt.I Lt.I l m hm.symm]
    repeat' (first | (simp only [word_snoc, ↓EkS.pre, EkS.post, ↓K39TS.pre, K39TS.post, List.length_map, List.length_set, Int.reduceLT, Int.reduceLE, Int.reduceNeg, Int.reducePow, Int.reduceToNat, Nat.reduceLT, Nat.reducePow, Nat.reduceAdd, Nat.reduceLeDiff, Nat.reduceSub, Nat.reduceBEq, Int.reduceAdd, Int.reduceSub, Int.reduceMul, Int.reduceEq, Nat.reduceEqDiff]) | (with_reducible refine br (fun _ => ?_) (fun _ => ?_)) | ((with_reducible refine ck ?_ ?_); · first | decide +kernel | omega | assumption | exact .inl (.inr (by decide)) | exact .inl (.inl (by omega)) | (unfold okR; simp; omega)))
    rw [range_map]
    refine lc_all (List.range l.length) _ (fun k => .int (tZ (ml (l.getD k .I) (m.getD k .I)) : Nat)) ?_ (fun a ha => ?_) ?_
    · first | omega | (simp only [List.length_map, List.length_range, List.length_zip]; omega)
    · simp only [word_snoc, ↓EkS.pre, EkS.post, ↓K39TS.pre, K39TS.post, List.length_map, List.length_set, Int.reduceLT, Int.reduceLE, Int.reduceNeg, Int.reducePow, Int.reduceToNat, Nat.reduceLT, Nat.reducePow, Nat.reduceAdd, Nat.reduceLeDiff, Nat.reduceSub, Nat.reduceBEq, Int.reduceAdd, Int.reduceSub, Int.reduceMul, Int.reduceEq, Nat.reduceEqDiff, ce__law_times_3]
      have hk : a < l.length := List.mem_range.mp ha
      have hk' : a < m.length := by omega
      repeat' (first | (simp only [word_snoc, ↓EkS.pre, EkS.post, ↓K39TS.pre, K39TS.post, List.length_map, List.length_set, Int.reduceLT, Int.reduceLE, Int.reduceNeg, Int.reducePow, Int.reduceToNat, Nat.reduceLT, Nat.reducePow, Nat.reduceAdd, Nat.reduceLeDiff, Nat.reduceSub, Nat.reduceBEq, Int.reduceAdd, Int.reduceSub, Int.reduceMul, Int.reduceEq, Nat.reduceEqDiff, atI_getD (d := Lt.I) hk, atI_getD (d := Lt.I) hk', xor_tZ]) | (with_reducible refine br (fun _ => ?_) (fun _ => ?_)) | ((with_reducible refine ck ?_ ?_); · first | decide +kernel | omega | assumption | exact .inl (.inr (by decide)) | exact .inl (.inl (by omega)) | skip))
    rw [range_zip (fun a b => PyData.int (tZ (ml a b) : Nat)) Lt.I Lt.I l m hm.symm]
    have z1 : List.zipWith (fun a b => PyData.int (fX (ml a b) : Nat)) l m = (pms l m).map fun a => PyData.int (fX a : Nat) := by unfold pms; rw [List.map_zipWith]
    have z2 : List.zipWith (fun a b => PyData.int (tZ (ml a b) : Nat)) l m = (pms l m).map fun a => PyData.int (tZ a : Nat) := by unfold pms; rw [List.map_zipWith]
    have c3 := fun E => word_run (e := E) (l := pms l m) (by rw [pms_len hm]; exact hl)
    repeat' (first | (simp only [word_snoc, ↓EkS.pre, EkS.post, ↓K39TS.pre, K39TS.post, List.length_map, List.length_set, Int.reduceLT, Int.reduceLE, Int.reduceNeg, Int.reducePow, Int.reduceToNat, Nat.reduceLT, Nat.reducePow, Nat.reduceAdd, Nat.reduceLeDiff, Nat.reduceSub, Nat.reduceBEq, Int.reduceAdd, Int.reduceSub, Int.reduceMul, Int.reduceEq, Nat.reduceEqDiff, z1, z2, c3]) | (with_reducible refine br (fun _ => ?_) (fun _ => ?_)) | ((with_reducible refine ck ?_ ?_); · first | decide +kernel | omega | assumption | exact .inl (.inr (by decide)) | exact .inl (.inl (by omega)) | skip))
    have := pes_bits l m hm.symm
    refine congrArg (fun e => R.d (pw e _)) ?_
    omega
  obtain ⟨r, ys, e, rfl, rfl⟩ := h.ex
  exact e

theorem look_ix {z : Int} (h0 : 0 ≤ z) (h1 : z < 4) : ∃ a : Lt, atI (sx [73, 88, 89, 90]).cps.toList z = some (cd a) := by
  have : z = 0 ∨ z = 1 ∨ z = 2 ∨ z = 3 := by omega
  rcases this with rfl | rfl | rfl | rfl
  · exact ⟨.I, rfl⟩
  · exact ⟨.X, rfl⟩
  · exact ⟨.Y, rfl⟩
  · exact ⟨.Z, rfl⟩
theorem drawn_run {b : Int} {ns : List Int} {many : Nat} (hp : PotB b ns) (hb : b ≤ 1000000) (hm : many ≤ 100) : Wq (fs__law_drawn.run [.list (ns.map .int), .int many, .int 1]) fun q ys => ∃ (e : Int) (l : List Lt) (ns' : List Int), q = .d (pw e l) ∧ ys = ns'.map .int ∧ 0 ≤ e ∧ e ≤ 3 ∧ l.length = many ∧ PotB (b + many + 1) ns' := by
  repeat' (first | (simp only [word_snoc, ↓EkS.pre, EkS.post, ↓K39TS.pre, K39TS.post, List.length_map, List.length_set, Int.reduceLT, Int.reduceLE, Int.reduceNeg, Int.reducePow, Int.reduceToNat, Nat.reduceLT, Nat.reducePow, Nat.reduceAdd, Nat.reduceLeDiff, Nat.reduceSub, Nat.reduceBEq, Int.reduceAdd, Int.reduceSub, Int.reduceMul, Int.reduceEq, Nat.reduceEqDiff, ↓rn__law_drawn, sh__law_drawn]) | (with_reducible refine br (fun _ => ?_) (fun _ => ?_)) | ((with_reducible refine ck ?_ ?_); · first | decide +kernel | omega | assumption | exact .inl (.inr (by decide)) | exact .inl (.inl (by omega)) | exact okR_nat (by omega)))
  rw [range_map]
  refine lc_rel (List.range many) _ (fun pre acc s => ∃ (l : List Lt) (ns' : List Int), acc = l.map (fun a => .str (sx [cd a])) ∧ l.length = pre.length ∧ PotB (b + pre.length) ns' ∧ s = [some (.own (ns'.map .int)), some (.d (.int many)), some (.d (.int 1)), none, none]) ⟨[], ns, rfl, rfl, hp.up (by simp), rfl⟩ (fun pre a post acc s hl h => ?_) (fun zs s h => ?_)
  · obtain ⟨l, ns', rfl, hl2, hp', rfl⟩ := h
    have hlen : pre.length < many := by
      have := congrArg List.length hl
      simp at this
      omega
    simp only [word_snoc, ↓EkS.pre, EkS.post, ↓K39TS.pre, K39TS.post, List.length_map, List.length_set, Int.reduceLT, Int.reduceLE, Int.reduceNeg, Int.reducePow, Int.reduceToNat, Nat.reduceLT, Nat.reducePow, Nat.reduceAdd, Nat.reduceLeDiff, Nat.reduceSub, Nat.reduceBEq, Int.reduceAdd, Int.reduceSub, Int.reduceMul, Int.reduceEq, Nat.reduceEqDiff, ce__law_drawn_1]
    obtain ⟨q, ys, e, z, ns2, rfl, rfl, z0, z1, hp2⟩ := (take_run hp' (by omega) (m := 4) (by decide) (by decide)).ex
    refine wq e ?_
    obtain ⟨c, hc⟩ := look_ix z0 z1
    repeat' (first | (simp only [word_snoc, ↓EkS.pre, EkS.post, ↓K39TS.pre, K39TS.post, List.length_map, List.length_set, Int.reduceLT, Int.reduceLE, Int.reduceNeg, Int.reducePow, Int.reduceToNat, Nat.reduceLT, Nat.reducePow, Nat.reduceAdd, Nat.reduceLeDiff, Nat.reduceSub, Nat.reduceBEq, Int.reduceAdd, Int.reduceSub, Int.reduceMul, Int.reduceEq, Nat.reduceEqDiff, hc, sx_one]) | (with_reducible refine br (fun _ => ?_) (fun _ => ?_)) | ((with_reducible refine ck ?_ ?_); · first | decide +kernel | omega | assumption | exact .inl (.inr (by decide)) | exact .inl (.inl (by omega)) | (simp only [sx_len, List.length_cons, List.length_nil]; omega)))
    refine ⟨l ++ [c], ns2, by simp, by simp [hl2], hp2.up (by simp; omega), rfl⟩
  · obtain ⟨l, ns', rfl, hl2, hp', rfl⟩ := h
    rw [List.length_range] at hl2 hp'
    simp only [word_snoc, ↓EkS.pre, EkS.post, ↓K39TS.pre, K39TS.post, List.length_map, List.length_set, Int.reduceLT, Int.reduceLE, Int.reduceNeg, Int.reducePow, Int.reduceToNat, Nat.reduceLT, Nat.reducePow, Nat.reduceAdd, Nat.reduceLeDiff, Nat.reduceSub, Nat.reduceBEq, Int.reduceAdd, Int.reduceSub, Int.reduceMul, Int.reduceEq, Nat.reduceEqDiff]
    rw [show (l.map fun a => PyData.str (sx [cd a])) = (l.map fun a => [cd a]).map fun c => PyData.str (sx c) by rw [List.map_map]; rfl, meth_join, wd_join]
    repeat' (first | (simp only [word_snoc, ↓EkS.pre, EkS.post, ↓K39TS.pre, K39TS.post, List.length_map, List.length_set, Int.reduceLT, Int.reduceLE, Int.reduceNeg, Int.reducePow, Int.reduceToNat, Nat.reduceLT, Nat.reducePow, Nat.reduceAdd, Nat.reduceLeDiff, Nat.reduceSub, Nat.reduceBEq, Int.reduceAdd, Int.reduceSub, Int.reduceMul, Int.reduceEq, Nat.reduceEqDiff]) | (with_reducible refine br (fun _ => ?_) (fun _ => ?_)) | ((with_reducible refine ck ?_ ?_); · first | decide +kernel | omega | assumption | exact .inl (.inr (by decide)) | exact .inl (.inl (by omega)) | (simp only [List.length_map]; omega)))
    obtain ⟨q, ys, e, z, ns2, rfl, rfl, z0, z1, hp2⟩ := (take_run hp' (by omega) (m := 4 / 1) (by decide) (by decide)).ex
    refine wq e ?_
    repeat' (first | (simp only [word_snoc, ↓EkS.pre, EkS.post, ↓K39TS.pre, K39TS.post, List.length_map, List.length_set, Int.reduceLT, Int.reduceLE, Int.reduceNeg, Int.reducePow, Int.reduceToNat, Nat.reduceLT, Nat.reducePow, Nat.reduceAdd, Nat.reduceLeDiff, Nat.reduceSub, Nat.reduceBEq, Int.reduceAdd, Int.reduceSub, Int.reduceMul, Int.reduceEq, Nat.reduceEqDiff]) | (with_reducible refine br (fun _ => ?_) (fun _ => ?_)) | ((with_reducible refine ck ?_ ?_); · first | decide +kernel | omega | assumption | exact .inl (.inr (by decide)) | exact .inl (.inl (by omega)) | skip))
    exact ⟨1 * z, l, ns2, rfl, rfl, by omega, by omega, hl2, hp2⟩
theorem pw_eq {e e' : Int} {l m : List Lt} (hl : l.length ≤ 1000) (hm : m.length ≤ 1000) : dEq (pw e l) (pw e' m) = some (decide (e = e' ∧ l = m)) := by
  unfold dEq pw
  have sh : ∀ (e : Int) (l : List Lt), SeqAt.shaped (.tuple [.int e, .str (wd l)]) = true := fun e l => (Dn.pw (n := 0) (e := e) (l := l)).shaped (by decide)
  rw [if_neg (by simp [scalD]), if_pos ⟨sh _ _, sh _ _⟩]
  show some ((e == e') && ((wd l == wd m) && true)) = _
  have : (wd l = wd m) = (l = m) := by
    refine propext ⟨fun h => ?_, fun h => by rw [h]⟩
    unfold wd at h
    rw [sx_inj] at h
    exact (List.map_inj_right (fun a b => cd_inj)).mp h
  congr 1
  rw [Bool.eq_iff_iff]
  simp [this]
theorem pes_unl : ∀ l m : List Lt, (pes l m - pes m l - 2 * ((l.zip m).filter unl).length) % 4 = 0
  | [], [] => by decide
  | [], _ :: _ => rfl
  | _ :: _, [] => rfl
  | a :: l, b :: m => by
    have ih := pes_unl l m
    have one : (ph a b - ph b a - 2 * (if unl (a, b) = true then 1 else 0)) % 4 = 0 := by cases a <;> cases b <;> decide
    simp only [pes, List.zipWith_cons_cons, List.sum_cons, List.zip_cons_cons, List.filter_cons] at ih ⊢
    split at one <;> simp_all <;> omega
theorem meet_iff (e e' : Int) (l m : List Lt) : meetL l m = decide ((e + e' + pes l m) % 4 = (e' + e + pes m l) % 4) := by
  have := pes_unl l m
  unfold meetL
  rw [Bool.eq_iff_iff]
  simp only [decide_eq_true_eq]
  omega
theorem meet_self (l : List Lt) : meetL l l = true := by
  rw [meet_iff 0 0]; simp
theorem meet_comm (l m : List Lt) : meetL m l = meetL l m := by
  rw [meet_iff 0 0 m l, meet_iff 0 0 l m, Bool.eq_iff_iff]
  simp only [decide_eq_true_eq]
  omega

theorem same_run : ∀ (n : Nat) (x : D), Dn n x → (fs__law_same (n + 1)).run [x, x] = some (.d (.bool true), []) := by
  intro n
  induction n with
  | zero =>
    intro x hx
    have h : Wq ((fs__law_same (0 + 1)).run [x, x]) fun r ys => r = .d (.bool true) ∧ ys = [] := by
      cases hx <;> repeat' (first | (simp only [word_snoc, ↓EkS.pre, EkS.post, ↓K39TS.pre, K39TS.post, List.length_map, List.length_set, Int.reduceLT, Int.reduceLE, Int.reduceNeg, Int.reducePow, Int.reduceToNat, Nat.reduceLT, Nat.reducePow, Nat.reduceAdd, Nat.reduceLeDiff, Nat.reduceSub, Nat.reduceBEq, Int.reduceAdd, Int.reduceSub, Int.reduceMul, Int.reduceEq, Nat.reduceEqDiff, ↓rn__law_same, sh__law_same]) | (with_reducible refine br (fun _ => ?_) (fun _ => ?_)) | ((with_reducible refine ck ?_ ?_); · first | decide +kernel | omega | assumption | exact .inl (.inr (by decide)) | exact .inl (.inl (by omega)) | skip))
      simp
    obtain ⟨r, ys, e, rfl, rfl⟩ := h.ex
    exact e
  | succ n ih =>
    intro x hx
    have h : Wq ((fs__law_same (n + 1 + 1)).run [x, x]) fun r ys => r = .d (.bool true) ∧ ys = [] := by
      cases hx with
      | tup hl hs =>
        rename_i xs
        repeat' (first | (simp only [word_snoc, ↓EkS.pre, EkS.post, ↓K39TS.pre, K39TS.post, List.length_map, List.length_set, Int.reduceLT, Int.reduceLE, Int.reduceNeg, Int.reducePow, Int.reduceToNat, Nat.reduceLT, Nat.reducePow, Nat.reduceAdd, Nat.reduceLeDiff, Nat.reduceSub, Nat.reduceBEq, Int.reduceAdd, Int.reduceSub, Int.reduceMul, Int.reduceEq, Nat.reduceEqDiff, ↓rn__law_same, sh__law_same]) | (with_reducible refine br (fun _ => ?_) (fun _ => ?_)) | ((with_reducible refine ck ?_ ?_); · first | decide +kernel | omega | assumption | exact .inl (.inr (by decide)) | exact .inl (.inl (by omega)) | exact okR_nat hl))
        rw [range_map]
        refine lc_all (List.range xs.length) _ (fun _ => .bool true) ?_ (fun a ha => ?_) ?_
        · first | omega | (simp only [List.length_map, List.length_range, List.length_zip]; omega)
        · simp only [word_snoc, ↓EkS.pre, EkS.post, ↓K39TS.pre, K39TS.post, List.length_map, List.length_set, Int.reduceLT, Int.reduceLE, Int.reduceNeg, Int.reducePow, Int.reduceToNat, Nat.reduceLT, Nat.reducePow, Nat.reduceAdd, Nat.reduceLeDiff, Nat.reduceSub, Nat.reduceBEq, Int.reduceAdd, Int.reduceSub, Int.reduceMul, Int.reduceEq, Nat.reduceEqDiff, ce__law_same_1]
          have hk : a < xs.length := List.mem_range.mp ha
          have e1 : atI xs (a : Int) = some xs[a] := atI_some (List.getElem?_eq_getElem hk)
          have e2 := ih xs[a] (hs _ (List.getElem_mem hk))
          simp only [word_snoc, ↓EkS.pre, EkS.post, ↓K39TS.pre, K39TS.post, List.length_map, List.length_set, Int.reduceLT, Int.reduceLE, Int.reduceNeg, Int.reducePow, Int.reduceToNat, Nat.reduceLT, Nat.reducePow, Nat.reduceAdd, Nat.reduceLeDiff, Nat.reduceSub, Nat.reduceBEq, Int.reduceAdd, Int.reduceSub, Int.reduceMul, Int.reduceEq, Nat.reduceEqDiff, e1, e2]
        repeat' (first | (simp only [word_snoc, ↓EkS.pre, EkS.post, ↓K39TS.pre, K39TS.post, List.length_map, List.length_set, Int.reduceLT, Int.reduceLE, Int.reduceNeg, Int.reducePow, Int.reduceToNat, Nat.reduceLT, Nat.reducePow, Nat.reduceAdd, Nat.reduceLeDiff, Nat.reduceSub, Nat.reduceBEq, Int.reduceAdd, Int.reduceSub, Int.reduceMul, Int.reduceEq, Nat.reduceEqDiff, bls_map (fun _ => true)]) | (with_reducible refine br (fun _ => ?_) (fun _ => ?_)) | ((with_reducible refine ck ?_ ?_); · first | decide +kernel | omega | assumption | exact .inl (.inr (by decide)) | exact .inl (.inl (by omega)) | skip))
        simp
      | lst hl hs =>
        rename_i xs
        repeat' (first | (simp only [word_snoc, ↓EkS.pre, EkS.post, ↓K39TS.pre, K39TS.post, List.length_map, List.length_set, Int.reduceLT, Int.reduceLE, Int.reduceNeg, Int.reducePow, Int.reduceToNat, Nat.reduceLT, Nat.reducePow, Nat.reduceAdd, Nat.reduceLeDiff, Nat.reduceSub, Nat.reduceBEq, Int.reduceAdd, Int.reduceSub, Int.reduceMul, Int.reduceEq, Nat.reduceEqDiff, ↓rn__law_same, sh__law_same]) | (with_reducible refine br (fun _ => ?_) (fun _ => ?_)) | ((with_reducible refine ck ?_ ?_); · first | decide +kernel | omega | assumption | exact .inl (.inr (by decide)) | exact .inl (.inl (by omega)) | exact okR_nat hl))
        rw [range_map]
        refine lc_all (List.range xs.length) _ (fun _ => .bool true) ?_ (fun a ha => ?_) ?_
        · first | omega | (simp only [List.length_map, List.length_range, List.length_zip]; omega)
        · simp only [word_snoc, ↓EkS.pre, EkS.post, ↓K39TS.pre, K39TS.post, List.length_map, List.length_set, Int.reduceLT, Int.reduceLE, Int.reduceNeg, Int.reducePow, Int.reduceToNat, Nat.reduceLT, Nat.reducePow, Nat.reduceAdd, Nat.reduceLeDiff, Nat.reduceSub, Nat.reduceBEq, Int.reduceAdd, Int.reduceSub, Int.reduceMul, Int.reduceEq, Nat.reduceEqDiff, ce__law_same_1]
          have hk : a < xs.length := List.mem_range.mp ha
          have e1 : atI xs (a : Int) = some xs[a] := atI_some (List.getElem?_eq_getElem hk)
          have e2 := ih xs[a] (hs _ (List.getElem_mem hk))
          simp only [word_snoc, ↓EkS.pre, EkS.post, ↓K39TS.pre, K39TS.post, List.length_map, List.length_set, Int.reduceLT, Int.reduceLE, Int.reduceNeg, Int.reducePow, Int.reduceToNat, Nat.reduceLT, Nat.reducePow, Nat.reduceAdd, Nat.reduceLeDiff, Nat.reduceSub, Nat.reduceBEq, Int.reduceAdd, Int.reduceSub, Int.reduceMul, Int.reduceEq, Nat.reduceEqDiff, e1, e2]
        repeat' (first | (simp only [word_snoc, ↓EkS.pre, EkS.post, ↓K39TS.pre, K39TS.post, List.length_map, List.length_set, Int.reduceLT, Int.reduceLE, Int.reduceNeg, Int.reducePow, Int.reduceToNat, Nat.reduceLT, Nat.reducePow, Nat.reduceAdd, Nat.reduceLeDiff, Nat.reduceSub, Nat.reduceBEq, Int.reduceAdd, Int.reduceSub, Int.reduceMul, Int.reduceEq, Nat.reduceEqDiff, bls_map (fun _ => true)]) | (with_reducible refine br (fun _ => ?_) (fun _ => ?_)) | ((with_reducible refine ck ?_ ?_); · first | decide +kernel | omega | assumption | exact .inl (.inr (by decide)) | exact .inl (.inl (by omega)) | skip))
        simp
      | bool =>
        repeat' (first | (simp only [word_snoc, ↓EkS.pre, EkS.post, ↓K39TS.pre, K39TS.post, List.length_map, List.length_set, Int.reduceLT, Int.reduceLE, Int.reduceNeg, Int.reducePow, Int.reduceToNat, Nat.reduceLT, Nat.reducePow, Nat.reduceAdd, Nat.reduceLeDiff, Nat.reduceSub, Nat.reduceBEq, Int.reduceAdd, Int.reduceSub, Int.reduceMul, Int.reduceEq, Nat.reduceEqDiff, ↓rn__law_same, sh__law_same]) | (with_reducible refine br (fun _ => ?_) (fun _ => ?_)) | ((with_reducible refine ck ?_ ?_); · first | decide +kernel | omega | assumption | exact .inl (.inr (by decide)) | exact .inl (.inl (by omega)) | skip))
        simp
      | _ => repeat' (first | (simp only [word_snoc, ↓EkS.pre, EkS.post, ↓K39TS.pre, K39TS.post, List.length_map, List.length_set, Int.reduceLT, Int.reduceLE, Int.reduceNeg, Int.reducePow, Int.reduceToNat, Nat.reduceLT, Nat.reducePow, Nat.reduceAdd, Nat.reduceLeDiff, Nat.reduceSub, Nat.reduceBEq, Int.reduceAdd, Int.reduceSub, Int.reduceMul, Int.reduceEq, Nat.reduceEqDiff, ↓rn__law_same, sh__law_same]) | (with_reducible refine br (fun _ => ?_) (fun _ => ?_)) | ((with_reducible refine ck ?_ ?_); · first | decide +kernel | omega | assumption | exact .inl (.inr (by decide)) | exact .inl (.inl (by omega)) | skip))
    obtain ⟨r, ys, e, rfl, rfl⟩ := h.ex
    exact e


end K39

namespace K39
open PySem L2 PySem.Spec PyProof.Rows Ek
theorem natural_run (k : Nat) : fs_is_natural.run [.int (k : Nat)] = some (.d (.bool true), []) := by
  have h : Wq (fs_is_natural.run [.int (k : Nat)]) fun r ys => r = .d (.bool true) ∧ ys = [] := by
    repeat' (first | (simp only [word_snoc, ↓EkS.pre, EkS.post, ↓K39TS.pre, K39TS.post, List.length_map, List.length_set, Int.reduceLT, Int.reduceLE, Int.reduceNeg, Int.reducePow, Int.reduceToNat, Nat.reduceLT, Nat.reducePow, Nat.reduceAdd, Nat.reduceLeDiff, Nat.reduceSub, Nat.reduceBEq, Int.reduceAdd, Int.reduceSub, Int.reduceMul, Int.reduceEq, Nat.reduceEqDiff, ↓rn_is_natural, sh_is_natural, ↓rn_is_integer, sh_is_integer]) | (with_reducible refine br (fun _ => ?_) (fun _ => ?_)) | ((with_reducible refine ck ?_ ?_); · first | decide +kernel | omega | assumption | exact .inl (.inr (by decide)) | exact .inl (.inl (by omega)) | skip))
    rw [decide_eq_true (by omega)]
  obtain ⟨r, ys, e, rfl, rfl⟩ := h.ex
  exact e
theorem g1_in (g : G1) : (d_GATES.lookup (sx g.nm)) = some (.int 1) := by cases g <;> kernel_rfl
theorem g2_in (g : G2) : (d_GATES.lookup (sx g.nm)) = some (.int 2) := by cases g <;> kernel_rfl
theorem is_gate_run {n : Nat} {g : Gt} (ok : g.ok n) : fs_is_gate.run [.int n, gd g] = some (.d (.bool true), []) := by
  have h : Wq (fs_is_gate.run [.int n, gd g]) fun r ys => r = .d (.bool true) ∧ ys = [] := by
    cases g with
    | w =>
      have hg : (d_GATES.lookup (sx [119])) = some (.int 0) := by kernel_rfl
      unfold gd
      repeat' (first | (simp only [word_snoc, ↓EkS.pre, EkS.post, ↓K39TS.pre, K39TS.post, List.length_map, List.length_set, Int.reduceLT, Int.reduceLE, Int.reduceNeg, Int.reducePow, Int.reduceToNat, Nat.reduceLT, Nat.reducePow, Nat.reduceAdd, Nat.reduceLeDiff, Nat.reduceSub, Nat.reduceBEq, Int.reduceAdd, Int.reduceSub, Int.reduceMul, Int.reduceEq, Nat.reduceEqDiff, ↓rn_is_gate, sh_is_gate, ce_is_gate_1, cutD_one, cond_true, cond_false, Option.isSome_some, List.drop_succ_cons, List.drop_zero, hg]) | (with_reducible refine br (fun _ => ?_) (fun _ => ?_)) | ((with_reducible refine ck ?_ ?_); · first | decide +kernel | omega | assumption | exact .inl (.inr (by decide)) | exact .inl (.inl (by omega)) | skip))
    | one g a =>
      have ha : a < n := ok
      have hn := natural_run a
      unfold gd
      have hg := g1_in g
      repeat' (first | (simp only [word_snoc, ↓EkS.pre, EkS.post, ↓K39TS.pre, K39TS.post, List.length_map, List.length_set, Int.reduceLT, Int.reduceLE, Int.reduceNeg, Int.reducePow, Int.reduceToNat, Nat.reduceLT, Nat.reducePow, Nat.reduceAdd, Nat.reduceLeDiff, Nat.reduceSub, Nat.reduceBEq, Int.reduceAdd, Int.reduceSub, Int.reduceMul, Int.reduceEq, Nat.reduceEqDiff, ↓rn_is_gate, sh_is_gate, ce_is_gate_1, cutD_one, cond_true, cond_false, Option.isSome_some, List.drop_succ_cons, List.drop_zero, hg, hn]) | (with_reducible refine br (fun _ => ?_) (fun _ => ?_)) | ((with_reducible refine ck ?_ ?_); · first | decide +kernel | omega | assumption | exact .inl (.inr (by decide)) | exact .inl (.inl (by omega)) | skip))
      exact absurd (show (a : Int) < n by omega) ‹_›
    | two g a b =>
      obtain ⟨ha, hb, hab⟩ := ok
      have hn := natural_run a
      have hn' := natural_run b
      unfold gd
      have hg := g2_in g
      repeat' (first | (simp only [word_snoc, ↓EkS.pre, EkS.post, ↓K39TS.pre, K39TS.post, List.length_map, List.length_set, Int.reduceLT, Int.reduceLE, Int.reduceNeg, Int.reducePow, Int.reduceToNat, Nat.reduceLT, Nat.reducePow, Nat.reduceAdd, Nat.reduceLeDiff, Nat.reduceSub, Nat.reduceBEq, Int.reduceAdd, Int.reduceSub, Int.reduceMul, Int.reduceEq, Nat.reduceEqDiff, ↓rn_is_gate, sh_is_gate, ce_is_gate_1, cutD_one, cond_true, cond_false, Option.isSome_some, List.drop_succ_cons, List.drop_zero, hg, hn, hn']) | (with_reducible refine br (fun _ => ?_) (fun _ => ?_)) | ((with_reducible refine ck ?_ ?_); · first | decide +kernel | omega | assumption | exact .inl (.inr (by decide)) | exact .inl (.inl (by omega)) | skip))
      · rename_i z
        rw [decide_eq_true (show (a : Int) < n by omega), decide_eq_true (show (b : Int) < n by omega)] at z
        exact absurd z (by decide)
      · rw [decide_eq_false (show ¬ (a : Int) = b by omega)]; rfl
  obtain ⟨r, ys, e, rfl, rfl⟩ := h.ex
  exact e
def cir (n : Nat) (gs : List Gt) : D := .tuple [.int n, .tuple (gs.map gd)]
theorem is_circuit_run {n : Nat} {gs : List Gt} (h1 : 1 ≤ n) (ok : ∀ g ∈ gs, g.ok n) (hl : gs.length ≤ 100000) : fs_is_circuit.run [cir n gs] = some (.d (.bool true), []) := by
  have h : Wq (fs_is_circuit.run [cir n gs]) fun r ys => r = .d (.bool true) ∧ ys = [] := by
    unfold cir
    repeat' (first | (simp only [word_snoc, ↓EkS.pre, EkS.post, ↓K39TS.pre, K39TS.post, List.length_map, List.length_set, Int.reduceLT, Int.reduceLE, Int.reduceNeg, Int.reducePow, Int.reduceToNat, Nat.reduceLT, Nat.reducePow, Nat.reduceAdd, Nat.reduceLeDiff, Nat.reduceSub, Nat.reduceBEq, Int.reduceAdd, Int.reduceSub, Int.reduceMul, Int.reduceEq, Nat.reduceEqDiff, ↓rn_is_circuit, sh_is_circuit, ↓rn_is_integer, sh_is_integer]) | (with_reducible refine br (fun _ => ?_) (fun _ => ?_)) | ((with_reducible refine ck ?_ ?_); · first | decide +kernel | omega | assumption | exact .inl (.inr (by decide)) | exact .inl (.inl (by omega)) | skip))
    · omega
    refine lc_all (gs) _ (fun _ => .bool true) ?_ (fun a ha => ?_) ?_
    · first | omega | (simp only [List.length_map, List.length_range, List.length_zip]; omega)
    · simp only [word_snoc, ↓EkS.pre, EkS.post, ↓K39TS.pre, K39TS.post, List.length_map, List.length_set, Int.reduceLT, Int.reduceLE, Int.reduceNeg, Int.reducePow, Int.reduceToNat, Nat.reduceLT, Nat.reducePow, Nat.reduceAdd, Nat.reduceLeDiff, Nat.reduceSub, Nat.reduceBEq, Int.reduceAdd, Int.reduceSub, Int.reduceMul, Int.reduceEq, Nat.reduceEqDiff, ce_is_circuit_1]
      have := is_gate_run (ok a ha)
      repeat' (first | (simp only [word_snoc, ↓EkS.pre, EkS.post, ↓K39TS.pre, K39TS.post, List.length_map, List.length_set, Int.reduceLT, Int.reduceLE, Int.reduceNeg, Int.reducePow, Int.reduceToNat, Nat.reduceLT, Nat.reducePow, Nat.reduceAdd, Nat.reduceLeDiff, Nat.reduceSub, Nat.reduceBEq, Int.reduceAdd, Int.reduceSub, Int.reduceMul, Int.reduceEq, Nat.reduceEqDiff, this]) | (with_reducible refine br (fun _ => ?_) (fun _ => ?_)) | ((with_reducible refine ck ?_ ?_); · first | decide +kernel | omega | assumption | exact .inl (.inr (by decide)) | exact .inl (.inl (by omega)) | skip))
    repeat' (first | (simp only [word_snoc, ↓EkS.pre, EkS.post, ↓K39TS.pre, K39TS.post, List.length_map, List.length_set, Int.reduceLT, Int.reduceLE, Int.reduceNeg, Int.reducePow, Int.reduceToNat, Nat.reduceLT, Nat.reducePow, Nat.reduceAdd, Nat.reduceLeDiff, Nat.reduceSub, Nat.reduceBEq, Int.reduceAdd, Int.reduceSub, Int.reduceMul, Int.reduceEq, Nat.reduceEqDiff, bls_map (fun _ => true)]) | (with_reducible refine br (fun _ => ?_) (fun _ => ?_)) | ((with_reducible refine ck ?_ ?_); · first | decide +kernel | omega | assumption | exact .inl (.inr (by decide)) | exact .inl (.inl (by omega)) | skip))
    simp
  obtain ⟨r, ys, e, rfl, rfl⟩ := h.ex
  exact e
theorem check_circuit_run {n : Nat} {gs : List Gt} (h1 : 1 ≤ n) (ok : ∀ g ∈ gs, g.ok n) (hl : gs.length ≤ 100000) : fs_check_circuit.run [cir n gs] = some (.d .none, []) := by
  have h : Wq (fs_check_circuit.run [cir n gs]) fun r ys => r = .d .none ∧ ys = [] := by
    repeat' (first | (simp only [word_snoc, ↓EkS.pre, EkS.post, ↓K39TS.pre, K39TS.post, List.length_map, List.length_set, Int.reduceLT, Int.reduceLE, Int.reduceNeg, Int.reducePow, Int.reduceToNat, Nat.reduceLT, Nat.reducePow, Nat.reduceAdd, Nat.reduceLeDiff, Nat.reduceSub, Nat.reduceBEq, Int.reduceAdd, Int.reduceSub, Int.reduceMul, Int.reduceEq, Nat.reduceEqDiff, ↓rn_check_circuit, sh_check_circuit, is_circuit_run h1 ok hl]) | (with_reducible refine br (fun _ => ?_) (fun _ => ?_)) | ((with_reducible refine ck ?_ ?_); · first | decide +kernel | omega | assumption | exact .inl (.inr (by decide)) | exact .inl (.inl (by omega)) | skip))
  obtain ⟨r, ys, e, rfl, rfl⟩ := h.ex
  exact e
def nmD : Gt → List Nat
  | .w => [119] | .one g _ => g.nm | .two g _ _ => g.nm
theorem gd_ix (g : Gt) : dIx (gd g) (.int 0) = some (.d (.str (sx (nmD g)))) := by cases g <;> rfl
theorem nm_not (g : Gt) : nmD g ≠ [116] ∧ nmD g ≠ [116, 100] := by
  cases g with
  | w => decide
  | one g a => cases g <;> simp [nmD, G1.nm]
  | two g a b => cases g <;> simp [nmD, G2.nm]
theorem check_clifford_run {n : Nat} {gs : List Gt} (h1 : 1 ≤ n) (ok : ∀ g ∈ gs, g.ok n) (hl : gs.length ≤ 100000) : fs_check_clifford.run [cir n gs] = some (.d .none, []) := by
  have h : Wq (fs_check_clifford.run [cir n gs]) fun r ys => r = .d .none ∧ ys = [] := by
    have x1 : dIx (cir n gs) (.int 1) = some (.d (.tuple (gs.map gd))) := rfl
    repeat' (first | (simp only [word_snoc, ↓EkS.pre, EkS.post, ↓K39TS.pre, K39TS.post, List.length_map, List.length_set, Int.reduceLT, Int.reduceLE, Int.reduceNeg, Int.reducePow, Int.reduceToNat, Nat.reduceLT, Nat.reducePow, Nat.reduceAdd, Nat.reduceLeDiff, Nat.reduceSub, Nat.reduceBEq, Int.reduceAdd, Int.reduceSub, Int.reduceMul, Int.reduceEq, Nat.reduceEqDiff, ↓rn_check_clifford, sh_check_clifford, check_circuit_run h1 ok hl, ↓rn_is_without, sh_is_without, x1]) | (with_reducible refine br (fun _ => ?_) (fun _ => ?_)) | ((with_reducible refine ck ?_ ?_); · first | decide +kernel | omega | assumption | exact .inl (.inr (by decide)) | exact .inl (.inl (by omega)) | skip))
    refine lc_all (gs) _ (fun _ => .bool true) ?_ (fun a ha => ?_) ?_
    · first | omega | (simp only [List.length_map, List.length_range, List.length_zip]; omega)
    · simp only [word_snoc, ↓EkS.pre, EkS.post, ↓K39TS.pre, K39TS.post, List.length_map, List.length_set, Int.reduceLT, Int.reduceLE, Int.reduceNeg, Int.reducePow, Int.reduceToNat, Nat.reduceLT, Nat.reducePow, Nat.reduceAdd, Nat.reduceLeDiff, Nat.reduceSub, Nat.reduceBEq, Int.reduceAdd, Int.reduceSub, Int.reduceMul, Int.reduceEq, Nat.reduceEqDiff, ce_is_without_1, gd_ix]
      have := nm_not a
      repeat' (first | (simp only [word_snoc, ↓EkS.pre, EkS.post, ↓K39TS.pre, K39TS.post, List.length_map, List.length_set, Int.reduceLT, Int.reduceLE, Int.reduceNeg, Int.reducePow, Int.reduceToNat, Nat.reduceLT, Nat.reducePow, Nat.reduceAdd, Nat.reduceLeDiff, Nat.reduceSub, Nat.reduceBEq, Int.reduceAdd, Int.reduceSub, Int.reduceMul, Int.reduceEq, Nat.reduceEqDiff, sx_inj]) | (with_reducible refine br (fun _ => ?_) (fun _ => ?_)) | ((with_reducible refine ck ?_ ?_); · first | decide +kernel | omega | assumption | exact .inl (.inr (by decide)) | exact .inl (.inl (by omega)) | skip))
      rw [decide_eq_false (Ne.symm this.1), decide_eq_false (Ne.symm this.2)]; rfl
    repeat' (first | (simp only [word_snoc, ↓EkS.pre, EkS.post, ↓K39TS.pre, K39TS.post, List.length_map, List.length_set, Int.reduceLT, Int.reduceLE, Int.reduceNeg, Int.reducePow, Int.reduceToNat, Nat.reduceLT, Nat.reducePow, Nat.reduceAdd, Nat.reduceLeDiff, Nat.reduceSub, Nat.reduceBEq, Int.reduceAdd, Int.reduceSub, Int.reduceMul, Int.reduceEq, Nat.reduceEqDiff, bls_map (fun _ => true)]) | (with_reducible refine br (fun _ => ?_) (fun _ => ?_)) | ((with_reducible refine ck ?_ ?_); · first | decide +kernel | omega | assumption | exact .inl (.inr (by decide)) | exact .inl (.inl (by omega)) | skip))
    rename_i z
    exact absurd z (by simp)
  obtain ⟨r, ys, e, rfl, rfl⟩ := h.ex
  exact e

theorem led_look (g : G1) (c : Lt) : (d_LED.lookup (sx (g.nm ++ [cd c]))).getD (.tuple [.int 0, .str (sx [cd c])]) = .tuple [.int (l1 g c).1, .str (sx [cd (l1 g c).2])] := by cases g <;> cases c <;> kernel_rfl
theorem first_look (g : G2) (c : Lt) : d_FIRST.lookup (sx (g.nm ++ [cd c])) = some (.str (wd [(fs2 g c).1, (fs2 g c).2])) := by cases g <;> cases c <;> kernel_rfl
theorem second_look (g : G2) (c : Lt) : d_SECOND.lookup (sx (g.nm ++ [cd c])) = some (.str (wd [(sc2 g c).1, (sc2 g c).2])) := by cases g <;> cases c <;> kernel_rfl
theorem wd_at {l : List Lt} {a : Nat} (h : a < l.length) : atI (wd l).cps.toList (a : Nat) = some (cd (l.getD a .I)) := by
  unfold wd
  rw [sx_cps]
  refine atI_some ?_
  rw [List.getElem?_map, List.getElem?_eq_getElem h, List.getD_eq_getElem?_getD, List.getElem?_eq_getElem h]; rfl
theorem g1_len (g : G1) : g.nm.length ≤ 4 := by cases g <;> decide
theorem g2_len (g : G2) : g.nm.length ≤ 4 := by cases g <;> decide
theorem join_s1 {l : List Lt} {Q : R → Prop} : Wo (dMeth "join" (.str (sx [])) [.list (l.map fun a => .str (s1 a))]) Q = Ck (l.length ≤ 1000000) (Q (.d (.str (wd l)))) := by
  rw [show (l.map fun a => PyData.str (s1 a)) = (l.map fun a => [cd a]).map fun c => PyData.str (sx c) by rw [List.map_map]; rfl, meth_join, wd_join, List.length_map]; rfl
theorem set_s1 {l : List Lt} {a : Nat} {c : Lt} : (l.map fun a => PyData.str (s1 a)).set a (.str (sx [cd c])) = (l.set a c).map fun a => PyData.str (s1 a) := by
  rw [List.map_set]; rfl
theorem wd2_0 {c d : Lt} : atI (wd [c, d]).cps.toList 0 = some (cd c) := wd_at (l := [c, d]) (a := 0) (by simp)
theorem wd2_1 {c d : Lt} : atI (wd [c, d]).cps.toList 1 = some (cd d) := wd_at (l := [c, d]) (a := 1) (by simp)
theorem pes2 {a b c d : Lt} : pes [a, b] [c, d] = ph a c + ph b d := by simp [pes]
theorem pms2 {a b c d : Lt} : pms [a, b] [c, d] = [ml a c, ml b d] := rfl
theorem led_by_run {n : Nat} {g : Gt} {x : Wd} (ok : g.ok n) (hx : WN n x) (hn : n ≤ 1000) : fs_led_by.run [gd g, pw x.1 x.2] = some (.d (pw (act g x).1 (act g x).2), []) := by
  have hl := hx.len
  have h : Wq (fs_led_by.run [gd g, pw x.1 x.2]) fun r ys => r = .d (pw (act g x).1 (act g x).2) ∧ ys = [] := by
    cases g with
    | w =>
      unfold gd pw
      repeat' (first | (simp only [word_snoc, ↓EkS.pre, EkS.post, ↓K39TS.pre, K39TS.post, List.length_map, List.length_set, Int.reduceLT, Int.reduceLE, Int.reduceNeg, Int.reducePow, Int.reduceToNat, Nat.reduceLT, Nat.reducePow, Nat.reduceAdd, Nat.reduceLeDiff, Nat.reduceSub, Nat.reduceBEq, Int.reduceAdd, Int.reduceSub, Int.reduceMul, Int.reduceEq, Nat.reduceEqDiff, ↓rn_led_by, sh_led_by, cutD_one, List.drop_succ_cons, List.drop_zero]) | (with_reducible refine br (fun _ => ?_) (fun _ => ?_)) | ((with_reducible refine ck ?_ ?_); · first | decide +kernel | omega | assumption | exact .inl (.inr (by decide)) | exact .inl (.inl (by omega)) | skip))
      rfl
    | one g a =>
      have ha : a < n := ok
      have i1 := ixN_nat' (n := x.2.length) (k := a) (by omega)
      have g4 := g1_len g
      unfold gd pw
      repeat' (first | (simp only [word_snoc, ↓EkS.pre, EkS.post, ↓K39TS.pre, K39TS.post, List.length_map, List.length_set, Int.reduceLT, Int.reduceLE, Int.reduceNeg, Int.reducePow, Int.reduceToNat, Nat.reduceLT, Nat.reducePow, Nat.reduceAdd, Nat.reduceLeDiff, Nat.reduceSub, Nat.reduceBEq, Int.reduceAdd, Int.reduceSub, Int.reduceMul, Int.reduceEq, Nat.reduceEqDiff, ↓rn_led_by, sh_led_by, cutD_one, List.drop_succ_cons, List.drop_zero, wd_at (show a < x.2.length by omega), sx_one, sx_app, led_look, wd_chars, i1, set_s1, join_s1]) | (with_reducible refine br (fun _ => ?_) (fun _ => ?_)) | ((with_reducible refine ck ?_ ?_); · first | decide +kernel | omega | assumption | exact .inl (.inr (by decide)) | exact .inl (.inl (by omega)) | (simp only [wd_len, sx_len, List.length_cons, List.length_nil, List.length_set]; omega)))
      all_goals rfl
    | two g a b =>
      obtain ⟨ha, hb, hab⟩ := ok
      have i1 := ixN_nat' (n := x.2.length) (k := a) (by omega)
      have i2 := ixN_nat' (n := x.2.length) (k := b) (by omega)
      have g4 := g2_len g
      have pr := product_of_run (e := 0) (e' := 0) (l := [(fs2 g (x.2.getD a .I)).1, (fs2 g (x.2.getD a .I)).2]) (m := [(sc2 g (x.2.getD b .I)).1, (sc2 g (x.2.getD b .I)).2]) (by simp) (by simp)
      unfold pw at pr
      unfold gd pw
      repeat' (first | (simp only [word_snoc, ↓EkS.pre, EkS.post, ↓K39TS.pre, K39TS.post, List.length_map, List.length_set, Int.reduceLT, Int.reduceLE, Int.reduceNeg, Int.reducePow, Int.reduceToNat, Nat.reduceLT, Nat.reducePow, Nat.reduceAdd, Nat.reduceLeDiff, Nat.reduceSub, Nat.reduceBEq, Int.reduceAdd, Int.reduceSub, Int.reduceMul, Int.reduceEq, Nat.reduceEqDiff, ↓rn_led_by, sh_led_by, cutD_one, List.drop_succ_cons, List.drop_zero, wd_at (show a < x.2.length by omega), wd_at (show b < x.2.length by omega), sx_one, sx_app, first_look, second_look, wd_chars, i1, i2, pr, pms2, wd2_0, wd2_1, set_s1, join_s1]) | (with_reducible refine br (fun _ => ?_) (fun _ => ?_)) | ((with_reducible refine ck ?_ ?_); · first | decide +kernel | omega | assumption | exact .inl (.inr (by decide)) | exact .inl (.inl (by omega)) | (simp only [wd_len, sx_len, List.length_cons, List.length_nil, List.length_set]; omega)))
      rw [pes2, Int.zero_add]
      rfl
  obtain ⟨r, ys, e, rfl, rfl⟩ := h.ex
  exact e

theorem led_by_all_run {n : Nat} {gs : List Gt} {x : Wd} (ok : ∀ g ∈ gs, g.ok n) (hx : WN n x) (hn : n ≤ 1000) : fs_led_by_all.run [.tuple (gs.map gd), pw x.1 x.2] = some (.d (pw (actL gs x).1 (actL gs x).2), []) := by
  have h : Wq (fs_led_by_all.run [.tuple (gs.map gd), pw x.1 x.2]) fun r ys => r = .d (pw (actL gs x).1 (actL gs x).2) ∧ ys = [] := by
    repeat' (first | (simp only [word_snoc, ↓EkS.pre, EkS.post, ↓K39TS.pre, K39TS.post, List.length_map, List.length_set, Int.reduceLT, Int.reduceLE, Int.reduceNeg, Int.reducePow, Int.reduceToNat, Nat.reduceLT, Nat.reducePow, Nat.reduceAdd, Nat.reduceLeDiff, Nat.reduceSub, Nat.reduceBEq, Int.reduceAdd, Int.reduceSub, Int.reduceMul, Int.reduceEq, Nat.reduceEqDiff, ↓rn_led_by_all, sh_led_by_all]) | (with_reducible refine br (fun _ => ?_) (fun _ => ?_)) | ((with_reducible refine ck ?_ ?_); · first | decide +kernel | omega | assumption | exact .inl (.inr (by decide)) | exact .inl (.inl (by omega)) | skip))
    refine for_pre gs _ (fun pre => [some (.d (.tuple (gs.map gd))), some (.d (pw (actL pre x).1 (actL pre x).2)), none]) rfl (fun pre g post hp => ?_) ?_
    · have e := led_by_run (ok g (by rw [hp]; simp)) (hx.actL (gs := pre)) hn
      repeat' (first | (simp only [word_snoc, ↓EkS.pre, EkS.post, ↓K39TS.pre, K39TS.post, List.length_map, List.length_set, Int.reduceLT, Int.reduceLE, Int.reduceNeg, Int.reducePow, Int.reduceToNat, Nat.reduceLT, Nat.reducePow, Nat.reduceAdd, Nat.reduceLeDiff, Nat.reduceSub, Nat.reduceBEq, Int.reduceAdd, Int.reduceSub, Int.reduceMul, Int.reduceEq, Nat.reduceEqDiff, lb_led_by_all_1, e]) | (with_reducible refine br (fun _ => ?_) (fun _ => ?_)) | ((with_reducible refine ck ?_ ?_); · first | decide +kernel | omega | assumption | exact .inl (.inr (by decide)) | exact .inl (.inl (by omega)) | skip))
      rw [actL_app]; rfl
    · repeat' (first | (simp only [word_snoc, ↓EkS.pre, EkS.post, ↓K39TS.pre, K39TS.post, List.length_map, List.length_set, Int.reduceLT, Int.reduceLE, Int.reduceNeg, Int.reducePow, Int.reduceToNat, Nat.reduceLT, Nat.reducePow, Nat.reduceAdd, Nat.reduceLeDiff, Nat.reduceSub, Nat.reduceBEq, Int.reduceAdd, Int.reduceSub, Int.reduceMul, Int.reduceEq, Nat.reduceEqDiff]) | (with_reducible refine br (fun _ => ?_) (fun _ => ?_)) | ((with_reducible refine ck ?_ ?_); · first | decide +kernel | omega | assumption | exact .inl (.inr (by decide)) | exact .inl (.inl (by omega)) | skip))
  obtain ⟨r, ys, e, rfl, rfl⟩ := h.ex
  exact e

theorem led_run {n : Nat} {gs : List Gt} {x : Wd} (h1 : 1 ≤ n) (ok : ∀ g ∈ gs, g.ok n) (hx : WN n x) (hn : n ≤ 1000) (hg : gs.length ≤ 100000) : fs_led.run [cir n gs, pw x.1 x.2] = some (.d (pw (actL gs x).1 (actL gs x).2), []) := by
  have hl := hx.len
  have nn : x.2 ≠ [] := fun z => by rw [z] at hl; simp at hl; omega
  have h : Wq (fs_led.run [cir n gs, pw x.1 x.2]) fun r ys => r = .d (pw (actL gs x).1 (actL gs x).2) ∧ ys = [] := by
    have x0 : dIx (cir n gs) (.int 0) = some (.d (.int n)) := rfl
    have x1 : dIx (cir n gs) (.int 1) = some (.d (.tuple (gs.map gd))) := rfl
    have cp := check_len (n := n) hx.lo hx.hi nn (show x.2.length ≤ 1000000 by omega) hl.symm
    repeat' (first | (simp only [word_snoc, ↓EkS.pre, EkS.post, ↓K39TS.pre, K39TS.post, List.length_map, List.length_set, Int.reduceLT, Int.reduceLE, Int.reduceNeg, Int.reducePow, Int.reduceToNat, Nat.reduceLT, Nat.reducePow, Nat.reduceAdd, Nat.reduceLeDiff, Nat.reduceSub, Nat.reduceBEq, Int.reduceAdd, Int.reduceSub, Int.reduceMul, Int.reduceEq, Nat.reduceEqDiff, ↓rn_led, sh_led, check_clifford_run h1 ok hg, x0, x1, cp, ↓rn_led_of, sh_led_of, led_by_all_run ok hx hn]) | (with_reducible refine br (fun _ => ?_) (fun _ => ?_)) | ((with_reducible refine ck ?_ ?_); · first | decide +kernel | omega | assumption | exact .inl (.inr (by decide)) | exact .inl (.inl (by omega)) | skip))
  obtain ⟨r, ys, e, rfl, rfl⟩ := h.ex
  exact e

theorem joined_run {n : Nat} {gs hs : List Gt} (h1 : 1 ≤ n) (hn : n ≤ 1000) (ok : ∀ g ∈ gs, g.ok n) (ok' : ∀ g ∈ hs, g.ok n) (hg : gs.length ≤ 1000) (hh : hs.length ≤ 1000) : fs_joined.run [cir n gs, cir n hs] = some (.d (cir n (gs ++ hs)), []) := by
  have h : Wq (fs_joined.run [cir n gs, cir n hs]) fun r ys => r = .d (cir n (gs ++ hs)) ∧ ys = [] := by
    have x0 : ∀ gs, dIx (cir n gs) (.int 0) = some (.d (.int n)) := fun _ => rfl
    have x1 : ∀ gs, dIx (cir n gs) (.int 1) = some (.d (.tuple (gs.map gd))) := fun _ => rfl
    repeat' (first | (simp only [word_snoc, ↓EkS.pre, EkS.post, ↓K39TS.pre, K39TS.post, List.length_map, List.length_set, Int.reduceLT, Int.reduceLE, Int.reduceNeg, Int.reducePow, Int.reduceToNat, Nat.reduceLT, Nat.reducePow, Nat.reduceAdd, Nat.reduceLeDiff, Nat.reduceSub, Nat.reduceBEq, Int.reduceAdd, Int.reduceSub, Int.reduceMul, Int.reduceEq, Nat.reduceEqDiff, ↓rn_joined, sh_joined, ↓rn_check_two, sh_check_two, check_circuit_run h1 ok (by omega), check_circuit_run h1 ok' (by omega), x0, x1, ↓rn_joined_of, sh_joined_of]) | (with_reducible refine br (fun _ => ?_) (fun _ => ?_)) | ((with_reducible refine ck ?_ ?_); · first | decide +kernel | omega | assumption | exact .inl (.inr (by decide)) | exact .inl (.inl (by omega)) | (simp only [List.length_map]; omega)))
    all_goals (unfold cir; rw [List.map_append])
  obtain ⟨r, ys, e, rfl, rfl⟩ := h.ex
  exact e
theorem turned_look (g : G1) : (d_TURNED.lookup (sx g.nm)).getD (.str (sx g.nm)) = .str (sx (iv g).nm) := by cases g <;> kernel_rfl
theorem turned_look2 (g : G2) : (d_TURNED.lookup (sx g.nm)).getD (.str (sx g.nm)) = .str (sx g.nm) := by cases g <;> kernel_rfl
theorem g1_w (g : G1) : (g.nm = [119]) = False := by cases g <;> simp [G1.nm]
theorem g2_w (g : G2) : (g.nm = [119]) = False := by cases g <;> simp [G2.nm]
theorem undone_run {n : Nat} {gs : List Gt} (h1 : 1 ≤ n) (ok : ∀ g ∈ gs, g.ok n) (hg : gs.length ≤ 1000) : fs_undone.run [cir n gs] = some (.d (cir n (undo gs)), []) := by
  have h : Wq (fs_undone.run [cir n gs]) fun r ys => r = .d (cir n (undo gs)) ∧ ys = [] := by
    have x0 : ∀ gs, dIx (cir n gs) (.int 0) = some (.d (.int n)) := fun _ => rfl
    have x1 : ∀ gs, dIx (cir n gs) (.int 1) = some (.d (.tuple (gs.map gd))) := fun _ => rfl
    repeat' (first | (simp only [word_snoc, ↓EkS.pre, EkS.post, ↓K39TS.pre, K39TS.post, List.length_map, List.length_set, Int.reduceLT, Int.reduceLE, Int.reduceNeg, Int.reducePow, Int.reduceToNat, Nat.reduceLT, Nat.reducePow, Nat.reduceAdd, Nat.reduceLeDiff, Nat.reduceSub, Nat.reduceBEq, Int.reduceAdd, Int.reduceSub, Int.reduceMul, Int.reduceEq, Nat.reduceEqDiff, ↓rn_undone, sh_undone, check_circuit_run h1 ok (by omega), ↓rn_undone_of, sh_undone_of, x0, x1]) | (with_reducible refine br (fun _ => ?_) (fun _ => ?_)) | ((with_reducible refine ck ?_ ?_); · first | decide +kernel | omega | assumption | exact .inl (.inr (by decide)) | exact .inl (.inl (by omega)) | skip))
    rw [← List.map_reverse]
    refine for_pre gs.reverse _ (fun pre => [some (.d (cir n gs)), some (.own ((pre.flatMap inv).map gd)), none]) rfl (fun pre g post hp => ?_) ?_
    · have hlen : (pre.flatMap inv).length ≤ 7 * pre.length := by
        clear hp
        induction pre with
        | nil => simp
        | cons a pre ih =>
          rw [List.flatMap_cons, List.length_append, List.length_cons]
          have : (inv a).length ≤ 7 := by cases a <;> simp [inv]
          omega
      have hpl : pre.length < gs.length := by
        have := congrArg List.length hp
        simp at this
        omega
      have up : (pre ++ [g]).flatMap inv = pre.flatMap inv ++ inv g := by rw [List.flatMap_append, List.flatMap_singleton]
      cases g with
      | w =>
        have gw : gd .w = .tuple [.str (sx [119])] := rfl
        repeat' (first | (simp only [word_snoc, ↓EkS.pre, EkS.post, ↓K39TS.pre, K39TS.post, List.length_map, List.length_set, Int.reduceLT, Int.reduceLE, Int.reduceNeg, Int.reducePow, Int.reduceToNat, Nat.reduceLT, Nat.reducePow, Nat.reduceAdd, Nat.reduceLeDiff, Nat.reduceSub, Nat.reduceBEq, Int.reduceAdd, Int.reduceSub, Int.reduceMul, Int.reduceEq, Nat.reduceEqDiff, lb_undone_of_1, up, gw]) | (with_reducible refine br (fun _ => ?_) (fun _ => ?_)) | ((with_reducible refine ck ?_ ?_); · first | decide +kernel | omega | assumption | exact .inl (.inr (by decide)) | exact .inl (.inl (by omega)) | (simp only [List.length_map, List.length_cons, List.length_nil]; omega)))
        all_goals rfl
      | one g a =>
        repeat' (first | (simp only [word_snoc, ↓EkS.pre, EkS.post, ↓K39TS.pre, K39TS.post, List.length_map, List.length_set, Int.reduceLT, Int.reduceLE, Int.reduceNeg, Int.reducePow, Int.reduceToNat, Nat.reduceLT, Nat.reducePow, Nat.reduceAdd, Nat.reduceLeDiff, Nat.reduceSub, Nat.reduceBEq, Int.reduceAdd, Int.reduceSub, Int.reduceMul, Int.reduceEq, Nat.reduceEqDiff, lb_undone_of_1, up, gd, sx_inj, g1_w, turned_look, cutD_one, List.drop_succ_cons, List.drop_zero]) | (with_reducible refine br (fun _ => ?_) (fun _ => ?_)) | ((with_reducible refine ck ?_ ?_); · first | decide +kernel | omega | assumption | exact .inl (.inr (by decide)) | exact .inl (.inl (by omega)) | (simp only [List.length_map, List.length_cons, List.length_nil]; omega)))
        all_goals rfl
      | two g a b =>
        repeat' (first | (simp only [word_snoc, ↓EkS.pre, EkS.post, ↓K39TS.pre, K39TS.post, List.length_map, List.length_set, Int.reduceLT, Int.reduceLE, Int.reduceNeg, Int.reducePow, Int.reduceToNat, Nat.reduceLT, Nat.reducePow, Nat.reduceAdd, Nat.reduceLeDiff, Nat.reduceSub, Nat.reduceBEq, Int.reduceAdd, Int.reduceSub, Int.reduceMul, Int.reduceEq, Nat.reduceEqDiff, lb_undone_of_1, up, gd, sx_inj, g2_w, turned_look2, cutD_one, List.drop_succ_cons, List.drop_zero]) | (with_reducible refine br (fun _ => ?_) (fun _ => ?_)) | ((with_reducible refine ck ?_ ?_); · first | decide +kernel | omega | assumption | exact .inl (.inr (by decide)) | exact .inl (.inl (by omega)) | (simp only [List.length_map, List.length_cons, List.length_nil]; omega)))
        all_goals rfl
    · repeat' (first | (simp only [word_snoc, ↓EkS.pre, EkS.post, ↓K39TS.pre, K39TS.post, List.length_map, List.length_set, Int.reduceLT, Int.reduceLE, Int.reduceNeg, Int.reducePow, Int.reduceToNat, Nat.reduceLT, Nat.reducePow, Nat.reduceAdd, Nat.reduceLeDiff, Nat.reduceSub, Nat.reduceBEq, Int.reduceAdd, Int.reduceSub, Int.reduceMul, Int.reduceEq, Nat.reduceEqDiff, x0]) | (with_reducible refine br (fun _ => ?_) (fun _ => ?_)) | ((with_reducible refine ck ?_ ?_); · first | decide +kernel | omega | assumption | exact .inl (.inr (by decide)) | exact .inl (.inl (by omega)) | skip))
      rfl
  obtain ⟨r, ys, e, rfl, rfl⟩ := h.ex
  exact e

theorem law_led_run {n : Nat} {gs : List Gt} {x : Wd} (ok : ∀ g ∈ gs, g.ok n) (hx : WN n x) (hn : n ≤ 1000) : fs__law_led.run [.tuple (gs.map gd), pw x.1 x.2] = some (.d (pw (actL gs x).1 (actL gs x).2), []) := by
  have hl := hx.len
  have h : Wq (fs__law_led.run [.tuple (gs.map gd), pw x.1 x.2]) fun r ys => r = .d (pw (actL gs x).1 (actL gs x).2) ∧ ys = [] := by
    have sp := split_run (e := x.1) (l := x.2) (by omega)
    have ef : (x.2.map fun a => PyData.int (fX a : Nat)) = fl? x.2 := rfl
    have et : (x.2.map fun a => PyData.int (tZ a : Nat)) = tl? x.2 := rfl
    rw [ef, et] at sp
    repeat' (first | (simp only [word_snoc, ↓EkS.pre, EkS.post, ↓K39TS.pre, K39TS.post, List.length_map, List.length_set, Int.reduceLT, Int.reduceLE, Int.reduceNeg, Int.reducePow, Int.reduceToNat, Nat.reduceLT, Nat.reducePow, Nat.reduceAdd, Nat.reduceLeDiff, Nat.reduceSub, Nat.reduceBEq, Int.reduceAdd, Int.reduceSub, Int.reduceMul, Int.reduceEq, Nat.reduceEqDiff, ↓rn__law_led, sh__law_led, sp]) | (with_reducible refine br (fun _ => ?_) (fun _ => ?_)) | ((with_reducible refine ck ?_ ?_); · first | decide +kernel | omega | assumption | exact .inl (.inr (by decide)) | exact .inl (.inl (by omega)) | skip))
    refine for_rel gs _ (fun pre s => ∃ e : Int, (e - (actL pre x).1 - ((actL pre x).2.map yY).sum) % 4 = 0 ∧ s = [some (.d (.tuple (gs.map gd))), some (.d (pw x.1 x.2)), some (.d (.int e)), some (.own (fl? (actL pre x).2)), some (.own (tl? (actL pre x).2)), none, none, none, none]) ⟨x.1 + (x.2.map yY).sum, (by show (x.1 + (x.2.map yY).sum - x.1 - (x.2.map yY).sum) % 4 = 0; omega), rfl⟩ (fun pre g post s hp hI => ?_) (fun s hI => ?_)
    · obtain ⟨e, he, rfl⟩ := hI
      have okg := ok g (by rw [hp]; simp)
      have hw := hx.actL (gs := pre)
      have hwl := hw.len
      have eA : actL (pre ++ [g]) x = act g (actL pre x) := actL_app
      rw [eA]
      generalize actL pre x = y at *
      cases g with
      | w =>
        have gw : gd .w = .tuple [.str (sx [119])] := rfl
        repeat' (first | (simp only [word_snoc, ↓EkS.pre, EkS.post, ↓K39TS.pre, K39TS.post, List.length_map, List.length_set, Int.reduceLT, Int.reduceLE, Int.reduceNeg, Int.reducePow, Int.reduceToNat, Nat.reduceLT, Nat.reducePow, Nat.reduceAdd, Nat.reduceLeDiff, Nat.reduceSub, Nat.reduceBEq, Int.reduceAdd, Int.reduceSub, Int.reduceMul, Int.reduceEq, Nat.reduceEqDiff, lb__law_led_1, gw, sx_inj, nl_c, nl_0, nl_1, nl_2, and_true, and_false, false_and, true_and, and_self, if_true, if_false, am1]) | (with_reducible refine br (fun _ => ?_) (fun _ => ?_)) | ((with_reducible refine ck ?_ ?_); · first | decide +kernel | omega | assumption | exact .inl (.inr (by decide)) | exact .inl (.inl (by omega)) | skip))
        exact ⟨e, he, rfl⟩
      | one g a =>
        have ha : a < n := okg
        have hal : a < y.2.length := by omega
        have i1 := ixN_nat' (n := y.2.length) (k := a) (by omega)
        have f1 := fl_at (l := y.2) (a := a) (by omega)
        have t1 := tl_at (l := y.2) (a := a) (by omega)
        have b1 := fX_le (y.2.getD a .I)
        have b2 := tZ_le (y.2.getD a .I)
        have sy := sumY_set y.2 a (l1 g (y.2.getD a .I)).2 hal
        have key : ∀ (E : Int) (F T : List D), (E - e - ((l1 g (y.2.getD a .I)).1 + yY (l1 g (y.2.getD a .I)).2 - yY (y.2.getD a .I))) % 4 = 0 → F = fl? (y.2.set a (l1 g (y.2.getD a .I)).2) → T = tl? (y.2.set a (l1 g (y.2.getD a .I)).2) →
            ∃ e, (e - (act (.one g a) y).1 - ((act (.one g a) y).2.map yY).sum) % 4 = 0 ∧ ([some (.d (.tuple (gs.map gd))), some (.d (pw x.1 x.2)), some (.d (.int E)), some (.own F), some (.own T), none, none, none, none] : S) = [some (.d (.tuple (gs.map gd))), some (.d (pw x.1 x.2)), some (.d (.int e)), some (.own (fl? (act (.one g a) y).2)), some (.own (tl? (act (.one g a) y).2)), none, none, none, none] := fun E F T h1 h2 h3 => by
          refine ⟨E, ?_, by rw [h2, h3]; rfl⟩
          simp only [act]
          omega
        cases g
        all_goals
          repeat' (first | (simp only [word_snoc, ↓EkS.pre, EkS.post, ↓K39TS.pre, K39TS.post, List.length_map, List.length_set, Int.reduceLT, Int.reduceLE, Int.reduceNeg, Int.reducePow, Int.reduceToNat, Nat.reduceLT, Nat.reducePow, Nat.reduceAdd, Nat.reduceLeDiff, Nat.reduceSub, Nat.reduceBEq, Int.reduceAdd, Int.reduceSub, Int.reduceMul, Int.reduceEq, Nat.reduceEqDiff, lb__law_led_1, gd, G1.nm, sx_inj, nl_c, nl_0, nl_1, nl_2, and_true, and_false, false_and, true_and, and_self, if_true, if_false, i1, f1, t1, fl_len, tl_len, am2]) | (with_reducible refine br (fun _ => ?_) (fun _ => ?_)) | ((with_reducible refine ck ?_ ?_); · first | decide +kernel | omega | assumption | exact .inl (.inr (by decide)) | exact .inl (.inl (by omega)) | first | omega | exact .inl (.inl (by omega)) | exact .inl (.inr (by omega))))
          refine key _ _ _ ?_ ?_ ?_
          · generalize y.2.getD a .I = c
            cases c <;> simp only [fX, tZ, l1, yY] <;> omega
          · first
            | exact b_keep hal (by generalize y.2.getD a .I = c; cases c <;> rfl)
            | exact b_set (by generalize y.2.getD a .I = c; cases c <;> decide +kernel)
          · first
            | exact b_keep hal (by generalize y.2.getD a .I = c; cases c <;> rfl)
            | exact b_set (by generalize y.2.getD a .I = c; cases c <;> decide +kernel)
      | two g a b =>
        obtain ⟨ha, hb, hab⟩ := okg
        have hal : a < y.2.length := by omega
        have hbl : b < y.2.length := by omega
        have i1 := ixN_nat' (n := y.2.length) (k := a) (by omega)
        have i2 := ixN_nat' (n := y.2.length) (k := b) (by omega)
        have f1 := fl_at (l := y.2) (a := a) (by omega)
        have t1 := tl_at (l := y.2) (a := a) (by omega)
        have f2 := fl_at (l := y.2) (a := b) (by omega)
        have t2 := tl_at (l := y.2) (a := b) (by omega)
        have b1 := fX_le (y.2.getD a .I)
        have b2 := fX_le (y.2.getD b .I)
        have sy := sumY_set y.2 a (l2 g (y.2.getD a .I) (y.2.getD b .I)).2.1 hal
        have sy2 := sumY_set (y.2.set a (l2 g (y.2.getD a .I) (y.2.getD b .I)).2.1) b (l2 g (y.2.getD a .I) (y.2.getD b .I)).2.2 (by simpa using hbl)
        rw [getD_set_ne hab] at sy2
        have key : ∀ (E : Int) (F T : List D), (E - e - ((l2 g (y.2.getD a .I) (y.2.getD b .I)).1 + yY (l2 g (y.2.getD a .I) (y.2.getD b .I)).2.1 - yY (y.2.getD a .I) + yY (l2 g (y.2.getD a .I) (y.2.getD b .I)).2.2 - yY (y.2.getD b .I))) % 4 = 0 → F = fl? (act (.two g a b) y).2 → T = tl? (act (.two g a b) y).2 →
            ∃ e, (e - (act (.two g a b) y).1 - ((act (.two g a b) y).2.map yY).sum) % 4 = 0 ∧ ([some (.d (.tuple (gs.map gd))), some (.d (pw x.1 x.2)), some (.d (.int E)), some (.own F), some (.own T), none, none, none, none] : S) = [some (.d (.tuple (gs.map gd))), some (.d (pw x.1 x.2)), some (.d (.int e)), some (.own (fl? (act (.two g a b) y).2)), some (.own (tl? (act (.two g a b) y).2)), none, none, none, none] := fun E F T h1 h2 h3 => by
          refine ⟨E, ?_, by rw [h2, h3]⟩
          simp only [act]
          omega
        cases g
        all_goals
          repeat' (first | (simp only [word_snoc, ↓EkS.pre, EkS.post, ↓K39TS.pre, K39TS.post, List.length_map, List.length_set, Int.reduceLT, Int.reduceLE, Int.reduceNeg, Int.reducePow, Int.reduceToNat, Nat.reduceLT, Nat.reducePow, Nat.reduceAdd, Nat.reduceLeDiff, Nat.reduceSub, Nat.reduceBEq, Int.reduceAdd, Int.reduceSub, Int.reduceMul, Int.reduceEq, Nat.reduceEqDiff, lb__law_led_1, gd, G2.nm, sx_inj, nl_c, nl_0, nl_1, nl_2, and_true, and_false, false_and, true_and, and_self, if_true, if_false, i1, i2, f1, t1, f2, t2, fl_len, tl_len, am3]) | (with_reducible refine br (fun _ => ?_) (fun _ => ?_)) | ((with_reducible refine ck ?_ ?_); · first | decide +kernel | omega | assumption | exact .inl (.inr (by decide)) | exact .inl (.inl (by omega)) | first | omega | exact .inl (.inl (by omega)) | exact .inl (.inr (by omega))))
          refine key _ _ _ ?_ ?_ ?_
          · generalize y.2.getD a .I = c
            generalize y.2.getD b .I = d
            cases c <;> cases d <;> simp only [fX, tZ, l2, fs2, sc2, ml, ph, yY] <;> omega
          · first
            | exact b_kk hab hal hbl (by generalize y.2.getD a .I = c; generalize y.2.getD b .I = d; cases c <;> cases d <;> rfl) (by generalize y.2.getD a .I = c; generalize y.2.getD b .I = d; cases c <;> cases d <;> rfl)
            | exact b_ss (by generalize y.2.getD a .I = c; generalize y.2.getD b .I = d; cases c <;> cases d <;> decide +kernel) (by generalize y.2.getD a .I = c; generalize y.2.getD b .I = d; cases c <;> cases d <;> decide +kernel)
            | exact b_sk hab hbl (by generalize y.2.getD a .I = c; generalize y.2.getD b .I = d; cases c <;> cases d <;> decide +kernel) (by generalize y.2.getD a .I = c; generalize y.2.getD b .I = d; cases c <;> cases d <;> rfl)
            | exact b_ks hal (by generalize y.2.getD a .I = c; generalize y.2.getD b .I = d; cases c <;> cases d <;> rfl) (by generalize y.2.getD a .I = c; generalize y.2.getD b .I = d; cases c <;> cases d <;> decide +kernel)
          · first
            | exact b_ss (by generalize y.2.getD a .I = c; generalize y.2.getD b .I = d; cases c <;> cases d <;> decide +kernel) (by generalize y.2.getD a .I = c; generalize y.2.getD b .I = d; cases c <;> cases d <;> decide +kernel)
            | exact b_sk hab hbl (by generalize y.2.getD a .I = c; generalize y.2.getD b .I = d; cases c <;> cases d <;> decide +kernel) (by generalize y.2.getD a .I = c; generalize y.2.getD b .I = d; cases c <;> cases d <;> rfl)
            | exact b_ks hal (by generalize y.2.getD a .I = c; generalize y.2.getD b .I = d; cases c <;> cases d <;> rfl) (by generalize y.2.getD a .I = c; generalize y.2.getD b .I = d; cases c <;> cases d <;> decide +kernel)
    · obtain ⟨e, he, rfl⟩ := hI
      have hw := hx.actL (gs := gs)
      have hwl := hw.len
      have h0 := hw.lo
      have h3 := hw.hi
      have wr := word_run (e := e) (l := (actL gs x).2) (by omega)
      have ef : ((actL gs x).2.map fun a => PyData.int (fX a : Nat)) = fl? (actL gs x).2 := rfl
      have et : ((actL gs x).2.map fun a => PyData.int (tZ a : Nat)) = tl? (actL gs x).2 := rfl
      rw [ef, et] at wr
      repeat' (first | (simp only [word_snoc, ↓EkS.pre, EkS.post, ↓K39TS.pre, K39TS.post, List.length_map, List.length_set, Int.reduceLT, Int.reduceLE, Int.reduceNeg, Int.reducePow, Int.reduceToNat, Nat.reduceLT, Nat.reducePow, Nat.reduceAdd, Nat.reduceLeDiff, Nat.reduceSub, Nat.reduceBEq, Int.reduceAdd, Int.reduceSub, Int.reduceMul, Int.reduceEq, Nat.reduceEqDiff, wr]) | (with_reducible refine br (fun _ => ?_) (fun _ => ?_)) | ((with_reducible refine ck ?_ ?_); · first | decide +kernel | omega | assumption | exact .inl (.inr (by decide)) | exact .inl (.inl (by omega)) | skip))
      rw [show (e - ((actL gs x).2.map yY).sum) % 4 = (actL gs x).1 by omega]
  obtain ⟨r, ys, e, rfl, rfl⟩ := h.ex
  exact e

inductive Nm (c : List Nat) : Prop where
  | w (h : c = [119]) | g1 (g : G1) (h : c = g.nm) | g2 (g : G2) (h : c = g.nm)
theorem modn {a z n : Nat} (ha : a < n) (hz : z < n - 1) : (a + 1 + z) % n < n ∧ a ≠ (a + 1 + z) % n := by
  refine ⟨Nat.mod_lt _ (by omega), ?_⟩
  by_cases h : a + 1 + z < n
  · rw [Nat.mod_eq_of_lt h]; omega
  · rw [Nat.mod_eq_sub_mod (by omega), Nat.mod_eq_of_lt (by omega)]; omega
theorem law_gates_run {b : Int} {ns : List Int} {n most : Nat} {L : List (List Nat)} (hp : PotB b ns) (hb : b ≤ 1000000) (h1 : 1 ≤ n) (hn : n ≤ 100) (hm : most ≤ 100) (hL : ∀ c ∈ L, Nm c) (h0 : 0 < L.length) (h0' : L.length ≤ 100) : Wq (fs__law_gates.run [.list (ns.map .int), .int n, .int most, .list (L.map fun c => .str (sx c))]) fun q ys => ∃ (gs : List Gt) (ns' : List Int), q = .d (.tuple (gs.map gd)) ∧ ys = ns'.map .int ∧ PotB (b + 400) ns' ∧ (∀ g ∈ gs, g.ok n) ∧ gs.length ≤ most := by
  repeat' (first | (simp only [word_snoc, ↓EkS.pre, EkS.post, ↓K39TS.pre, K39TS.post, List.length_map, List.length_set, Int.reduceLT, Int.reduceLE, Int.reduceNeg, Int.reducePow, Int.reduceToNat, Nat.reduceLT, Nat.reducePow, Nat.reduceAdd, Nat.reduceLeDiff, Nat.reduceSub, Nat.reduceBEq, Int.reduceAdd, Int.reduceSub, Int.reduceMul, Int.reduceEq, Nat.reduceEqDiff, ↓rn__law_gates, sh__law_gates]) | (with_reducible refine br (fun _ => ?_) (fun _ => ?_)) | ((with_reducible refine ck ?_ ?_); · first | decide +kernel | omega | assumption | exact .inl (.inr (by decide)) | exact .inl (.inl (by omega)) | skip))
  obtain ⟨q, ys, e, z, p1, rfl, rfl, z0, z1, hp1⟩ := (take_run hp (by omega) (m := most + 1) (by omega) (log_small (by omega))).ex
  refine wq e ?_
  clear e
  obtain ⟨k, rfl⟩ : ∃ k : Nat, z = k := ⟨z.toNat, by omega⟩
  repeat' (first | (simp only [word_snoc, ↓EkS.pre, EkS.post, ↓K39TS.pre, K39TS.post, List.length_map, List.length_set, Int.reduceLT, Int.reduceLE, Int.reduceNeg, Int.reducePow, Int.reduceToNat, Nat.reduceLT, Nat.reducePow, Nat.reduceAdd, Nat.reduceLeDiff, Nat.reduceSub, Nat.reduceBEq, Int.reduceAdd, Int.reduceSub, Int.reduceMul, Int.reduceEq, Nat.reduceEqDiff]) | (with_reducible refine br (fun _ => ?_) (fun _ => ?_)) | ((with_reducible refine ck ?_ ?_); · first | decide +kernel | omega | assumption | exact .inl (.inr (by decide)) | exact .inl (.inl (by omega)) | exact okR_nat (by omega)))
  rw [range_map]
  refine for_rel (List.range k) _ (fun pre s => ∃ (gs : List Gt) (ps : List Int), (∀ g ∈ gs, g.ok n) ∧ gs.length ≤ pre.length ∧ PotB (b + 1 + 3 * pre.length) ps ∧ s = [some (.own (ps.map .int)), some (.d (.int n)), some (.d (.int most)), some (.d (.list (L.map fun c => .str (sx c)))), some (.own (gs.map gd)), none, none, none]) ⟨[], p1, (fun _ h => nomatch h), by simp, hp1.up (by simp), rfl⟩ (fun pre t post s hpre hI => ?_) (fun s hI => ?_)
  · obtain ⟨gs, ps, ok, hgl, hps, rfl⟩ := hI
    have hk : pre.length < k := by
      have := congrArg List.length hpre
      simp at this
      omega
    repeat' (first | (simp only [word_snoc, ↓EkS.pre, EkS.post, ↓K39TS.pre, K39TS.post, List.length_map, List.length_set, Int.reduceLT, Int.reduceLE, Int.reduceNeg, Int.reducePow, Int.reduceToNat, Nat.reduceLT, Nat.reducePow, Nat.reduceAdd, Nat.reduceLeDiff, Nat.reduceSub, Nat.reduceBEq, Int.reduceAdd, Int.reduceSub, Int.reduceMul, Int.reduceEq, Nat.reduceEqDiff, lb__law_gates_1]) | (with_reducible refine br (fun _ => ?_) (fun _ => ?_)) | ((with_reducible refine ck ?_ ?_); · first | decide +kernel | omega | assumption | exact .inl (.inr (by decide)) | exact .inl (.inl (by omega)) | (simp only [List.length_map]; omega)))
    obtain ⟨q, ys, e, z, p2, rfl, rfl, z0, z1, hp2⟩ := (take_run hps (by omega) (m := L.length) (by omega) (log_small (by omega))).ex
    refine wq e ?_
    clear e
    obtain ⟨x, hx, hmem⟩ := atI_mem (l := L.map fun c => PyData.str (sx c)) z0 (by simpa using z1)
    obtain ⟨c, hc, rfl⟩ := List.mem_map.mp hmem
    repeat' (first | (simp only [word_snoc, ↓EkS.pre, EkS.post, ↓K39TS.pre, K39TS.post, List.length_map, List.length_set, Int.reduceLT, Int.reduceLE, Int.reduceNeg, Int.reducePow, Int.reduceToNat, Nat.reduceLT, Nat.reducePow, Nat.reduceAdd, Nat.reduceLeDiff, Nat.reduceSub, Nat.reduceBEq, Int.reduceAdd, Int.reduceSub, Int.reduceMul, Int.reduceEq, Nat.reduceEqDiff, hx]) | (with_reducible refine br (fun _ => ?_) (fun _ => ?_)) | ((with_reducible refine ck ?_ ?_); · first | decide +kernel | omega | assumption | exact .inl (.inr (by decide)) | exact .inl (.inl (by omega)) | (simp only [List.length_map]; omega)))
    obtain ⟨q, ys, e, z', p3, rfl, rfl, z0', z1', hp3⟩ := (take_run hp2 (by omega) (m := n) (by omega) (log_small (by omega))).ex
    refine wq e ?_
    clear e
    obtain ⟨a, rfl⟩ : ∃ a : Nat, z' = a := ⟨z'.toNat, by omega⟩
    have add : ∀ g : Gt, g.ok n → ∀ p4, PotB (b + 1 + 3 * pre.length + 3) p4 → ∃ (gs' : List Gt) (ps : List Int), (∀ g ∈ gs', g.ok n) ∧ gs'.length ≤ pre.length + 1 ∧ PotB (b + 1 + 3 * ((pre.length + 1 : Nat) : Int)) ps ∧ ([some (.own (p4.map .int)), some (.d (.int n)), some (.d (.int most)), some (.d (.list (L.map fun c => .str (sx c)))), some (.own (gs.map gd ++ [gd g])), none, none, none] : S) = [some (.own (ps.map .int)), some (.d (.int n)), some (.d (.int most)), some (.d (.list (L.map fun c => .str (sx c)))), some (.own (gs'.map gd)), none, none, none] := fun g hg p4 hp4 => by
      refine ⟨gs ++ [g], p4, fun g' h => ?_, by simp; omega, hp4.up (by simp; omega), by rw [List.map_append]; rfl⟩
      rw [List.mem_append, List.mem_singleton] at h
      rcases h with h | rfl
      · exact ok g' h
      · exact hg
    rcases hL c hc with rfl | ⟨g, rfl⟩ | ⟨g, rfl⟩
    · repeat' (first | (simp only [word_snoc, ↓EkS.pre, EkS.post, ↓K39TS.pre, K39TS.post, List.length_map, List.length_set, Int.reduceLT, Int.reduceLE, Int.reduceNeg, Int.reducePow, Int.reduceToNat, Nat.reduceLT, Nat.reducePow, Nat.reduceAdd, Nat.reduceLeDiff, Nat.reduceSub, Nat.reduceBEq, Int.reduceAdd, Int.reduceSub, Int.reduceMul, Int.reduceEq, Nat.reduceEqDiff, sx_inj, nl_c, nl_0, nl_1, nl_2, and_true, and_false, false_and, true_and, and_self, if_true, if_false]) | (with_reducible refine br (fun _ => ?_) (fun _ => ?_)) | ((with_reducible refine ck ?_ ?_); · first | decide +kernel | omega | assumption | exact .inl (.inr (by decide)) | exact .inl (.inl (by omega)) | (simp only [List.length_map]; omega)))
      exact add .w trivial p3 (hp3.up (by omega))
    · have han : a < n := by omega
      cases g
      all_goals
        repeat' (first | (simp only [word_snoc, ↓EkS.pre, EkS.post, ↓K39TS.pre, K39TS.post, List.length_map, List.length_set, Int.reduceLT, Int.reduceLE, Int.reduceNeg, Int.reducePow, Int.reduceToNat, Nat.reduceLT, Nat.reducePow, Nat.reduceAdd, Nat.reduceLeDiff, Nat.reduceSub, Nat.reduceBEq, Int.reduceAdd, Int.reduceSub, Int.reduceMul, Int.reduceEq, Nat.reduceEqDiff, G1.nm, sx_inj, nl_c, nl_0, nl_1, nl_2, and_true, and_false, false_and, true_and, and_self, if_true, if_false]) | (with_reducible refine br (fun _ => ?_) (fun _ => ?_)) | ((with_reducible refine ck ?_ ?_); · first | decide +kernel | omega | assumption | exact .inl (.inr (by decide)) | exact .inl (.inl (by omega)) | (simp only [List.length_map]; omega)))
        first
        | exact add (.one .h a) han p3 (hp3.up (by omega))
        | exact add (.one .s a) han p3 (hp3.up (by omega))
        | exact add (.one .sd a) han p3 (hp3.up (by omega))
        | exact add (.one .x a) han p3 (hp3.up (by omega))
        | exact add (.one .y a) han p3 (hp3.up (by omega))
        | exact add (.one .z a) han p3 (hp3.up (by omega))
    · have han : a < n := by omega
      cases g
      all_goals
        repeat' (first | (simp only [word_snoc, ↓EkS.pre, EkS.post, ↓K39TS.pre, K39TS.post, List.length_map, List.length_set, Int.reduceLT, Int.reduceLE, Int.reduceNeg, Int.reducePow, Int.reduceToNat, Nat.reduceLT, Nat.reducePow, Nat.reduceAdd, Nat.reduceLeDiff, Nat.reduceSub, Nat.reduceBEq, Int.reduceAdd, Int.reduceSub, Int.reduceMul, Int.reduceEq, Nat.reduceEqDiff, G2.nm, sx_inj, nl_c, nl_0, nl_1, nl_2, and_true, and_false, false_and, true_and, and_self, if_true, if_false]) | (with_reducible refine br (fun _ => ?_) (fun _ => ?_)) | ((with_reducible refine ck ?_ ?_); · first | decide +kernel | omega | assumption | exact .inl (.inr (by decide)) | exact .inl (.inl (by omega)) | (simp only [List.length_map]; omega)))
        · obtain ⟨q, ys, e, z2, p4, rfl, rfl, z02, z12, hp4⟩ := (take_run hp3 (by omega) (m := (n : Int) - 1) (by omega) (log_small (by omega))).ex
          refine wq e ?_
          clear e
          obtain ⟨w, rfl⟩ : ∃ w : Nat, z2 = w := ⟨z2.toNat, by omega⟩
          have e2 : ((a : Int) + 1 + (w : Nat)) % (n : Nat) = (((a + 1 + w) % n : Nat) : Int) := by
            rw [Int.natCast_emod, Int.natCast_add, Int.natCast_add]; rfl
          obtain ⟨m1, m2⟩ := modn (z := w) han (by omega)
          repeat' (first | (simp only [word_snoc, ↓EkS.pre, EkS.post, ↓K39TS.pre, K39TS.post, List.length_map, List.length_set, Int.reduceLT, Int.reduceLE, Int.reduceNeg, Int.reducePow, Int.reduceToNat, Nat.reduceLT, Nat.reducePow, Nat.reduceAdd, Nat.reduceLeDiff, Nat.reduceSub, Nat.reduceBEq, Int.reduceAdd, Int.reduceSub, Int.reduceMul, Int.reduceEq, Nat.reduceEqDiff, e2]) | (with_reducible refine br (fun _ => ?_) (fun _ => ?_)) | ((with_reducible refine ck ?_ ?_); · first | decide +kernel | omega | assumption | exact .inl (.inr (by decide)) | exact .inl (.inl (by omega)) | first | omega | (simp only [List.length_map]; omega)))
          first
          | exact add (.two .cx a ((a + 1 + w) % n)) ⟨han, m1, m2⟩ p4 (hp4.up (by omega))
          | exact add (.two .cz a ((a + 1 + w) % n)) ⟨han, m1, m2⟩ p4 (hp4.up (by omega))
          | exact add (.two .sw a ((a + 1 + w) % n)) ⟨han, m1, m2⟩ p4 (hp4.up (by omega))
        · exact ⟨gs, p3, ok, by omega, hp3.up (by omega), rfl⟩
  · obtain ⟨gs, ps, ok, hgl, hps, rfl⟩ := hI
    repeat' (first | (simp only [word_snoc, ↓EkS.pre, EkS.post, ↓K39TS.pre, K39TS.post, List.length_map, List.length_set, Int.reduceLT, Int.reduceLE, Int.reduceNeg, Int.reducePow, Int.reduceToNat, Nat.reduceLT, Nat.reducePow, Nat.reduceAdd, Nat.reduceLeDiff, Nat.reduceSub, Nat.reduceBEq, Int.reduceAdd, Int.reduceSub, Int.reduceMul, Int.reduceEq, Nat.reduceEqDiff]) | (with_reducible refine br (fun _ => ?_) (fun _ => ?_)) | ((with_reducible refine ck ?_ ?_); · first | decide +kernel | omega | assumption | exact .inl (.inr (by decide)) | exact .inl (.inl (by omega)) | skip))
    exact ⟨gs, ps, rfl, rfl, hps.up (by simp; omega), ok, by simp at hgl; omega⟩

def nmsA : List (List Nat) := [[104], [115], [115, 100], [120], [121], [122], [119], [99, 120], [99, 122], [115, 119, 97, 112]]
def nmsB : List (List Nat) := [[104], [104], [104], [115], [115, 100], [120], [121], [122], [99, 120], [99, 120], [99, 120], [99, 122], [115, 119, 97, 112], [115]]
theorem nmsA_ok : ∀ c ∈ nmsA, Nm c := by
  intro c hc
  simp only [nmsA, List.mem_cons, List.not_mem_nil, or_false] at hc
  rcases hc with rfl | rfl | rfl | rfl | rfl | rfl | rfl | rfl | rfl | rfl
  · exact .g1 .h rfl
  · exact .g1 .s rfl
  · exact .g1 .sd rfl
  · exact .g1 .x rfl
  · exact .g1 .y rfl
  · exact .g1 .z rfl
  · exact .w rfl
  · exact .g2 .cx rfl
  · exact .g2 .cz rfl
  · exact .g2 .sw rfl
theorem nmsB_ok : ∀ c ∈ nmsB, Nm c := by
  intro c hc
  apply nmsA_ok
  simp only [nmsA, nmsB, List.mem_cons, List.not_mem_nil, or_false] at hc ⊢
  rcases hc with rfl | rfl | rfl | rfl | rfl | rfl | rfl | rfl | rfl | rfl | rfl | rfl | rfl | rfl <;> simp
theorem names_run : fs__law_names.run [] = some (.own (nmsB.map fun c => .str (sx c)), []) := by
  have h : Wq (fs__law_names.run []) fun r ys => r = .own (nmsB.map fun c => .str (sx c)) ∧ ys = [] := by
    repeat' (first | (simp only [word_snoc, ↓EkS.pre, EkS.post, ↓K39TS.pre, K39TS.post, List.length_map, List.length_set, Int.reduceLT, Int.reduceLE, Int.reduceNeg, Int.reducePow, Int.reduceToNat, Nat.reduceLT, Nat.reducePow, Nat.reduceAdd, Nat.reduceLeDiff, Nat.reduceSub, Nat.reduceBEq, Int.reduceAdd, Int.reduceSub, Int.reduceMul, Int.reduceEq, Nat.reduceEqDiff, ↓rn__law_names, sh__law_names, Ws_nil]) | (with_reducible refine br (fun _ => ?_) (fun _ => ?_)) | ((with_reducible refine ck ?_ ?_); · first | decide +kernel | omega | assumption | exact .inl (.inr (by decide)) | exact .inl (.inl (by omega)) | skip))
    all_goals rfl
  obtain ⟨r, ys, e, rfl, rfl⟩ := h.ex
  exact e


end K39

namespace K39
open PySem L2 PySem.Spec PyProof.Rows Ek
def wv (x : Wd) : D := pw x.1 x.2
def tb (ws : List Wd) : D := .tuple (ws.map wv)
/-- an upright word of n letters -/
structure WU (n : Nat) (x : Wd) : Prop where
  wn : WN n x
  up : x.1 % 2 = 0
def wAt (ws : List Wd) (i : Nat) : Wd := ws.getD i (0, [])
def badP (n : Nat) (ws : List Wd) (i j : Nat) : Bool := meetL (wAt ws i).2 (wAt ws j).2 == decide (j = i + n)
def tabB (n : Nat) (ws : List Wd) : Bool := (List.range ws.length).all fun i => (List.range ws.length).all fun j => !(decide (i < j) && badP n ws i j)
theorem tabB_of {n : Nat} {ws : List Wd} (h : ∀ i j, i < j → j < ws.length → badP n ws i j = false) : tabB n ws = true := by
  unfold tabB
  rw [List.all_eq_true]
  intro i _
  rw [List.all_eq_true]
  intro j hj
  by_cases hij : i < j
  · rw [h i j hij (List.mem_range.mp hj)]; simp
  · simp [hij]
theorem tabB_no {n : Nat} {ws : List Wd} {i j : Nat} (hij : i < j) (hj : j < ws.length) (h : badP n ws i j = true) : tabB n ws = false := by
  rw [Bool.eq_false_iff]
  intro z
  unfold tabB at z
  rw [List.all_eq_true] at z
  have z1 := z i (List.mem_range.mpr (by omega))
  rw [List.all_eq_true] at z1
  have z2 := z1 j (List.mem_range.mpr hj)
  rw [h] at z2
  simp [hij] at z2
theorem wv_at {ws : List Wd} {i : Nat} (h : i < ws.length) : atI (ws.map wv) (i : Nat) = some (wv (wAt ws i)) := atI_getD (d := (0, [])) h
theorem is_upright_run {n : Nat} {x : Wd} (h : WU n x) (h1 : 1 ≤ n) (hn : n ≤ 1000) : fs_is_upright.run [wv x] = some (.d (.bool true), []) := by
  have hl := h.wn.len
  have nn : x.2 ≠ [] := fun z => by rw [z] at hl; simp at hl; omega
  have hp := is_pauli_pw h.wn.lo h.wn.hi nn (show x.2.length ≤ 1000000 by omega)
  have hu := h.up
  have h : Wq (fs_is_upright.run [wv x]) fun r ys => r = .d (.bool true) ∧ ys = [] := by
    have x0 : dIx (wv x) (.int 0) = some (.d (.int x.1)) := rfl
    have hp' : fs_is_pauli.run [wv x] = some (.d (.bool true), []) := hp
    repeat' (first | (simp only [word_snoc, ↓EkS.pre, EkS.post, ↓K39TS.pre, K39TS.post, List.length_map, List.length_set, Int.reduceLT, Int.reduceLE, Int.reduceNeg, Int.reducePow, Int.reduceToNat, Nat.reduceLT, Nat.reducePow, Nat.reduceAdd, Nat.reduceLeDiff, Nat.reduceSub, Nat.reduceBEq, Int.reduceAdd, Int.reduceSub, Int.reduceMul, Int.reduceEq, Nat.reduceEqDiff, ↓rn_is_upright, sh_is_upright, hp', x0]) | (with_reducible refine br (fun _ => ?_) (fun _ => ?_)) | ((with_reducible refine ck ?_ ?_); · first | decide +kernel | omega | assumption | exact .inl (.inr (by decide)) | exact .inl (.inl (by omega)) | skip))
    rw [decide_eq_true hu]
  obtain ⟨r, ys, e, rfl, rfl⟩ := h.ex
  exact e
theorem enum_wv : ∀ (ws pre : List Wd), enumD (pre.length : Nat) (ws.map wv) = (List.range' pre.length ws.length).map fun k => .tuple [.int (k : Nat), wv (wAt (pre ++ ws) k)]
  | [], pre => rfl
  | x :: ws, pre => by
    have ih := enum_wv ws (pre ++ [x])
    rw [List.length_append, List.length_singleton, List.append_assoc, List.singleton_append] at ih
    show .tuple [.int _, wv x] :: enumD ((pre.length : Nat) + 1) (ws.map wv) = _
    rw [List.length_cons, List.range'_succ, List.map_cons]
    have e : ((pre.length : Nat) : Int) + 1 = ((pre.length + 1 : Nat) : Int) := by omega
    rw [e, ih]
    simp [wAt]
theorem enum_wv0 {ws : List Wd} : enumD 0 (ws.map wv) = (List.range ws.length).map fun k => .tuple [.int (k : Nat), wv (wAt ws k)] := by
  have := enum_wv ws []
  rw [List.range_eq_range']
  exact this
theorem wAt_mem {ws : List Wd} {i : Nat} (h : i < ws.length) : wAt ws i ∈ ws := by
  unfold wAt
  rw [List.getD_eq_getElem?_getD, List.getElem?_eq_getElem h]
  exact List.getElem_mem h
theorem is_table_run {n : Nat} {ws : List Wd} (h1 : 1 ≤ n) (hn : n ≤ 100) (hl : ws.length = 2 * n) (hw : ∀ x ∈ ws, WU n x) : fs_is_table.run [tb ws] = some (.d (.bool (tabB n ws)), []) := by
  have h : Wq (fs_is_table.run [tb ws]) fun r ys => r = .d (.bool (tabB n ws)) ∧ ys = [] := by
    unfold tb
    have d2 : (ws.length : Int) / 2 = (n : Nat) := by omega
    repeat' (first | (simp only [word_snoc, ↓EkS.pre, EkS.post, ↓K39TS.pre, K39TS.post, List.length_map, List.length_set, Int.reduceLT, Int.reduceLE, Int.reduceNeg, Int.reducePow, Int.reduceToNat, Nat.reduceLT, Nat.reducePow, Nat.reduceAdd, Nat.reduceLeDiff, Nat.reduceSub, Nat.reduceBEq, Int.reduceAdd, Int.reduceSub, Int.reduceMul, Int.reduceEq, Nat.reduceEqDiff, ↓rn_is_table, sh_is_table, d2]) | (with_reducible refine br (fun _ => ?_) (fun _ => ?_)) | ((with_reducible refine ck ?_ ?_); · first | decide +kernel | omega | assumption | exact .inl (.inr (by decide)) | exact .inl (.inl (by omega)) | first | omega | exact ⟨by decide, by decide⟩))
    · omega
    · omega
    have lw : ∀ x : Wd, dIx (wv x) (.int 1) = some (.d (.str (wd x.2))) := fun _ => rfl
    refine lc_all (ws) _ (fun _ => .bool true) ?_ (fun a ha => ?_) ?_
    · first | omega | (simp only [List.length_map, List.length_range, List.length_zip]; omega)
    · simp only [word_snoc, ↓EkS.pre, EkS.post, ↓K39TS.pre, K39TS.post, List.length_map, List.length_set, Int.reduceLT, Int.reduceLE, Int.reduceNeg, Int.reducePow, Int.reduceToNat, Nat.reduceLT, Nat.reducePow, Nat.reduceAdd, Nat.reduceLeDiff, Nat.reduceSub, Nat.reduceBEq, Int.reduceAdd, Int.reduceSub, Int.reduceMul, Int.reduceEq, Nat.reduceEqDiff, ce_is_table_1]
      have hu := is_upright_run (hw a ha) h1 (by omega)
      have hal := (hw a ha).wn.len
      repeat' (first | (simp only [word_snoc, ↓EkS.pre, EkS.post, ↓K39TS.pre, K39TS.post, List.length_map, List.length_set, Int.reduceLT, Int.reduceLE, Int.reduceNeg, Int.reducePow, Int.reduceToNat, Nat.reduceLT, Nat.reducePow, Nat.reduceAdd, Nat.reduceLeDiff, Nat.reduceSub, Nat.reduceBEq, Int.reduceAdd, Int.reduceSub, Int.reduceMul, Int.reduceEq, Nat.reduceEqDiff, hu, lw, wd_len, hal]) | (with_reducible refine br (fun _ => ?_) (fun _ => ?_)) | ((with_reducible refine ck ?_ ?_); · first | decide +kernel | omega | assumption | exact .inl (.inr (by decide)) | exact .inl (.inl (by omega)) | (rw [wd_len]; omega)))
      all_goals simp
    repeat' (first | (simp only [word_snoc, ↓EkS.pre, EkS.post, ↓K39TS.pre, K39TS.post, List.length_map, List.length_set, Int.reduceLT, Int.reduceLE, Int.reduceNeg, Int.reducePow, Int.reduceToNat, Nat.reduceLT, Nat.reducePow, Nat.reduceAdd, Nat.reduceLeDiff, Nat.reduceSub, Nat.reduceBEq, Int.reduceAdd, Int.reduceSub, Int.reduceMul, Int.reduceEq, Nat.reduceEqDiff, bls_map (fun _ => true)]) | (with_reducible refine br (fun _ => ?_) (fun _ => ?_)) | ((with_reducible refine ck ?_ ?_); · first | decide +kernel | omega | assumption | exact .inl (.inr (by decide)) | exact .inl (.inl (by omega)) | skip))
    · rename_i z; exact absurd z (by simp)
    rw [enum_wv0]
    refine for_rel (List.range ws.length) _ (fun pre s => (∀ i ∈ pre, ∀ j, i < j → j < ws.length → badP n ws i j = false) ∧ s = [some (.d (.tuple (ws.map wv))), some (.d (.int n)), none, none, none]) ⟨(fun _ h => nomatch h), rfl⟩ (fun pre i post s hpre hI => ?_) (fun s hI => ?_)
    · obtain ⟨hok, rfl⟩ := hI
      have hi : i < ws.length := List.mem_range.mp (by rw [hpre]; simp)
      have c1 : (i : Int) + 1 = ((i + 1 : Nat) : Int) := by omega
      repeat' (first | (simp only [word_snoc, ↓EkS.pre, EkS.post, ↓K39TS.pre, K39TS.post, List.length_map, List.length_set, Int.reduceLT, Int.reduceLE, Int.reduceNeg, Int.reducePow, Int.reduceToNat, Nat.reduceLT, Nat.reducePow, Nat.reduceAdd, Nat.reduceLeDiff, Nat.reduceSub, Nat.reduceBEq, Int.reduceAdd, Int.reduceSub, Int.reduceMul, Int.reduceEq, Nat.reduceEqDiff, lb_is_table_2, c1]) | (with_reducible refine br (fun _ => ?_) (fun _ => ?_)) | ((with_reducible refine ck ?_ ?_); · first | decide +kernel | omega | assumption | exact .inl (.inr (by decide)) | exact .inl (.inl (by omega)) | exact ⟨okR_nat (by omega), okR_nat (by omega)⟩))
      rw [range_map2]
      refine for_rel (List.range' (i + 1) (ws.length - (i + 1))) _ (fun pre2 s => (∀ j ∈ pre2, badP n ws i j = false) ∧ s = [some (.d (.tuple (ws.map wv))), some (.d (.int n)), some (.d (.int i)), some (.d (wv (wAt ws i))), none]) ⟨(fun _ h => nomatch h), rfl⟩ (fun pre2 j post2 s hpre2 hI => ?_) (fun s hI => ?_)
      · obtain ⟨hok2, rfl⟩ := hI
        have hj' : j ∈ List.range' (i + 1) (ws.length - (i + 1)) := by rw [hpre2]; simp
        rw [List.mem_range'_1] at hj'
        have hj : j < ws.length := by omega
        have wi := (hw _ (wAt_mem hi)).wn.len
        have wj := (hw _ (wAt_mem hj)).wn.len
        have mt : fs_meets_of.run [wv (wAt ws i), wv (wAt ws j)] = some (.d (.bool (meetL (wAt ws i).2 (wAt ws j).2)), []) := meets_of_run (by omega) (by omega)
        have aj := wv_at (ws := ws) hj
        have ce : ((j : Int) = (i : Int) + (n : Nat)) = (j = i + n) := by simp only [eq_iff_iff]; omega
        repeat' (first | (simp only [word_snoc, ↓EkS.pre, EkS.post, ↓K39TS.pre, K39TS.post, List.length_map, List.length_set, Int.reduceLT, Int.reduceLE, Int.reduceNeg, Int.reducePow, Int.reduceToNat, Nat.reduceLT, Nat.reducePow, Nat.reduceAdd, Nat.reduceLeDiff, Nat.reduceSub, Nat.reduceBEq, Int.reduceAdd, Int.reduceSub, Int.reduceMul, Int.reduceEq, Nat.reduceEqDiff, lb_is_table_1, mt, aj, ce]) | (with_reducible refine br (fun _ => ?_) (fun _ => ?_)) | ((with_reducible refine ck ?_ ?_); · first | decide +kernel | omega | assumption | exact .inl (.inr (by decide)) | exact .inl (.inl (by omega)) | skip))
        · rename_i z
          rw [tabB_no (show i < j by omega) hj z]
        · rename_i z
          exact ⟨hok2, by simpa [badP] using z⟩
      · obtain ⟨hok2, rfl⟩ := hI
        repeat' (first | (simp only [word_snoc, ↓EkS.pre, EkS.post, ↓K39TS.pre, K39TS.post, List.length_map, List.length_set, Int.reduceLT, Int.reduceLE, Int.reduceNeg, Int.reducePow, Int.reduceToNat, Nat.reduceLT, Nat.reducePow, Nat.reduceAdd, Nat.reduceLeDiff, Nat.reduceSub, Nat.reduceBEq, Int.reduceAdd, Int.reduceSub, Int.reduceMul, Int.reduceEq, Nat.reduceEqDiff]) | (with_reducible refine br (fun _ => ?_) (fun _ => ?_)) | ((with_reducible refine ck ?_ ?_); · first | decide +kernel | omega | assumption | exact .inl (.inr (by decide)) | exact .inl (.inl (by omega)) | skip))
        exact ⟨hok, fun j h1 h2 => hok2 j (by rw [List.mem_range'_1]; omega)⟩
    · obtain ⟨hok, rfl⟩ := hI
      repeat' (first | (simp only [word_snoc, ↓EkS.pre, EkS.post, ↓K39TS.pre, K39TS.post, List.length_map, List.length_set, Int.reduceLT, Int.reduceLE, Int.reduceNeg, Int.reducePow, Int.reduceToNat, Nat.reduceLT, Nat.reducePow, Nat.reduceAdd, Nat.reduceLeDiff, Nat.reduceSub, Nat.reduceBEq, Int.reduceAdd, Int.reduceSub, Int.reduceMul, Int.reduceEq, Nat.reduceEqDiff]) | (with_reducible refine br (fun _ => ?_) (fun _ => ?_)) | ((with_reducible refine ck ?_ ?_); · first | decide +kernel | omega | assumption | exact .inl (.inr (by decide)) | exact .inl (.inl (by omega)) | skip))
      rw [tabB_of fun i j hij hj => hok i (List.mem_range.mpr (by omega)) j hij hj]
  obtain ⟨r, ys, e, rfl, rfl⟩ := h.ex
  exact e

def oneAt (n a : Nat) (c : Lt) : Wd := (0, (List.replicate n .I).set a c)
theorem wd_rep (n : Nat) : repS (sx [73]) n = wd (List.replicate n .I) := by
  rw [sx_rep]
  unfold wd
  congr 1
  induction n with
  | zero => rfl
  | succ n ih => rw [List.replicate_succ, List.flatten_cons, ih, List.replicate_succ, List.map_cons]; rfl
theorem wd_app {l m : List Lt} : wd l ++ wd m = wd (l ++ m) := by
  unfold wd
  rw [sx_app, List.map_append]
theorem set_rep (n a : Nat) (c : Lt) (h : a < n) : List.replicate a Lt.I ++ [c] ++ List.replicate (n - 1 - a) .I = (List.replicate n .I).set a c := by
  apply List.ext_getElem?
  intro k
  rw [List.getElem?_set]
  by_cases h1 : k < a
  · rw [List.append_assoc, List.getElem?_append_left (by simpa using h1), if_neg (by omega), List.getElem?_replicate, List.getElem?_replicate, if_pos h1, if_pos (by omega)]
  · by_cases h2 : k = a
    · subst h2
      rw [List.append_assoc, List.getElem?_append_right (by simp)]
      simp [h]
    · rw [if_neg (by omega), List.getElem?_append_right (by simp; omega)]
      simp only [List.length_append, List.length_replicate, List.length_cons, List.length_nil, List.getElem?_replicate]
      by_cases h3 : k < n
      · rw [if_pos (by omega), if_pos h3]
      · rw [if_neg (by omega), if_neg h3]
theorem s1_wd (c : Lt) : s1 c = wd [c] := rfl
theorem one_wu {n a : Nat} {c : Lt} : WU n (oneAt n a c) := ⟨⟨Int.le_refl 0, show (0 : Int) ≤ 3 by decide, by simp [oneAt]⟩, rfl⟩
theorem law_at_run {n a : Nat} {c : Lt} (ha : a < n) (hn : n ≤ 100) : fs__law_at.run [.int n, .int a, .str (s1 c)] = some (.d (wv (oneAt n a c)), []) := by
  have h : Wq (fs__law_at.run [.int n, .int a, .str (s1 c)]) fun r ys => r = .d (wv (oneAt n a c)) ∧ ys = [] := by
    have c2 : (n : Int) - 1 - a = ((n - 1 - a : Nat) : Int) := by omega
    repeat' (first | (simp only [word_snoc, ↓EkS.pre, EkS.post, ↓K39TS.pre, K39TS.post, List.length_map, List.length_set, Int.reduceLT, Int.reduceLE, Int.reduceNeg, Int.reducePow, Int.reduceToNat, Nat.reduceLT, Nat.reducePow, Nat.reduceAdd, Nat.reduceLeDiff, Nat.reduceSub, Nat.reduceBEq, Int.reduceAdd, Int.reduceSub, Int.reduceMul, Int.reduceEq, Nat.reduceEqDiff, ↓rn__law_at, sh__law_at, c2, Int.toNat_natCast, wd_rep, s1_wd, wd_app]) | (with_reducible refine br (fun _ => ?_) (fun _ => ?_)) | ((with_reducible refine ck ?_ ?_); · first | decide +kernel | omega | assumption | exact .inl (.inr (by decide)) | exact .inl (.inl (by omega)) | first | omega | exact ⟨by omega, by omega, by simp only [sx_len, List.length_cons, List.length_nil]; omega⟩ | (simp only [wd_len, sx_len, List.length_append, List.length_replicate, List.length_cons, List.length_nil]; omega)))
    rw [set_rep n a c ha]
    rfl
  obtain ⟨r, ys, e, rfl, rfl⟩ := h.ex
  exact e
def base (n i : Nat) : Wd := oneAt n (i % n) (if i < n then .X else .Z)
def tabL (n : Nat) (gs : List Gt) : List Wd := (List.range (2 * n)).map fun i => actL gs (base n i)
theorem xz_at {n i : Nat} (h1 : 1 ≤ n) (hi : i < 2 * n) : atI (sx [88, 90]).cps.toList ((i / n : Nat) : Int) = some (cd (if i < n then .X else .Z)) := by
  by_cases h : i < n
  · rw [Nat.div_eq_of_lt h, if_pos h]; rfl
  · have : i / n = 1 := by
      rw [Nat.div_eq_iff (by omega)]; omega
    rw [this, if_neg h]; rfl
theorem law_table_of_run {n : Nat} {gs : List Gt} (h1 : 1 ≤ n) (hn : n ≤ 100) (ok : ∀ g ∈ gs, g.ok n) : fs__law_table_of.run [.int n, .tuple (gs.map gd)] = some (.d (tb (tabL n gs)), []) := by
  have h : Wq (fs__law_table_of.run [.int n, .tuple (gs.map gd)]) fun r ys => r = .d (tb (tabL n gs)) ∧ ys = [] := by
    have c2 : (2 : Int) * n = ((2 * n : Nat) : Int) := by omega
    have hlog : (n : Int).natAbs.log2 < 9000 := log_small (by omega)
    repeat' (first | (simp only [word_snoc, ↓EkS.pre, EkS.post, ↓K39TS.pre, K39TS.post, List.length_map, List.length_set, Int.reduceLT, Int.reduceLE, Int.reduceNeg, Int.reducePow, Int.reduceToNat, Nat.reduceLT, Nat.reducePow, Nat.reduceAdd, Nat.reduceLeDiff, Nat.reduceSub, Nat.reduceBEq, Int.reduceAdd, Int.reduceSub, Int.reduceMul, Int.reduceEq, Nat.reduceEqDiff, ↓rn__law_table_of, sh__law_table_of, c2]) | (with_reducible refine br (fun _ => ?_) (fun _ => ?_)) | ((with_reducible refine ck ?_ ?_); · first | decide +kernel | omega | assumption | exact .inl (.inr (by decide)) | exact .inl (.inl (by omega)) | first | omega | exact .inl (.inl (by decide)) | exact okR_nat (by omega)))
    rw [range_map]
    refine lc_all (List.range (2 * n)) _ (fun i => wv (actL gs (base n i))) (by simp; omega) (fun i hi => ?_) ?_
    · have hi' := List.mem_range.mp hi
      have cm : (i : Int) % (n : Nat) = ((i % n : Nat) : Int) := by rw [Int.natCast_emod]
      have cq : (i : Int) / (n : Nat) = ((i / n : Nat) : Int) := by rw [Int.natCast_ediv]
      have xz := xz_at h1 hi'
      have hm : i % n < n := Nat.mod_lt _ (by omega)
      have la := law_at_run (c := if i < n then .X else .Z) hm hn
      have ll : fs__law_led.run [.tuple (gs.map gd), wv (base n i)] = some (.d (wv (actL gs (base n i))), []) := law_led_run ok one_wu.wn (by omega)
      have es : PyData.str (sx [cd (if i < n then .X else .Z)]) = .str (s1 (if i < n then .X else .Z)) := rfl
      have eb : oneAt n (i % n) (if i < n then .X else .Z) = base n i := rfl
      rw [eb] at la
      repeat' (first | (simp only [word_snoc, ↓EkS.pre, EkS.post, ↓K39TS.pre, K39TS.post, List.length_map, List.length_set, Int.reduceLT, Int.reduceLE, Int.reduceNeg, Int.reducePow, Int.reduceToNat, Nat.reduceLT, Nat.reducePow, Nat.reduceAdd, Nat.reduceLeDiff, Nat.reduceSub, Nat.reduceBEq, Int.reduceAdd, Int.reduceSub, Int.reduceMul, Int.reduceEq, Nat.reduceEqDiff, ce__law_table_of_1, cm, cq, xz, sx_one, es, la, ll]) | (with_reducible refine br (fun _ => ?_) (fun _ => ?_)) | ((with_reducible refine ck ?_ ?_); · first | decide +kernel | omega | assumption | exact .inl (.inr (by decide)) | exact .inl (.inl (by omega)) | first | omega | exact ⟨by omega, hlog⟩ | (simp only [sx_len, List.length_cons, List.length_nil]; omega)))
    · repeat' (first | (simp only [word_snoc, ↓EkS.pre, EkS.post, ↓K39TS.pre, K39TS.post, List.length_map, List.length_set, Int.reduceLT, Int.reduceLE, Int.reduceNeg, Int.reducePow, Int.reduceToNat, Nat.reduceLT, Nat.reducePow, Nat.reduceAdd, Nat.reduceLeDiff, Nat.reduceSub, Nat.reduceBEq, Int.reduceAdd, Int.reduceSub, Int.reduceMul, Int.reduceEq, Nat.reduceEqDiff]) | (with_reducible refine br (fun _ => ?_) (fun _ => ?_)) | ((with_reducible refine ck ?_ ?_); · first | decide +kernel | omega | assumption | exact .inl (.inr (by decide)) | exact .inl (.inl (by omega)) | skip))
      unfold tb tabL
      rw [List.map_map]; rfl
  obtain ⟨r, ys, e, rfl, rfl⟩ := h.ex
  exact e

theorem letter_at_run {n a : Nat} {c : Lt} (ha : a < n) (hn : n ≤ 100) : fs_letter_at.run [.int n, .int a, .str (s1 c)] = some (.d (wv (oneAt n a c)), []) := by
  have h : Wq (fs_letter_at.run [.int n, .int a, .str (s1 c)]) fun r ys => r = .d (wv (oneAt n a c)) ∧ ys = [] := by
    have c2 : (n : Int) - 1 - a = ((n - 1 - a : Nat) : Int) := by omega
    repeat' (first | (simp only [word_snoc, ↓EkS.pre, EkS.post, ↓K39TS.pre, K39TS.post, List.length_map, List.length_set, Int.reduceLT, Int.reduceLE, Int.reduceNeg, Int.reducePow, Int.reduceToNat, Nat.reduceLT, Nat.reducePow, Nat.reduceAdd, Nat.reduceLeDiff, Nat.reduceSub, Nat.reduceBEq, Int.reduceAdd, Int.reduceSub, Int.reduceMul, Int.reduceEq, Nat.reduceEqDiff, ↓rn_letter_at, sh_letter_at, c2, Int.toNat_natCast, wd_rep, s1_wd, wd_app]) | (with_reducible refine br (fun _ => ?_) (fun _ => ?_)) | ((with_reducible refine ck ?_ ?_); · first | decide +kernel | omega | assumption | exact .inl (.inr (by decide)) | exact .inl (.inl (by omega)) | first | omega | exact ⟨by omega, by omega, by simp only [sx_len, List.length_cons, List.length_nil]; omega⟩ | (simp only [wd_len, sx_len, List.length_append, List.length_replicate, List.length_cons, List.length_nil]; omega)))
    rw [set_rep n a c ha]
    rfl
  obtain ⟨r, ys, e, rfl, rfl⟩ := h.ex
  exact e
theorem base_split {n : Nat} (f : Wd → Wd) : (List.range (2 * n)).map (fun i => f (base n i)) = ([Lt.X, Lt.Z].flatMap fun c => (List.range n).map fun a => f (oneAt n a c)) := by
  rw [show 2 * n = n + n by omega, List.range_add, List.map_append, List.map_map]
  simp only [List.flatMap_cons, List.flatMap_nil, List.append_nil]
  congr 1
  · apply List.map_congr_left
    intro a ha
    have := List.mem_range.mp ha
    unfold base
    rw [Nat.mod_eq_of_lt this, if_pos this]
  · apply List.map_congr_left
    intro a ha
    have := List.mem_range.mp ha
    unfold base
    simp only [Function.comp]
    rw [if_neg (by omega), Nat.add_mod_left, Nat.mod_eq_of_lt this]
theorem ones_run {n : Nat} (h1 : 1 ≤ n) (hn : n ≤ 100) : fs_ones_of.run [.int n] = some (.own (((List.range (2 * n)).map (base n)).map wv), []) := by
  have h : Wq (fs_ones_of.run [.int n]) fun r ys => r = .own (((List.range (2 * n)).map (base n)).map wv) ∧ ys = [] := by
    have eq : PyData.str (sx [88, 90]) = .str (wd [.X, .Z]) := rfl
    repeat' (first | (simp only [word_snoc, ↓EkS.pre, EkS.post, ↓K39TS.pre, K39TS.post, List.length_map, List.length_set, Int.reduceLT, Int.reduceLE, Int.reduceNeg, Int.reducePow, Int.reduceToNat, Nat.reduceLT, Nat.reducePow, Nat.reduceAdd, Nat.reduceLeDiff, Nat.reduceSub, Nat.reduceBEq, Int.reduceAdd, Int.reduceSub, Int.reduceMul, Int.reduceEq, Nat.reduceEqDiff, ↓rn_ones_of, sh_ones_of]) | (with_reducible refine br (fun _ => ?_) (fun _ => ?_)) | ((with_reducible refine ck ?_ ?_); · first | decide +kernel | omega | assumption | exact .inl (.inr (by decide)) | exact .inl (.inl (by omega)) | (simp only [sx_len, List.length_cons, List.length_nil]; omega)))
    rw [show chars (sx [88, 90]) = [Lt.X, Lt.Z].map fun c => .str (s1 c) from wd_chars (l := [.X, .Z])]
    refine lc2_typ [Lt.X, Lt.Z] _ (fun _ => List.range n) (fun k => .int (k : Nat)) (fun _ _ => true) (fun c a => wv (oneAt n a c)) 100 (fun a _ => by simp; omega) (by simp) (by simp) (fun c hc => ?_) ?_
    · repeat' (first | (simp only [word_snoc, ↓EkS.pre, EkS.post, ↓K39TS.pre, K39TS.post, List.length_map, List.length_set, Int.reduceLT, Int.reduceLE, Int.reduceNeg, Int.reducePow, Int.reduceToNat, Nat.reduceLT, Nat.reducePow, Nat.reduceAdd, Nat.reduceLeDiff, Nat.reduceSub, Nat.reduceBEq, Int.reduceAdd, Int.reduceSub, Int.reduceMul, Int.reduceEq, Nat.reduceEqDiff]) | (with_reducible refine br (fun _ => ?_) (fun _ => ?_)) | ((with_reducible refine ck ?_ ?_); · first | decide +kernel | omega | assumption | exact .inl (.inr (by decide)) | exact .inl (.inl (by omega)) | exact okR_nat (by omega)))
      refine ⟨range_map, fun a ha => ?_⟩
      have la := letter_at_run (c := c) (List.mem_range.mp ha) hn
      repeat' (first | (simp only [word_snoc, ↓EkS.pre, EkS.post, ↓K39TS.pre, K39TS.post, List.length_map, List.length_set, Int.reduceLT, Int.reduceLE, Int.reduceNeg, Int.reducePow, Int.reduceToNat, Nat.reduceLT, Nat.reducePow, Nat.reduceAdd, Nat.reduceLeDiff, Nat.reduceSub, Nat.reduceBEq, Int.reduceAdd, Int.reduceSub, Int.reduceMul, Int.reduceEq, Nat.reduceEqDiff, la]) | (with_reducible refine br (fun _ => ?_) (fun _ => ?_)) | ((with_reducible refine ck ?_ ?_); · first | decide +kernel | omega | assumption | exact .inl (.inr (by decide)) | exact .inl (.inl (by omega)) | skip))
    · repeat' (first | (simp only [word_snoc, ↓EkS.pre, EkS.post, ↓K39TS.pre, K39TS.post, List.length_map, List.length_set, Int.reduceLT, Int.reduceLE, Int.reduceNeg, Int.reducePow, Int.reduceToNat, Nat.reduceLT, Nat.reducePow, Nat.reduceAdd, Nat.reduceLeDiff, Nat.reduceSub, Nat.reduceBEq, Int.reduceAdd, Int.reduceSub, Int.reduceMul, Int.reduceEq, Nat.reduceEqDiff]) | (with_reducible refine br (fun _ => ?_) (fun _ => ?_)) | ((with_reducible refine ck ?_ ?_); · first | decide +kernel | omega | assumption | exact .inl (.inr (by decide)) | exact .inl (.inl (by omega)) | skip))
      have := base_split (n := n) id
      simp only [id] at this
      rw [this]
      have ft : (List.range n).filter (fun _ => true) = List.range n := List.filter_eq_self.mpr (fun _ _ => rfl)
      simp [ft]
      rfl
  obtain ⟨r, ys, e, rfl, rfl⟩ := h.ex
  exact e
theorem table_of_run {n : Nat} {gs : List Gt} (h1 : 1 ≤ n) (hn : n ≤ 100) (ok : ∀ g ∈ gs, g.ok n) (hg : gs.length ≤ 1000) : fs_table_of.run [cir n gs] = some (.d (tb (tabL n gs)), []) := by
  have h : Wq (fs_table_of.run [cir n gs]) fun r ys => r = .d (tb (tabL n gs)) ∧ ys = [] := by
    have x0 : ∀ gs, dIx (cir n gs) (.int 0) = some (.d (.int n)) := fun _ => rfl
    have x1 : ∀ gs, dIx (cir n gs) (.int 1) = some (.d (.tuple (gs.map gd))) := fun _ => rfl
    repeat' (first | (simp only [word_snoc, ↓EkS.pre, EkS.post, ↓K39TS.pre, K39TS.post, List.length_map, List.length_set, Int.reduceLT, Int.reduceLE, Int.reduceNeg, Int.reducePow, Int.reduceToNat, Nat.reduceLT, Nat.reducePow, Nat.reduceAdd, Nat.reduceLeDiff, Nat.reduceSub, Nat.reduceBEq, Int.reduceAdd, Int.reduceSub, Int.reduceMul, Int.reduceEq, Nat.reduceEqDiff, ↓rn_table_of, sh_table_of, check_clifford_run h1 ok (by omega), ↓rn_table_of_right, sh_table_of_right, x0, ones_run h1 hn]) | (with_reducible refine br (fun _ => ?_) (fun _ => ?_)) | ((with_reducible refine ck ?_ ?_); · first | decide +kernel | omega | assumption | exact .inl (.inr (by decide)) | exact .inl (.inl (by omega)) | skip))
    refine lc_all ((List.range (2 * n)).map (base n)) _ (fun x => wv (actL gs x)) (by simp; omega) (fun x hx => ?_) ?_
    · obtain ⟨i, hi, rfl⟩ := List.mem_map.mp hx
      have ll : fs_led_by_all.run [.tuple (gs.map gd), wv (base n i)] = some (.d (wv (actL gs (base n i))), []) := led_by_all_run ok one_wu.wn (by omega)
      repeat' (first | (simp only [word_snoc, ↓EkS.pre, EkS.post, ↓K39TS.pre, K39TS.post, List.length_map, List.length_set, Int.reduceLT, Int.reduceLE, Int.reduceNeg, Int.reducePow, Int.reduceToNat, Nat.reduceLT, Nat.reducePow, Nat.reduceAdd, Nat.reduceLeDiff, Nat.reduceSub, Nat.reduceBEq, Int.reduceAdd, Int.reduceSub, Int.reduceMul, Int.reduceEq, Nat.reduceEqDiff, ce_table_of_right_1, ↓rn_led_of, sh_led_of, x1, ll]) | (with_reducible refine br (fun _ => ?_) (fun _ => ?_)) | ((with_reducible refine ck ?_ ?_); · first | decide +kernel | omega | assumption | exact .inl (.inr (by decide)) | exact .inl (.inl (by omega)) | skip))
    · repeat' (first | (simp only [word_snoc, ↓EkS.pre, EkS.post, ↓K39TS.pre, K39TS.post, List.length_map, List.length_set, Int.reduceLT, Int.reduceLE, Int.reduceNeg, Int.reducePow, Int.reduceToNat, Nat.reduceLT, Nat.reducePow, Nat.reduceAdd, Nat.reduceLeDiff, Nat.reduceSub, Nat.reduceBEq, Int.reduceAdd, Int.reduceSub, Int.reduceMul, Int.reduceEq, Nat.reduceEqDiff]) | (with_reducible refine br (fun _ => ?_) (fun _ => ?_)) | ((with_reducible refine ck ?_ ?_); · first | decide +kernel | omega | assumption | exact .inl (.inr (by decide)) | exact .inl (.inl (by omega)) | skip))
      unfold tb tabL
      rw [List.map_map, List.map_map]; rfl
  obtain ⟨r, ys, e, rfl, rfl⟩ := h.ex
  exact e

theorem l1_up (g : G1) (c : Lt) : (l1 g c).1 % 2 = 0 := by cases g <;> cases c <;> rfl
theorem l2_up (g : G2) (c d : Lt) : (l2 g c d).1 % 2 = 0 := by cases g <;> cases c <;> cases d <;> rfl
theorem WU.act {n : Nat} {g : Gt} {x : Wd} (h : WU n x) : WU n (Ek.act g x) := by
  refine ⟨h.wn.act, ?_⟩
  have hu := h.up
  cases g with
  | w => exact hu
  | one g a =>
    have := l1_up g (x.2.getD a .I)
    simp only [Ek.act]
    omega
  | two g a b =>
    have := l2_up g (x.2.getD a .I) (x.2.getD b .I)
    simp only [Ek.act]
    omega
theorem WU.actL {n : Nat} : ∀ {gs : List Gt} {x : Wd}, WU n x → WU n (Ek.actL gs x)
  | [], _, h => h
  | _ :: gs, _, h => WU.actL (gs := gs) h.act
theorem pes_I : ∀ (k : Nat) (m : List Lt), pes (List.replicate k .I) m = 0
  | 0, m => by simp [pes]
  | k + 1, [] => by simp [pes]
  | k + 1, a :: m => by
    have ih := pes_I k m
    simp only [pes] at ih
    simp only [pes, List.replicate_succ, List.zipWith_cons_cons, List.sum_cons]
    rw [ih]
    cases a <;> rfl
theorem pes_one {n a b : Nat} {c d : Lt} (ha : a < n) (hb : b < n) : pes (oneAt n a c).2 (oneAt n b d).2 = if a = b then ph c d else 0 := by
  have gI : ∀ k, (List.replicate n Lt.I).getD k .I = .I := fun k => by
    rw [List.getD_eq_getElem?_getD, List.getElem?_replicate]; split <;> rfl
  unfold oneAt
  by_cases h : a = b
  · subst h
    rw [if_pos rfl]
    simp only
    rw [pes_set _ _ a _ _ (by simpa using ha) (by simpa using ha), pes_I, gI]
    show 0 - 0 + ph c d = _
    omega
  · rw [if_neg h]
    simp only
    have e : ((List.replicate n Lt.I).set b d) = ((List.replicate n Lt.I).set b d).set a .I := by
      have := set_back (l := (List.replicate n Lt.I).set b d) (a := a) (by simpa using ha)
      rw [getD_set_ne (Ne.symm h), gI] at this
      exact this.symm
    rw [e, pes_set _ _ a _ _ (by simpa using ha) (by simpa using ha), pes_I, gI]
    have h2 : ph c .I = 0 := by cases c <;> rfl
    have h3 : ∀ x, ph .I x = 0 := fun x => by cases x <;> rfl
    rw [h2, h3]
    omega
theorem meet_base {n i j : Nat} (h1 : 1 ≤ n) (hi : i < 2 * n) (hj : j < 2 * n) : meetL (base n i).2 (base n j).2 = !decide (i ≠ j ∧ i % n = j % n) := by
  have mi : i % n < n := Nat.mod_lt _ (by omega)
  have mj : j % n < n := Nat.mod_lt _ (by omega)
  rw [meet_iff 0 0]
  unfold base
  rw [pes_one mi mj, pes_one mj mi]
  have di : i % n = if i < n then i else i - n := by
    split
    · exact Nat.mod_eq_of_lt ‹_›
    · rw [Nat.mod_eq_sub_mod (by omega), Nat.mod_eq_of_lt (by omega)]
  have dj : j % n = if j < n then j else j - n := by
    split
    · exact Nat.mod_eq_of_lt ‹_›
    · rw [Nat.mod_eq_sub_mod (by omega), Nat.mod_eq_of_lt (by omega)]
  by_cases hs : i % n = j % n
  · rw [if_pos hs, if_pos hs.symm]
    by_cases hij : i = j
    · subst hij
      simp
    · have : ¬ ((i < n ∧ j < n) ∨ (¬ i < n ∧ ¬ j < n)) := fun z => by
        rcases z with ⟨z1, z2⟩ | ⟨z1, z2⟩
        · rw [if_pos z1] at di; rw [if_pos z2] at dj; omega
        · rw [if_neg z1] at di; rw [if_neg z2] at dj; omega
      by_cases z1 : i < n
      · have z2 : ¬ j < n := fun z => this (.inl ⟨z1, z⟩)
        rw [if_pos z1, if_neg z2]
        simp [hij, hs, ph]
      · have z2 : j < n := by
          by_cases z : j < n
          · exact z
          · exact absurd (.inr ⟨z1, z⟩) this
        rw [if_neg z1, if_pos z2]
        simp [hij, hs, ph]
  · rw [if_neg hs, if_neg (Ne.symm hs)]
    simp [hs]
/-- a table, drawn -/
structure Tab (n : Nat) (ws : List Wd) : Prop where
  len : ws.length = 2 * n
  wu : ∀ x ∈ ws, WU n x
  mt : ∀ i j, i < 2 * n → j < 2 * n → meetL (wAt ws i).2 (wAt ws j).2 = !decide (i ≠ j ∧ i % n = j % n)
theorem half {n i j : Nat} (hij : i < j) (hj : j < 2 * n) : (i % n = j % n) ↔ j = i + n := by
  have h1 : 1 ≤ n := by omega
  constructor
  · intro h
    have di := Nat.div_add_mod i n
    have dj := Nat.div_add_mod j n
    have q1 : i / n < 2 := Nat.div_lt_of_lt_mul (by omega)
    have q2 : j / n < 2 := Nat.div_lt_of_lt_mul (by omega)
    have a1 : i / n = 0 ∨ i / n = 1 := by generalize i / n = q at q1; omega
    have a2 : j / n = 0 ∨ j / n = 1 := by generalize j / n = q at q2; omega
    rcases a1 with a1 | a1 <;> rcases a2 with a2 | a2 <;> rw [a1] at di <;> rw [a2] at dj <;> simp at di dj <;> omega
  · intro h
    rw [h, Nat.add_mod_right]
theorem Tab.is {n : Nat} {ws : List Wd} (h : Tab n ws) : tabB n ws = true := tabB_of fun i j hij hj => by
  have hl := h.len
  unfold badP
  rw [h.mt i j (by omega) (by omega)]
  have := half hij (show j < 2 * n by omega)
  by_cases z : j = i + n
  · simp [z]; omega
  · have z2 : ¬ i % n = j % n := fun q => z (this.mp q)
    simp [z, z2]
theorem wAt_map {n : Nat} {f : Nat → Wd} {m i : Nat} (h : i < m) : wAt ((List.range m).map f) i = f i := by
  unfold wAt
  rw [List.getD_eq_getElem?_getD, List.getElem?_map, List.getElem?_range h]; rfl
theorem tab_of {n : Nat} {f : Nat → Wd} (hw : ∀ i, i < 2 * n → WU n (f i)) (hm : ∀ i j, i < 2 * n → j < 2 * n → meetL (f i).2 (f j).2 = !decide (i ≠ j ∧ i % n = j % n)) : Tab n ((List.range (2 * n)).map f) := ⟨by simp, fun x hx => by
  obtain ⟨i, hi, rfl⟩ := List.mem_map.mp hx
  exact hw i (List.mem_range.mp hi), fun i j hi hj => by rw [wAt_map (n := n) hi, wAt_map (n := n) hj]; exact hm i j hi hj⟩
theorem mt_led {n : Nat} {gs : List Gt} (ok : ∀ g ∈ gs, g.ok n) (h1 : 1 ≤ n) {i j : Nat} (hi : i < 2 * n) (hj : j < 2 * n) : meetL (actL gs (base n i)).2 (actL gs (base n j)).2 = !decide (i ≠ j ∧ i % n = j % n) := by
  have h := actL_mt ok (one_wu (n := n) (a := i % n) (c := if i < n then .X else .Z)).wn (one_wu (n := n) (a := j % n) (c := if j < n then .X else .Z)).wn
  rw [← meet_base h1 hi hj, meet_iff 0 0, meet_iff 0 0 (base n i).2]
  refine decide_eq_decide.mpr ?_
  show _ ↔ (0 + 0 + pes (oneAt n (i % n) _).2 (oneAt n (j % n) _).2) % 4 = (0 + 0 + pes (oneAt n (j % n) _).2 (oneAt n (i % n) _).2) % 4
  unfold base
  omega
theorem tabL_tab {n : Nat} {gs : List Gt} (ok : ∀ g ∈ gs, g.ok n) (h1 : 1 ≤ n) : Tab n (tabL n gs) := tab_of (fun i _ => one_wu.actL) fun i j hi hj => mt_led ok h1 hi hj
/-- words as gates lead them, with signs of one's own -/
def sgL (n : Nat) (gs : List Gt) (f : Nat → Int) : List Wd := (List.range (2 * n)).map fun i => (f i, (actL gs (base n i)).2)
theorem law_table_run0 {b : Int} {ns : List Int} {n : Nat} (hp : PotB b ns) (hb : b ≤ 100000) (h1 : 1 ≤ n) (hn : n ≤ 50) : Wq (fs__law_table.run [.list (ns.map .int), .int n]) fun q ys => ∃ (gs : List Gt) (f : Nat → Int) (ns' : List Int), q = .d (tb (sgL n gs f)) ∧ ys = ns'.map .int ∧ PotB (b + 600) ns' ∧ (∀ g ∈ gs, g.ok n) ∧ ∀ i, 0 ≤ f i ∧ f i ≤ 3 ∧ f i % 2 = 0 := by
  repeat' (first | (simp only [word_snoc, ↓EkS.pre, EkS.post, ↓K39TS.pre, K39TS.post, List.length_map, List.length_set, Int.reduceLT, Int.reduceLE, Int.reduceNeg, Int.reducePow, Int.reduceToNat, Nat.reduceLT, Nat.reducePow, Nat.reduceAdd, Nat.reduceLeDiff, Nat.reduceSub, Nat.reduceBEq, Int.reduceAdd, Int.reduceSub, Int.reduceMul, Int.reduceEq, Nat.reduceEqDiff, ↓rn__law_table, sh__law_table, names_run]) | (with_reducible refine br (fun _ => ?_) (fun _ => ?_)) | ((with_reducible refine ck ?_ ?_); · first | decide +kernel | omega | assumption | exact .inl (.inr (by decide)) | exact .inl (.inl (by omega)) | skip))
  obtain ⟨q, ys, e, gs, p1, rfl, rfl, hp1, ok, hgl⟩ := (law_gates_run hp (by omega) h1 (by omega) (most := 20) (by omega) nmsB_ok (by decide) (by decide)).ex
  refine wq e ?_
  clear e
  have c2 : (2 : Int) * n = ((2 * n : Nat) : Int) := by omega
  have hlog : (n : Int).natAbs.log2 < 9000 := log_small (by omega)
  repeat' (first | (simp only [word_snoc, ↓EkS.pre, EkS.post, ↓K39TS.pre, K39TS.post, List.length_map, List.length_set, Int.reduceLT, Int.reduceLE, Int.reduceNeg, Int.reducePow, Int.reduceToNat, Nat.reduceLT, Nat.reducePow, Nat.reduceAdd, Nat.reduceLeDiff, Nat.reduceSub, Nat.reduceBEq, Int.reduceAdd, Int.reduceSub, Int.reduceMul, Int.reduceEq, Nat.reduceEqDiff, c2]) | (with_reducible refine br (fun _ => ?_) (fun _ => ?_)) | ((with_reducible refine ck ?_ ?_); · first | decide +kernel | omega | assumption | exact .inl (.inr (by decide)) | exact .inl (.inl (by omega)) | first | omega | exact .inl (.inl (by decide)) | exact okR_nat (by omega)))
  rw [range_map]
  refine for_rel (List.range (2 * n)) _ (fun pre s => ∃ (f : Nat → Int) (ps : List Int), (∀ i, 0 ≤ f i ∧ f i ≤ 3 ∧ f i % 2 = 0) ∧ PotB (b + 400 + pre.length) ps ∧ s = [some (.own (ps.map .int)), some (.d (.int n)), some (.d (.tuple (gs.map gd))), some (.own (pre.map fun i => wv (f i, (actL gs (base n i)).2))), none, none, none]) ⟨fun _ => 0, p1, (fun _ => ⟨Int.le_refl 0, show (0 : Int) ≤ 3 by decide, rfl⟩), hp1.up (by simp), rfl⟩ (fun pre i post s hpre hI => ?_) (fun s hI => ?_)
  · obtain ⟨f, ps, hf, hps, rfl⟩ := hI
    have hi' : i < 2 * n := List.mem_range.mp (by rw [hpre]; simp)
    have hk : pre.length < 2 * n := by
      have := congrArg List.length hpre
      simp at this
      omega
    have cm : (i : Int) % (n : Nat) = ((i % n : Nat) : Int) := by rw [Int.natCast_emod]
    have cq : (i : Int) / (n : Nat) = ((i / n : Nat) : Int) := by rw [Int.natCast_ediv]
    have xz := xz_at h1 hi'
    have hm : i % n < n := Nat.mod_lt _ (by omega)
    have la := law_at_run (c := if i < n then .X else .Z) hm (show n ≤ 100 by omega)
    have wu : WU n (actL gs (base n i)) := one_wu.actL
    have ll : fs__law_led.run [.tuple (gs.map gd), wv (base n i)] = some (.d (wv (actL gs (base n i))), []) := law_led_run ok one_wu.wn (by omega)
    have es : PyData.str (sx [cd (if i < n then .X else .Z)]) = .str (s1 (if i < n then .X else .Z)) := rfl
    have eb : oneAt n (i % n) (if i < n then .X else .Z) = base n i := rfl
    have ew : wv (actL gs (base n i)) = .tuple [.int (actL gs (base n i)).1, .str (wd (actL gs (base n i)).2)] := rfl
    rw [eb] at la
    rw [ew] at ll
    repeat' (first | (simp only [word_snoc, ↓EkS.pre, EkS.post, ↓K39TS.pre, K39TS.post, List.length_map, List.length_set, Int.reduceLT, Int.reduceLE, Int.reduceNeg, Int.reducePow, Int.reduceToNat, Nat.reduceLT, Nat.reducePow, Nat.reduceAdd, Nat.reduceLeDiff, Nat.reduceSub, Nat.reduceBEq, Int.reduceAdd, Int.reduceSub, Int.reduceMul, Int.reduceEq, Nat.reduceEqDiff, lb__law_table_1, cm, cq, xz, sx_one, es, la, ll]) | (with_reducible refine br (fun _ => ?_) (fun _ => ?_)) | ((with_reducible refine ck ?_ ?_); · first | decide +kernel | omega | assumption | exact .inl (.inr (by decide)) | exact .inl (.inl (by omega)) | first | omega | exact ⟨by omega, hlog⟩ | (simp only [sx_len, List.length_cons, List.length_nil]; omega)))
    obtain ⟨q, ys, e, z, p2, rfl, rfl, z0, z1, hp2⟩ := (take_run hps (by omega) (m := 2) (by decide) (by decide)).ex
    refine wq e ?_
    clear e
    repeat' (first | (simp only [word_snoc, ↓EkS.pre, EkS.post, ↓K39TS.pre, K39TS.post, List.length_map, List.length_set, Int.reduceLT, Int.reduceLE, Int.reduceNeg, Int.reducePow, Int.reduceToNat, Nat.reduceLT, Nat.reducePow, Nat.reduceAdd, Nat.reduceLeDiff, Nat.reduceSub, Nat.reduceBEq, Int.reduceAdd, Int.reduceSub, Int.reduceMul, Int.reduceEq, Nat.reduceEqDiff]) | (with_reducible refine br (fun _ => ?_) (fun _ => ?_)) | ((with_reducible refine ck ?_ ?_); · first | decide +kernel | omega | assumption | exact .inl (.inr (by decide)) | exact .inl (.inl (by omega)) | first | omega | exact .inl (.inl (by decide)) | (simp only [List.length_map]; omega)))
    have nd : (pre ++ i :: post).Nodup := hpre ▸ List.nodup_range
    have hnot : i ∉ pre := fun h => (List.nodup_append.mp nd).2.2 i h i List.mem_cons_self rfl
    have hu := wu.up
    have md := mod3 ((actL gs (base n i)).1 + 2 * z)
    refine ⟨fun k => if k = i then ((actL gs (base n i)).1 + 2 * z) % 4 else f k, p2, fun k => ?_, hp2.up (by omega), ?_⟩
    · by_cases hki : k = i
      · simp only [hki, if_true]
        omega
      · simp only [hki, if_false]
        exact hf k
    · have e1 : (pre.map fun k => wv (if k = i then ((actL gs (base n i)).1 + 2 * z) % 4 else f k, (actL gs (base n k)).2)) = pre.map fun k => wv (f k, (actL gs (base n k)).2) := List.map_congr_left fun k hk => by
        have hki : ¬ k = i := fun q => hnot (q ▸ hk)
        rw [if_neg hki]
      rw [e1]
      simp only [if_true]
      rfl
  · obtain ⟨f, ps, hf, hps, rfl⟩ := hI
    repeat' (first | (simp only [word_snoc, ↓EkS.pre, EkS.post, ↓K39TS.pre, K39TS.post, List.length_map, List.length_set, Int.reduceLT, Int.reduceLE, Int.reduceNeg, Int.reducePow, Int.reduceToNat, Nat.reduceLT, Nat.reducePow, Nat.reduceAdd, Nat.reduceLeDiff, Nat.reduceSub, Nat.reduceBEq, Int.reduceAdd, Int.reduceSub, Int.reduceMul, Int.reduceEq, Nat.reduceEqDiff]) | (with_reducible refine br (fun _ => ?_) (fun _ => ?_)) | ((with_reducible refine ck ?_ ?_); · first | decide +kernel | omega | assumption | exact .inl (.inr (by decide)) | exact .inl (.inl (by omega)) | skip))
    exact ⟨gs, f, ps, by unfold tb sgL; rw [List.map_map]; rfl, rfl, hps.up (by simp; omega), ok, hf⟩
theorem sgL_tab {n : Nat} {gs : List Gt} {f : Nat → Int} (ok : ∀ g ∈ gs, g.ok n) (hf : ∀ i, 0 ≤ f i ∧ f i ≤ 3 ∧ f i % 2 = 0) (h1 : 1 ≤ n) : Tab n (sgL n gs f) := by
  have wf : ∀ i, i < 2 * n → WU n (f i, (actL gs (base n i)).2) := fun i _ => ⟨⟨(hf i).1, (hf i).2.1, ((one_wu (n := n) (a := i % n) (c := if i < n then .X else .Z)).actL (gs := gs)).wn.len⟩, (hf i).2.2⟩
  exact tab_of (f := fun i => (f i, (actL gs (base n i)).2)) wf fun i j hi hj => mt_led ok h1 hi hj
theorem law_table_run {b : Int} {ns : List Int} {n : Nat} (hp : PotB b ns) (hb : b ≤ 100000) (h1 : 1 ≤ n) (hn : n ≤ 50) : Wq (fs__law_table.run [.list (ns.map .int), .int n]) fun q ys => ∃ (ws : List Wd) (ns' : List Int), q = .d (tb ws) ∧ ys = ns'.map .int ∧ PotB (b + 600) ns' ∧ Tab n ws := (law_table_run0 hp hb h1 hn).mono fun q ys h => by
  obtain ⟨gs, f, ns', rfl, rfl, hp, ok, hf⟩ := h
  exact ⟨_, ns', rfl, rfl, hp, sgL_tab ok hf h1⟩
theorem Tab.turn {n : Nat} {ws : List Wd} (h : Tab n ws) (h1 : 1 ≤ n) : Tab n (ws.drop n ++ ws.take n) := by
  have hl := h.len
  have at1 : ∀ i, i < 2 * n → wAt (ws.drop n ++ ws.take n) i = wAt ws (if i < n then i + n else i - n) := fun i hi => by
    unfold wAt
    rw [List.getD_eq_getElem?_getD, List.getD_eq_getElem?_getD]
    by_cases z : i < n
    · rw [List.getElem?_append_left (by simp; omega), if_pos z, List.getElem?_drop, Nat.add_comm]
    · rw [List.getElem?_append_right (by simp; omega), if_neg z, List.length_drop, hl, show i - (2 * n - n) = i - n by omega, List.getElem?_take, if_pos (by omega)]
  have md : ∀ i, i < 2 * n → (if i < n then i + n else i - n) % n = i % n := fun i hi => by
    split
    · rw [Nat.add_mod_right]
    · rw [← Nat.mod_eq_sub_mod (by omega)]
  refine ⟨by simp; omega, fun x hx => h.wu x ?_, fun i j hi hj => ?_⟩
  · rw [List.mem_append] at hx
    exact hx.elim List.mem_of_mem_drop List.mem_of_mem_take
  · rw [at1 i hi, at1 j hj, h.mt _ _ (by split <;> omega) (by split <;> omega), md i hi, md j hj]
    congr 1
    refine decide_eq_decide.mpr ?_
    constructor
    · rintro ⟨a, b⟩
      exact ⟨fun z => a (by rw [z]), b⟩
    · rintro ⟨a, b⟩
      refine ⟨fun z => a ?_, b⟩
      split at z <;> split at z <;> omega


end K39

namespace K39
open PySem L2 PySem.Spec PyProof.Rows Ek
theorem meet_act {n : Nat} {gs : List Gt} {x y : Wd} (ok : ∀ g ∈ gs, g.ok n) (hx : WN n x) (hy : WN n y) : meetL (actL gs x).2 (actL gs y).2 = meetL x.2 y.2 := by
  have h := actL_mt ok hx hy
  rw [meet_iff 0 0, meet_iff 0 0 x.2 y.2]
  exact decide_eq_decide.mpr (by omega)

/-! ### what a table of gates leads a word to, line by line -/
theorem pms_rI {n : Nat} {m : List Lt} (h : m.length = n) : pms m (List.replicate n .I) = m := by
  rw [pms_comm]
  subst h
  induction m with
  | nil => rfl
  | cons a m ih =>
    show ml .I a :: pms (List.replicate m.length .I) m = a :: m
    rw [ih]; cases a <;> rfl
theorem pes_rI {n : Nat} (m : List Lt) : pes m (List.replicate n .I) = 0 := by
  induction m generalizing n with
  | nil => simp [pes]
  | cons a m ih =>
    cases n with
    | zero => simp [pes]
    | succ n =>
      have := ih (n := n)
      simp only [pes] at this
      simp only [pes, List.replicate_succ, List.zipWith_cons_cons, List.sum_cons]
      rw [this]
      cases a <;> rfl
theorem rI_getD (n k : Nat) : (List.replicate n Lt.I).getD k .I = .I := by
  rw [List.getD_eq_getElem?_getD, List.getElem?_replicate]; split <;> rfl
theorem tm_one {n k : Nat} {x : Wd} {c : Lt} (hx : WN n x) (hk : k < n) : tm x (oneAt n k c) = ((x.1 + ph (x.2.getD k .I) c) % 4, x.2.set k (ml (x.2.getD k .I) c)) := by
  have hl := hx.len
  have e : x.2 = x.2.set k (x.2.getD k .I) := (set_back (by omega)).symm
  have p1 : pms x.2 ((List.replicate n .I).set k c) = x.2.set k (ml (x.2.getD k .I) c) := by
    have := pms_set x.2 (List.replicate n .I) k (x.2.getD k .I) c
    rw [← e, pms_rI hl] at this
    exact this
  have p2 : pes x.2 ((List.replicate n .I).set k c) = ph (x.2.getD k .I) c := by
    have := pes_set x.2 (List.replicate n .I) k (x.2.getD k .I) c (by omega) (by simpa using hk)
    rw [← e, pes_rI, rI_getD] at this
    rw [this]
    cases x.2.getD k .I <;> simp [ph]
  unfold tm oneAt
  rw [p1, p2]
  simp
def idW (n : Nat) (e : Int) : Wd := (e, List.replicate n .I)
theorem tm_id {n : Nat} {x : Wd} {e : Int} (hx : WN n x) : tm x (idW n e) = ((x.1 + e) % 4, x.2) := by
  unfold tm idW
  rw [pms_rI hx.len, pes_rI]
  simp
theorem id_wn {n : Nat} {e : Int} (h0 : 0 ≤ e) (h3 : e ≤ 3) : WN n (idW n e) := ⟨h0, h3, by simp [idW]⟩
theorem act_id {n : Nat} {g : Gt} {e : Int} (ok : g.ok n) (h0 : 0 ≤ e) (h3 : e ≤ 3) : act g (idW n e) = idW n e := by
  have e4 : e % 4 = e := Int.emod_eq_of_lt h0 (by omega)
  unfold idW
  cases g with
  | w => rfl
  | one g a =>
    have ha : a < n := ok
    have l : l1 g .I = (0, .I) := by cases g <;> rfl
    have sb : (List.replicate n Lt.I).set a .I = List.replicate n .I := by
      have := set_back (l := List.replicate n Lt.I) (a := a) (by simpa using ha)
      rw [rI_getD] at this; exact this
    simp only [act, rI_getD, l, sb, Int.add_zero, e4]
  | two g a b =>
    obtain ⟨ha, hb, _⟩ := ok
    have l : l2 g .I .I = (0, .I, .I) := by cases g <;> rfl
    have sb : ∀ a, a < n → (List.replicate n Lt.I).set a .I = List.replicate n .I := fun a ha => by
      have := set_back (l := List.replicate n Lt.I) (a := a) (by simpa using ha)
      rw [rI_getD] at this; exact this
    simp only [act, rI_getD, l, sb a ha, sb b hb, Int.add_zero, e4]
theorem actL_id {n : Nat} {e : Int} (h0 : 0 ≤ e) (h3 : e ≤ 3) : ∀ {gs : List Gt}, (∀ g ∈ gs, g.ok n) → actL gs (idW n e) = idW n e
  | [], _ => rfl
  | g :: gs, ok => by
    show actL gs (act g (idW n e)) = _
    rw [act_id (ok g List.mem_cons_self) h0 h3]
    exact actL_id h0 h3 fun g h => ok g (List.mem_cons_of_mem _ h)
theorem actL_ph {n : Nat} {gs : List Gt} {e f : Int} {l : List Lt} (ok : ∀ g ∈ gs, g.ok n) (h0 : 0 ≤ e) (h3 : e ≤ 3) (hx : WN n (f, l)) : actL gs ((f + e) % 4, l) = (((actL gs (f, l)).1 + e) % 4, (actL gs (f, l)).2) := by
  have h1 := actL_tm (x := (f, l)) (y := idW n e) ok hx (id_wn h0 h3)
  rw [tm_id hx, actL_id h0 h3 ok, tm_id hx.actL] at h1
  exact h1
def pkw (l : List Lt) (n k : Nat) : List Lt := l.take k ++ List.replicate (n - k) .I
theorem pkw_len {l : List Lt} {n k : Nat} (hl : l.length = n) (hk : k ≤ n) : (pkw l n k).length = n := by
  unfold pkw; simp; omega
theorem pkw_0 {l : List Lt} {n : Nat} : pkw l n 0 = List.replicate n .I := by simp [pkw]
theorem pkw_n {l : List Lt} {n : Nat} (hl : l.length = n) : pkw l n n = l := by
  unfold pkw; rw [List.take_of_length_le (by omega)]; simp
theorem pkw_get {l : List Lt} {n k : Nat} (hl : l.length = n) (hk : k < n) : (pkw l n k).getD k .I = .I := by
  unfold pkw
  rw [List.getD_eq_getElem?_getD, List.getElem?_append_right (by simp; omega), List.getElem?_replicate]
  split <;> rfl
theorem pkw_set {l : List Lt} {n k : Nat} (hl : l.length = n) (hk : k < n) : (pkw l n k).set k (l.getD k .I) = pkw l n (k + 1) := by
  unfold pkw
  apply List.ext_getElem?
  intro j
  rw [List.getElem?_set]
  have ht : (l.take k).length = k := by simp; omega
  have ht1 : (l.take (k + 1)).length = k + 1 := by simp; omega
  by_cases h1 : k = j
  · subst h1
    rw [if_pos rfl, if_pos (by simp; omega), List.getElem?_append_left (by omega), List.getElem?_take, if_pos (by omega), List.getD_eq_getElem?_getD, List.getElem?_eq_getElem (by omega)]
    rfl
  · rw [if_neg h1]
    by_cases h2 : j < k
    · rw [List.getElem?_append_left (by omega), List.getElem?_append_left (by omega), List.getElem?_take, List.getElem?_take, if_pos h2, if_pos (by omega)]
    · rw [List.getElem?_append_right (by omega), List.getElem?_append_right (by omega), List.getElem?_replicate, List.getElem?_replicate, ht, ht1]
      by_cases h3 : j < n
      · rw [if_pos (by omega), if_pos (by omega)]
      · rw [if_neg (by omega), if_neg (by omega)]
/-- one more line -/
def stp (n : Nat) (ws : List Wd) (k : Nat) : Lt → Wd → Wd
  | .I, f => f
  | .X, f => tm f (wAt ws k)
  | .Y, f => tm (tm (tm f (idW n 1)) (wAt ws k)) (wAt ws (n + k))
  | .Z, f => tm f (wAt ws (n + k))
theorem tabL_at {n i : Nat} {gs : List Gt} (hi : i < 2 * n) : wAt (tabL n gs) i = actL gs (base n i) := wAt_map (n := n) hi
theorem base_x {n k : Nat} (hk : k < n) : base n k = oneAt n k .X := by unfold base; rw [Nat.mod_eq_of_lt hk, if_pos hk]
theorem base_z {n k : Nat} (hk : k < n) : base n (n + k) = oneAt n k .Z := by unfold base; rw [Nat.add_mod_left, Nat.mod_eq_of_lt hk, if_neg (by omega)]
theorem stp_tabL {n k : Nat} {gs : List Gt} {e : Int} {l : List Lt} (ok : ∀ g ∈ gs, g.ok n) (h0 : 0 ≤ e) (h3 : e ≤ 3) (hl : l.length = n) (hk : k < n) : stp n (tabL n gs) k (l.getD k .I) (actL gs (e, pkw l n k)) = actL gs (e, pkw l n (k + 1)) := by
  have wp : WN n (e, pkw l n k) := ⟨h0, h3, pkw_len hl (by omega)⟩
  have e4 : e % 4 = e := Int.emod_eq_of_lt h0 (by omega)
  have e1 : wAt (tabL n gs) k = actL gs (oneAt n k .X) := by rw [tabL_at (by omega), base_x hk]
  have e2 : wAt (tabL n gs) (n + k) = actL gs (oneAt n k .Z) := by rw [tabL_at (by omega), base_z hk]
  have ps := pkw_set hl hk
  have pg := pkw_get hl hk
  have w1 : ∀ c, WN n (oneAt n k c) := fun c => one_wu.wn
  cases hc : l.getD k .I with
  | I =>
    rw [hc] at ps
    have : pkw l n (k + 1) = pkw l n k := by
      rw [← ps]
      have := set_back (l := pkw l n k) (a := k) (by rw [pkw_len hl (by omega)]; exact hk)
      rw [pg] at this; exact this
    rw [this]; rfl
  | X =>
    rw [hc] at ps
    show tm _ (wAt _ k) = _
    rw [e1, ← actL_tm ok wp (w1 _), tm_one wp hk]
    simp only [pg]
    rw [show ml .I .X = .X from rfl, show ph .I .X = 0 from rfl, Int.add_zero, e4, ps]
  | Z =>
    rw [hc] at ps
    show tm _ (wAt _ (n + k)) = _
    rw [e2, ← actL_tm ok wp (w1 _), tm_one wp hk]
    simp only [pg]
    rw [show ml .I .Z = .Z from rfl, show ph .I .Z = 0 from rfl, Int.add_zero, e4, ps]
  | Y =>
    rw [hc] at ps
    show tm (tm (tm _ (idW n 1)) (wAt _ k)) (wAt _ (n + k)) = _
    have wi := id_wn (n := n) (e := 1) (by decide) (by decide)
    have wq := wp.tm wi
    have wr := wq.tm (w1 .X)
    rw [e1, e2]
    have i1 : idW n 1 = actL gs (idW n 1) := (actL_id (by decide) (by decide) ok).symm
    rw [i1, ← actL_tm ok wp wi, ← actL_tm ok wq (w1 _), ← actL_tm ok wr (w1 _)]
    congr 1
    rw [tm_id wp]
    have wq' : WN n ((e + 1) % 4, pkw l n k) := ⟨(mod3 _).1, (mod3 _).2, wp.len⟩
    rw [tm_one wq' hk]
    simp only [pg]
    have wr' : WN n (((e + 1) % 4 + ph .I .X) % 4, (pkw l n k).set k (ml .I .X)) := ⟨(mod3 _).1, (mod3 _).2, by have := wp.len; simpa using this⟩
    rw [tm_one wr' hk]
    have gs1 : ((pkw l n k).set k (ml .I .X)).getD k .I = .X := getD_set_eq (by rw [pkw_len hl (by omega)]; exact hk)
    simp only [gs1, List.set_set]
    rw [show ml .X .Z = .Y from rfl, ps]
    refine Prod.ext ?_ rfl
    simp only [ph]
    omega
/-! signs, by gates ahead -/
theorem flip_one {n i0 : Nat} (hi0 : i0 < 2 * n) (h1 : 1 ≤ n) : ∃ g : Gt, g.ok n ∧ ∀ i, i < 2 * n → act g (base n i) = (if i = i0 then 2 else 0, (base n i).2) := by
  have hm : ∀ i, i % n < n := fun i => Nat.mod_lt _ (by omega)
  have gen : ∀ (g : G1) (a : Nat), a < n → (∀ c, (l1 g c).2 = c) → ∀ i, act (.one g a) (base n i) = ((l1 g (if a = i % n then (if i < n then .X else .Z) else .I)).1 % 4, (base n i).2) := fun g a ha hg i => by
    have hb : (base n i).2.getD a .I = if a = i % n then (if i < n then .X else .Z) else .I := by
      unfold base oneAt
      simp only
      by_cases h : a = i % n
      · rw [if_pos h, h, getD_set_eq (by simpa using hm i)]
      · rw [if_neg h, getD_set_ne (Ne.symm h), rI_getD]
    have sb := set_back (l := (base n i).2) (a := a) (by simpa [base, oneAt] using ha)
    simp only [act, hg, sb]
    rw [hb]
    refine Prod.ext ?_ rfl
    show ((0 : Int) + _) % 4 = _ % 4
    rw [Int.zero_add]
  by_cases h : i0 < n
  · refine ⟨.one .z i0, h, fun i hi => ?_⟩
    rw [gen .z i0 h (fun c => by cases c <;> rfl)]
    refine Prod.ext ?_ rfl
    simp only
    by_cases hi' : i < n
    · rw [Nat.mod_eq_of_lt hi', if_pos hi']
      by_cases z : i = i0
      · rw [if_pos z, if_pos z.symm]; rfl
      · rw [if_neg z, if_neg (Ne.symm z)]; rfl
    · rw [if_neg hi', if_neg (show ¬ i = i0 by omega)]
      split <;> rfl
  · refine ⟨.one .x (i0 - n), show i0 - n < n by omega, fun i hi => ?_⟩
    rw [gen .x (i0 - n) (by omega) (fun c => by cases c <;> rfl)]
    refine Prod.ext ?_ rfl
    simp only
    by_cases hi' : i < n
    · rw [if_pos hi', if_neg (show ¬ i = i0 by omega)]
      split <;> rfl
    · rw [Nat.mod_eq_sub_mod (by omega), Nat.mod_eq_of_lt (by omega), if_neg hi']
      by_cases z : i = i0
      · rw [if_pos z, if_pos (by omega)]; rfl
      · rw [if_neg z, if_neg (by omega)]; rfl
theorem sg_gates {n : Nat} {gs : List Gt} {f : Nat → Int} (ok : ∀ g ∈ gs, g.ok n) (hf : ∀ i, 0 ≤ f i ∧ f i ≤ 3 ∧ f i % 2 = 0) (h1 : 1 ≤ n) : ∃ hs : List Gt, (∀ g ∈ hs, g.ok n) ∧ sgL n gs f = tabL n hs := by
  have key : ∀ m, m ≤ 2 * n → ∃ hs : List Gt, (∀ g ∈ hs, g.ok n) ∧ ∀ i, i < 2 * n → actL hs (base n i) = if i < m then (f i, (actL gs (base n i)).2) else actL gs (base n i) := fun m => by
    induction m with
    | zero => exact fun _ => ⟨gs, ok, fun i _ => by rw [if_neg (by omega)]⟩
    | succ m ih =>
      intro hm
      obtain ⟨hs, okh, hh⟩ := ih (by omega)
      have wm := (one_wu (n := n) (a := m % n) (c := if m < n then .X else .Z)).actL (gs := gs)
      have hu := wm.up
      have h0 := wm.wn.lo
      have h3 := wm.wn.hi
      obtain ⟨f0, f3, f2⟩ := hf m
      by_cases hz : f m = (actL gs (base n m)).1
      · refine ⟨hs, okh, fun i hi => ?_⟩
        rw [hh i hi]
        by_cases z : i = m
        · subst z
          rw [if_neg (by omega), if_pos (by omega), hz]
        · by_cases y : i < m
          · rw [if_pos y, if_pos (by omega)]
          · rw [if_neg y, if_neg (by omega)]
      · obtain ⟨g, okg, hg⟩ := flip_one (n := n) (i0 := m) (by omega) h1
        refine ⟨g :: hs, fun g' h => ?_, fun i hi => ?_⟩
        · rcases List.mem_cons.mp h with rfl | h
          · exact okg
          · exact okh g' h
        · show actL hs (act g (base n i)) = _
          rw [hg i hi]
          have ph : ((if i = m then (2 : Int) else 0), (base n i).2) = ((0 + if i = m then (2 : Int) else 0) % 4, (base n i).2) := by
            split <;> rfl
          rw [ph]
          have wb : WN n (0, (base n i).2) := (one_wu (n := n) (a := i % n) (c := if i < n then .X else .Z)).wn
          rw [actL_ph okh (by split <;> decide) (by split <;> decide) wb]
          have eb : ((0 : Int), (base n i).2) = base n i := rfl
          rw [eb, hh i hi]
          by_cases z : i = m
          · subst z
            rw [if_pos rfl, if_neg (Nat.lt_irrefl _), if_pos (Nat.lt_succ_self _)]
            refine Prod.ext ?_ rfl
            show ((actL gs (base n i)).1 + 2) % 4 = f i
            change (actL gs (base n i)).1 % 2 = 0 at hu
            change 0 ≤ (actL gs (base n i)).1 at h0
            change (actL gs (base n i)).1 ≤ 3 at h3
            omega
          · rw [if_neg z]
            by_cases y : i < m
            · rw [if_pos y, if_pos (by omega)]
              obtain ⟨a0, a3, _⟩ := hf i
              refine Prod.ext ?_ rfl
              simp only
              omega
            · rw [if_neg y, if_neg (by omega)]
              have wi := (one_wu (n := n) (a := i % n) (c := if i < n then .X else .Z)).actL (gs := gs)
              have i0 := wi.wn.lo
              have i3 := wi.wn.hi
              change 0 ≤ (actL gs (base n i)).1 at i0
              change (actL gs (base n i)).1 ≤ 3 at i3
              refine Prod.ext ?_ rfl
              simp only
              omega
  obtain ⟨hs, okh, hh⟩ := key (2 * n) (Nat.le_refl _)
  refine ⟨hs, okh, ?_⟩
  unfold sgL tabL
  apply List.map_congr_left
  intro i hi
  have := List.mem_range.mp hi
  rw [hh i this, if_pos this]
/-! the way back, from the other side -/
theorem undo2 {n : Nat} {gs : List Gt} {x : Wd} (ok : ∀ g ∈ gs, g.ok n) (hx : WN n x) : actL (undo (undo gs)) x = actL gs x := by
  have h := undo_back (undo_ok ok) (hx.actL (gs := gs))
  rw [undo_back ok hx] at h
  exact h
theorem undo_fwd {n : Nat} {gs : List Gt} {x : Wd} (ok : ∀ g ∈ gs, g.ok n) (hx : WN n x) : actL gs (actL (undo gs) x) = x := by
  have h := undo_back (undo_ok ok) hx
  rw [undo2 ok hx.actL] at h
  exact h
theorem tabL_congr {n : Nat} {gs hs : List Gt} (h : ∀ x, WN n x → actL gs x = actL hs x) : tabL n gs = tabL n hs := by
  unfold tabL
  exact List.map_congr_left fun i _ => h _ one_wu.wn


end K39

namespace K39
open PySem L2 PySem.Spec PyProof.Rows Ek
theorem enum_wd : ∀ (l pre : List Lt), enumD (pre.length : Nat) (l.map fun a => PyData.str (s1 a)) = (List.range' pre.length l.length).map fun k => .tuple [.int (k : Nat), .str (s1 ((pre ++ l).getD k .I))]
  | [], pre => rfl
  | x :: l, pre => by
    have ih := enum_wd l (pre ++ [x])
    rw [List.length_append, List.length_singleton, List.append_assoc, List.singleton_append] at ih
    show .tuple [.int _, .str (s1 x)] :: enumD ((pre.length : Nat) + 1) (l.map fun a => PyData.str (s1 a)) = _
    rw [List.length_cons, List.range'_succ, List.map_cons]
    have e : ((pre.length : Nat) : Int) + 1 = ((pre.length + 1 : Nat) : Int) := by omega
    rw [e, ih]
    simp
theorem enum_wd0 {l : List Lt} : enumD 0 (chars (wd l)) = (List.range l.length).map fun k => .tuple [.int (k : Nat), .str (s1 (l.getD k .I))] := by
  have := enum_wd l []
  rw [wd_chars, List.range_eq_range']
  exact this
theorem range_pre {n : Nat} {pre post : List Nat} {k : Nat} (h : List.range n = pre ++ k :: post) : pre.length = k ∧ k < n := by
  have hl := congrArg List.length h
  simp at hl
  have e : (List.range n)[pre.length]? = some k := by rw [h]; simp
  rw [List.getElem?_range (by omega)] at e
  have := Option.some.inj e
  omega
theorem tabL_wn {n : Nat} {gs : List Gt} : ∀ x ∈ tabL n gs, WN n x := fun x hx => by
  obtain ⟨i, _, rfl⟩ := List.mem_map.mp hx
  exact one_wu.actL.wn
theorem tabL_len {n : Nat} {gs : List Gt} : (tabL n gs).length = 2 * n := by simp [tabL]
theorem prod_wv {n : Nat} {x y : Wd} (hx : WN n x) (hy : WN n y) (hn : n ≤ 100) : fs_product_of.run [wv x, wv y] = some (.d (wv (tm x y)), []) := by
  have h1 := hx.len
  have h2 := hy.len
  exact product_of_run (by omega) (by omega)
theorem tb_at {n i : Nat} {gs : List Gt} (hi : i < 2 * n) : atI ((tabL n gs).map wv) (i : Nat) = some (wv (wAt (tabL n gs) i)) := wv_at (by rw [tabL_len]; exact hi)
theorem led_by_table_run {n : Nat} {gs : List Gt} {x : Wd} (ok : ∀ g ∈ gs, g.ok n) (hx : WN n x) (hn : n ≤ 100) : fs_led_by_table.run [tb (tabL n gs), wv x] = some (.d (wv (actL gs x)), []) := by
  obtain ⟨e, l⟩ := x
  have hl := hx.len
  have h0 := hx.lo
  have h3 := hx.hi
  simp only at hl h0 h3
  have h : Wq (fs_led_by_table.run [tb (tabL n gs), wv (e, l)]) fun r ys => r = .d (wv (actL gs (e, l))) ∧ ys = [] := by
    have x0 : dIx (wv (e, l)) (.int 0) = some (.d (.int e)) := rfl
    have x1 : dIx (wv (e, l)) (.int 1) = some (.d (.str (wd l))) := rfl
    have ewv : ∀ (e : Int) (l : List Lt), PyData.tuple [.int e, .str (wd l)] = wv (e, l) := fun _ _ => rfl
    repeat' (first | (simp only [word_snoc, ↓EkS.pre, EkS.post, ↓K39TS.pre, K39TS.post, List.length_map, List.length_set, Int.reduceLT, Int.reduceLE, Int.reduceNeg, Int.reducePow, Int.reduceToNat, Nat.reduceLT, Nat.reducePow, Nat.reduceAdd, Nat.reduceLeDiff, Nat.reduceSub, Nat.reduceBEq, Int.reduceAdd, Int.reduceSub, Int.reduceMul, Int.reduceEq, Nat.reduceEqDiff, ↓rn_led_by_table, sh_led_by_table, x0, x1, wd_len, hl, Int.toNat_natCast, wd_rep, ewv]) | (with_reducible refine br (fun _ => ?_) (fun _ => ?_)) | ((with_reducible refine ck ?_ ?_); · first | decide +kernel | omega | assumption | exact .inl (.inr (by decide)) | exact .inl (.inl (by omega)) | (simp only [wd_len, sx_len, List.length_cons, List.length_nil]; omega)))
    rw [enum_wd0, hl]
    have si : (e, List.replicate n Lt.I) = actL gs (e, pkw l n 0) := by
      rw [pkw_0]; exact (actL_id h0 h3 ok).symm
    rw [si]
    refine for_pre (List.range n) _ (fun pre => [some (.d (tb (tabL n gs))), some (.d (wv (e, l))), some (.d (.int n)), some (.d (wv (actL gs (e, pkw l n pre.length)))), none, none]) rfl (fun pre k post hp => ?_) ?_
    · obtain ⟨hk, hkn⟩ := range_pre hp
      rw [hk]
      have st := stp_tabL (k := k) ok h0 h3 hl hkn
      have wA : WN n (actL gs (e, pkw l n k)) := WN.actL ⟨h0, h3, pkw_len hl (by omega)⟩
      have u1 : WN n (wAt (tabL n gs) k) := tabL_wn _ (wAt_mem (by rw [tabL_len]; omega))
      have u2 : WN n (wAt (tabL n gs) (n + k)) := tabL_wn _ (wAt_mem (by rw [tabL_len]; omega))
      have wI : WN n (idW n 1) := id_wn (by decide) (by decide)
      have ew1 : wv (1, List.replicate n Lt.I) = wv (idW n 1) := rfl
      have cnk : (n : Int) + k = ((n + k : Nat) : Int) := by omega
      have t1 : dIx (tb (tabL n gs)) (.int (k : Nat)) = some (.d (wv (wAt (tabL n gs) k))) := by
        show (atI ((tabL n gs).map wv) (k : Nat)).map R.d = _
        rw [tb_at (by omega)]; rfl
      have t2 : dIx (tb (tabL n gs)) (.int ((n + k : Nat) : Int)) = some (.d (wv (wAt (tabL n gs) (n + k)))) := by
        show (atI ((tabL n gs).map wv) ((n + k : Nat) : Int)).map R.d = _
        rw [tb_at (by omega)]; rfl
      have p1 := prod_wv wA u1 hn
      have p2 := prod_wv wA u2 hn
      have p3 := prod_wv wA wI hn
      have p4 := prod_wv (wA.tm wI) u1 hn
      have p5 := prod_wv ((wA.tm wI).tm u1) u2 hn
      have up : (pre ++ [k]).length = k + 1 := by simp [hk]
      rw [up, ← st]
      generalize actL gs (e, pkw l n k) = A at *
      cases hc : l.getD k .I
      all_goals
        repeat' (first | (simp only [word_snoc, ↓EkS.pre, EkS.post, ↓K39TS.pre, K39TS.post, List.length_map, List.length_set, Int.reduceLT, Int.reduceLE, Int.reduceNeg, Int.reducePow, Int.reduceToNat, Nat.reduceLT, Nat.reducePow, Nat.reduceAdd, Nat.reduceLeDiff, Nat.reduceSub, Nat.reduceBEq, Int.reduceAdd, Int.reduceSub, Int.reduceMul, Int.reduceEq, Nat.reduceEqDiff, lb_led_by_table_1, hc, s1, cd, sx_inj, in_sign, List.mem_cons, List.not_mem_nil, or_false, or_self, nl_c, nl_0, nl_1, nl_2, Int.toNat_natCast, wd_rep, ewv, ew1, cnk, t1, t2, p1, p2, p3, p4, p5]) | (with_reducible refine br (fun _ => ?_) (fun _ => ?_)) | ((with_reducible refine ck ?_ ?_); · first | decide +kernel | omega | assumption | exact .inl (.inr (by decide)) | exact .inl (.inl (by omega)) | (simp only [wd_len, sx_len, List.length_cons, List.length_nil]; omega)))
        try rfl
    · rw [List.length_range, pkw_n hl]
      repeat' (first | (simp only [word_snoc, ↓EkS.pre, EkS.post, ↓K39TS.pre, K39TS.post, List.length_map, List.length_set, Int.reduceLT, Int.reduceLE, Int.reduceNeg, Int.reducePow, Int.reduceToNat, Nat.reduceLT, Nat.reducePow, Nat.reduceAdd, Nat.reduceLeDiff, Nat.reduceSub, Nat.reduceBEq, Int.reduceAdd, Int.reduceSub, Int.reduceMul, Int.reduceEq, Nat.reduceEqDiff]) | (with_reducible refine br (fun _ => ?_) (fun _ => ?_)) | ((with_reducible refine ck ?_ ?_); · first | decide +kernel | omega | assumption | exact .inl (.inr (by decide)) | exact .inl (.inl (by omega)) | skip))
  obtain ⟨r, ys, e, rfl, rfl⟩ := h.ex
  exact e


end K39

namespace K39
open PySem L2 PySem.Spec PyProof.Rows Ek
theorem tabL_wu {n : Nat} {gs : List Gt} : ∀ x ∈ tabL n gs, WU n x := fun x hx => by
  obtain ⟨i, _, rfl⟩ := List.mem_map.mp hx
  exact one_wu.actL
theorem is_tabL {n : Nat} {gs : List Gt} (ok : ∀ g ∈ gs, g.ok n) (h1 : 1 ≤ n) (hn : n ≤ 100) : fs_is_table.run [tb (tabL n gs)] = some (.d (.bool true), []) := by
  have := is_table_run h1 hn tabL_len (tabL_wu (gs := gs))
  rw [(tabL_tab ok h1).is] at this
  exact this
theorem check_tabL {n : Nat} {gs : List Gt} (ok : ∀ g ∈ gs, g.ok n) (h1 : 1 ≤ n) (hn : n ≤ 100) : fs_check_table.run [tb (tabL n gs)] = some (.d .none, []) := by
  have h : Wq (fs_check_table.run [tb (tabL n gs)]) fun r ys => r = .d .none ∧ ys = [] := by
    repeat' (first | (simp only [word_snoc, ↓EkS.pre, EkS.post, ↓K39TS.pre, K39TS.post, List.length_map, List.length_set, Int.reduceLT, Int.reduceLE, Int.reduceNeg, Int.reducePow, Int.reduceToNat, Nat.reduceLT, Nat.reducePow, Nat.reduceAdd, Nat.reduceLeDiff, Nat.reduceSub, Nat.reduceBEq, Int.reduceAdd, Int.reduceSub, Int.reduceMul, Int.reduceEq, Nat.reduceEqDiff, ↓rn_check_table, sh_check_table, is_tabL ok h1 hn]) | (with_reducible refine br (fun _ => ?_) (fun _ => ?_)) | ((with_reducible refine ck ?_ ?_); · first | decide +kernel | omega | assumption | exact .inl (.inr (by decide)) | exact .inl (.inl (by omega)) | skip))
  obtain ⟨r, ys, e, rfl, rfl⟩ := h.ex
  exact e
theorem composed_run {n : Nat} {gs hs : List Gt} (ok : ∀ g ∈ gs, g.ok n) (ok' : ∀ g ∈ hs, g.ok n) (h1 : 1 ≤ n) (hn : n ≤ 100) : fs_composed.run [tb (tabL n gs), tb (tabL n hs)] = some (.d (tb (tabL n (gs ++ hs))), []) := by
  have h : Wq (fs_composed.run [tb (tabL n gs), tb (tabL n hs)]) fun r ys => r = .d (tb (tabL n (gs ++ hs))) ∧ ys = [] := by
    have c1 := check_tabL ok h1 hn
    have c2 := check_tabL ok' h1 hn
    have lb := fun (w : Wd) (hw : WN n w) => led_by_table_run ok' hw hn
    unfold tb at c1 c2 lb ⊢
    repeat' (first | (simp only [word_snoc, ↓EkS.pre, EkS.post, ↓K39TS.pre, K39TS.post, List.length_map, List.length_set, Int.reduceLT, Int.reduceLE, Int.reduceNeg, Int.reducePow, Int.reduceToNat, Nat.reduceLT, Nat.reducePow, Nat.reduceAdd, Nat.reduceLeDiff, Nat.reduceSub, Nat.reduceBEq, Int.reduceAdd, Int.reduceSub, Int.reduceMul, Int.reduceEq, Nat.reduceEqDiff, ↓rn_composed, sh_composed, ↓rn_check_two_tables, sh_check_two_tables, ↓rn_composed_of, sh_composed_of, c1, c2, tabL_len]) | (with_reducible refine br (fun _ => ?_) (fun _ => ?_)) | ((with_reducible refine ck ?_ ?_); · first | decide +kernel | omega | assumption | exact .inl (.inr (by decide)) | exact .inl (.inl (by omega)) | (simp only [tabL_len]; omega)))
    refine lc_all (tabL n gs) _ (fun w => wv (actL hs w)) (by rw [tabL_len]; omega) (fun w hw => ?_) ?_
    · have lw := lb w (tabL_wn w hw)
      repeat' (first | (simp only [word_snoc, ↓EkS.pre, EkS.post, ↓K39TS.pre, K39TS.post, List.length_map, List.length_set, Int.reduceLT, Int.reduceLE, Int.reduceNeg, Int.reducePow, Int.reduceToNat, Nat.reduceLT, Nat.reducePow, Nat.reduceAdd, Nat.reduceLeDiff, Nat.reduceSub, Nat.reduceBEq, Int.reduceAdd, Int.reduceSub, Int.reduceMul, Int.reduceEq, Nat.reduceEqDiff, ce_composed_of_1, lw]) | (with_reducible refine br (fun _ => ?_) (fun _ => ?_)) | ((with_reducible refine ck ?_ ?_); · first | decide +kernel | omega | assumption | exact .inl (.inr (by decide)) | exact .inl (.inl (by omega)) | skip))
    · repeat' (first | (simp only [word_snoc, ↓EkS.pre, EkS.post, ↓K39TS.pre, K39TS.post, List.length_map, List.length_set, Int.reduceLT, Int.reduceLE, Int.reduceNeg, Int.reducePow, Int.reduceToNat, Nat.reduceLT, Nat.reducePow, Nat.reduceAdd, Nat.reduceLeDiff, Nat.reduceSub, Nat.reduceBEq, Int.reduceAdd, Int.reduceSub, Int.reduceMul, Int.reduceEq, Nat.reduceEqDiff]) | (with_reducible refine br (fun _ => ?_) (fun _ => ?_)) | ((with_reducible refine ck ?_ ?_); · first | decide +kernel | omega | assumption | exact .inl (.inr (by decide)) | exact .inl (.inl (by omega)) | skip))
      unfold tabL
      rw [List.map_map, List.map_map]
      refine congrArg (fun l => R.d (.tuple l)) (List.map_congr_left fun i _ => ?_)
      simp only [Function.comp, actL_app]
  obtain ⟨r, ys, e, rfl, rfl⟩ := h.ex
  exact e
theorem meet_one {n k : Nat} {c : Lt} {m : List Lt} (hm : m.length = n) (hk : k < n) : meetL (oneAt n k c).2 m = decide (ph c (m.getD k .I) % 4 = ph (m.getD k .I) c % 4) := by
  have e : m = m.set k (m.getD k .I) := (set_back (by omega)).symm
  have p1 : pes ((List.replicate n .I).set k c) m = ph c (m.getD k .I) := by
    have := pes_set (List.replicate n .I) m k c (m.getD k .I) (by simpa using hk) (by omega)
    rw [← e, pes_I, rI_getD] at this
    rw [this]
    cases m.getD k .I <;> simp [ph]
  have p2 : pes m ((List.replicate n .I).set k c) = ph (m.getD k .I) c := by
    have := pes_set m (List.replicate n .I) k (m.getD k .I) c (by omega) (by simpa using hk)
    rw [← e, pes_rI, rI_getD] at this
    rw [this]
    cases m.getD k .I <;> simp [ph]
  rw [meet_iff 0 0]
  unfold oneAt
  rw [p1, p2]
  simp
theorem undone_letters_run {n : Nat} {gs : List Gt} {w : Wd} (ok : ∀ g ∈ gs, g.ok n) (hw : WN n w) (h1 : 1 ≤ n) (hn : n ≤ 100) : fs_undone_letters.run [tb (tabL n gs), wv w] = some (.d (.str (wd (actL (undo gs) w).2)), []) := by
  have h : Wq (fs_undone_letters.run [tb (tabL n gs), wv w]) fun r ys => r = .d (.str (wd (actL (undo gs) w).2)) ∧ ys = [] := by
    have wy : WN n (actL (undo gs) w) := hw.actL
    have ew : actL gs (actL (undo gs) w) = w := undo_fwd ok hw
    have hl := wy.len
    have hwl := hw.len
    have d2 : ((2 * n : Nat) : Int) / 2 = (n : Nat) := by omega
    have mt : ∀ k c, k < n → meetL (actL gs (oneAt n k c)).2 w.2 = decide (ph c ((actL (undo gs) w).2.getD k .I) % 4 = ph ((actL (undo gs) w).2.getD k .I) c % 4) := fun k c hk => by
      rw [← meet_one hl hk, ← meet_act ok one_wu.wn wy, ew]
    generalize actL (undo gs) w = y at *
    unfold tb
    repeat' (first | (simp only [word_snoc, ↓EkS.pre, EkS.post, ↓K39TS.pre, K39TS.post, List.length_map, List.length_set, Int.reduceLT, Int.reduceLE, Int.reduceNeg, Int.reducePow, Int.reduceToNat, Nat.reduceLT, Nat.reducePow, Nat.reduceAdd, Nat.reduceLeDiff, Nat.reduceSub, Nat.reduceBEq, Int.reduceAdd, Int.reduceSub, Int.reduceMul, Int.reduceEq, Nat.reduceEqDiff, ↓rn_undone_letters, sh_undone_letters, tabL_len, d2]) | (with_reducible refine br (fun _ => ?_) (fun _ => ?_)) | ((with_reducible refine ck ?_ ?_); · first | decide +kernel | omega | assumption | exact .inl (.inr (by decide)) | exact .inl (.inl (by omega)) | first | omega | exact ⟨by decide, by decide⟩ | exact okR_nat (by omega)))
    rw [range_map]
    refine for_pre (List.range n) _ (fun pre => [some (.d (.tuple ((tabL n gs).map wv))), some (.d (wv w)), some (.d (.int n)), some (.own ((y.2.take pre.length).map fun c => .str (s1 c))), none, none, none]) rfl (fun pre k post hp => ?_) ?_
    · obtain ⟨hk, hkn⟩ := range_pre hp
      rw [hk]
      have cnk : (n : Int) + k = ((n + k : Nat) : Int) := by omega
      have t1 : atI ((tabL n gs).map wv) (k : Nat) = some (wv (actL gs (oneAt n k .X))) := by rw [tb_at (by omega), tabL_at (by omega), base_x hkn]
      have t2 : atI ((tabL n gs).map wv) ((n + k : Nat) : Int) = some (wv (actL gs (oneAt n k .Z))) := by rw [tb_at (by omega), tabL_at (by omega), base_z hkn]
      have l1 : ∀ c, (actL gs (oneAt n k c)).2.length = n := fun c => (one_wu (n := n) (a := k) (c := c)).actL.wn.len
      have m1 : ∀ c, fs_meets_of.run [wv (actL gs (oneAt n k c)), wv w] = some (.d (.bool (meetL (actL gs (oneAt n k c)).2 w.2)), []) := fun c => meets_of_run (by rw [l1]; omega) (by omega)
      have mX := mt k .X hkn
      have mZ := mt k .Z hkn
      have k0 : atI (sx [73, 88, 90, 89]).cps.toList 0 = some 73 := rfl
      have k1 : atI (sx [73, 88, 90, 89]).cps.toList 1 = some 88 := rfl
      have k2 : atI (sx [73, 88, 90, 89]).cps.toList 2 = some 90 := rfl
      have k3 : atI (sx [73, 88, 90, 89]).cps.toList 3 = some 89 := rfl
      have up : (y.2.take (pre ++ [k]).length).map (fun c => PyData.str (s1 c)) = (y.2.take k).map (fun c => PyData.str (s1 c)) ++ [.str (s1 (y.2.getD k .I))] := by
        rw [show (pre ++ [k]).length = k + 1 by simp [hk], List.take_add_one, List.getElem?_eq_getElem (by omega), List.map_append, List.getD_eq_getElem?_getD, List.getElem?_eq_getElem (by omega)]
        rfl
      rw [up]
      generalize y.2.getD k .I = c at *
      cases c
      all_goals
        repeat' (first | (simp only [word_snoc, ↓EkS.pre, EkS.post, ↓K39TS.pre, K39TS.post, List.length_map, List.length_set, Int.reduceLT, Int.reduceLE, Int.reduceNeg, Int.reducePow, Int.reduceToNat, Nat.reduceLT, Nat.reducePow, Nat.reduceAdd, Nat.reduceLeDiff, Nat.reduceSub, Nat.reduceBEq, Int.reduceAdd, Int.reduceSub, Int.reduceMul, Int.reduceEq, Nat.reduceEqDiff, lb_undone_letters_1, cnk, t1, t2, m1, mX, mZ, ph, if_true, if_false, Int.reduceMod, Int.reduceEq, k0, k1, k2, k3, sx_one]) | (with_reducible refine br (fun _ => ?_) (fun _ => ?_)) | ((with_reducible refine ck ?_ ?_); · first | decide +kernel | omega | assumption | exact .inl (.inr (by decide)) | exact .inl (.inl (by omega)) | first | omega | exact .inl (.inl (by decide)) | (simp only [List.length_map, List.length_take, sx_len, List.length_cons, List.length_nil]; omega)))
        all_goals rfl
    · rw [List.length_range, List.take_of_length_le (by omega)]
      repeat' (first | (simp only [word_snoc, ↓EkS.pre, EkS.post, ↓K39TS.pre, K39TS.post, List.length_map, List.length_set, Int.reduceLT, Int.reduceLE, Int.reduceNeg, Int.reducePow, Int.reduceToNat, Nat.reduceLT, Nat.reducePow, Nat.reduceAdd, Nat.reduceLeDiff, Nat.reduceSub, Nat.reduceBEq, Int.reduceAdd, Int.reduceSub, Int.reduceMul, Int.reduceEq, Nat.reduceEqDiff, join_s1]) | (with_reducible refine br (fun _ => ?_) (fun _ => ?_)) | ((with_reducible refine ck ?_ ?_); · first | decide +kernel | omega | assumption | exact .inl (.inr (by decide)) | exact .inl (.inl (by omega)) | (simp only [List.length_map]; omega)))
  obtain ⟨r, ys, e, rfl, rfl⟩ := h.ex
  exact e
theorem undone_phase {n : Nat} {gs : List Gt} {w : Wd} (ok : ∀ g ∈ gs, g.ok n) (hw : WU n w) (h0 : w.1 = 0) : (actL gs (0, (actL (undo gs) w).2)).1 = (actL (undo gs) w).1 := by
  have wy : WU n (actL (undo gs) w) := hw.actL
  have ew : actL gs (actL (undo gs) w) = w := undo_fwd ok hw.wn
  generalize actL (undo gs) w = y at *
  have y0 := wy.wn.lo
  have y3 := wy.wn.hi
  have yu := wy.up
  have wz : WN n (0, y.2) := ⟨Int.le_refl 0, show (0 : Int) ≤ 3 by decide, wy.wn.len⟩
  have h := actL_ph (gs := gs) ok y0 y3 wz
  have a0 := (wz.actL (gs := gs)).lo
  have a3 := (wz.actL (gs := gs)).hi
  have ey : ((0 + y.1) % 4, y.2) = y := Prod.ext (by simp only; omega) rfl
  rw [ey, ew] at h
  have := congrArg Prod.fst h
  simp only at this
  omega
theorem table_undone_run {n : Nat} {gs : List Gt} (ok : ∀ g ∈ gs, g.ok n) (h1 : 1 ≤ n) (hn : n ≤ 100) : fs_table_undone.run [tb (tabL n gs)] = some (.d (tb (tabL n (undo gs))), []) := by
  have h : Wq (fs_table_undone.run [tb (tabL n gs)]) fun r ys => r = .d (tb (tabL n (undo gs))) ∧ ys = [] := by
    have c1 := check_tabL ok h1 hn
    have ul := fun (w : Wd) (hw : WN n w) => undone_letters_run ok hw h1 hn
    have lb := fun (w : Wd) (hw : WN n w) => led_by_table_run ok hw hn
    have d2 : ((2 * n : Nat) : Int) / 2 = (n : Nat) := by omega
    unfold tb at c1 ul lb ⊢
    repeat' (first | (simp only [word_snoc, ↓EkS.pre, EkS.post, ↓K39TS.pre, K39TS.post, List.length_map, List.length_set, Int.reduceLT, Int.reduceLE, Int.reduceNeg, Int.reducePow, Int.reduceToNat, Nat.reduceLT, Nat.reducePow, Nat.reduceAdd, Nat.reduceLeDiff, Nat.reduceSub, Nat.reduceBEq, Int.reduceAdd, Int.reduceSub, Int.reduceMul, Int.reduceEq, Nat.reduceEqDiff, ↓rn_table_undone, sh_table_undone, ↓rn_undone_table, sh_undone_table, c1, tabL_len, d2, ones_run h1 hn]) | (with_reducible refine br (fun _ => ?_) (fun _ => ?_)) | ((with_reducible refine ck ?_ ?_); · first | decide +kernel | omega | assumption | exact .inl (.inr (by decide)) | exact .inl (.inl (by omega)) | first | omega | exact ⟨by decide, by decide⟩ | (simp only [List.length_map]; omega)))
    refine for_pre ((List.range (2 * n)).map (base n)) _ (fun pre => [some (.d (.tuple ((tabL n gs).map wv))), some (.own ((pre.map fun x => actL (undo gs) x).map wv)), none, none]) rfl (fun pre w post hp => ?_) ?_
    · have hm : w ∈ (List.range (2 * n)).map (base n) := by rw [hp]; simp
      obtain ⟨i, hi, rfl⟩ := List.mem_map.mp hm
      have hlen := congrArg List.length hp
      simp at hlen
      have wu : WU n (base n i) := one_wu
      have e1 := ul _ wu.wn
      have e2 := lb (0, (actL (undo gs) (base n i)).2) ⟨Int.le_refl 0, show (0 : Int) ≤ 3 by decide, wu.wn.actL.len⟩
      have e3 := undone_phase ok wu rfl
      have e4 : wv ((0 : Int), (actL (undo gs) (base n i)).2) = .tuple [.int 0, .str (wd (actL (undo gs) (base n i)).2)] := rfl
      rw [e4] at e2
      have e5 : ∀ x : Wd, dIx (wv x) (.int 0) = some (.d (.int x.1)) := fun _ => rfl
      repeat' (first | (simp only [word_snoc, ↓EkS.pre, EkS.post, ↓K39TS.pre, K39TS.post, List.length_map, List.length_set, Int.reduceLT, Int.reduceLE, Int.reduceNeg, Int.reducePow, Int.reduceToNat, Nat.reduceLT, Nat.reducePow, Nat.reduceAdd, Nat.reduceLeDiff, Nat.reduceSub, Nat.reduceBEq, Int.reduceAdd, Int.reduceSub, Int.reduceMul, Int.reduceEq, Nat.reduceEqDiff, lb_undone_table_1, e1, e2, e5, e3]) | (with_reducible refine br (fun _ => ?_) (fun _ => ?_)) | ((with_reducible refine ck ?_ ?_); · first | decide +kernel | omega | assumption | exact .inl (.inr (by decide)) | exact .inl (.inl (by omega)) | (simp only [List.length_map]; omega)))
      rfl
    · repeat' (first | (simp only [word_snoc, ↓EkS.pre, EkS.post, ↓K39TS.pre, K39TS.post, List.length_map, List.length_set, Int.reduceLT, Int.reduceLE, Int.reduceNeg, Int.reducePow, Int.reduceToNat, Nat.reduceLT, Nat.reducePow, Nat.reduceAdd, Nat.reduceLeDiff, Nat.reduceSub, Nat.reduceBEq, Int.reduceAdd, Int.reduceSub, Int.reduceMul, Int.reduceEq, Nat.reduceEqDiff]) | (with_reducible refine br (fun _ => ?_) (fun _ => ?_)) | ((with_reducible refine ck ?_ ?_); · first | decide +kernel | omega | assumption | exact .inl (.inr (by decide)) | exact .inl (.inl (by omega)) | skip))
      unfold tabL
      rw [List.map_map, List.map_map, List.map_map]
      rfl
  obtain ⟨r, ys, e, rfl, rfl⟩ := h.ex
  exact e
theorem table_led_run {n : Nat} {gs : List Gt} {x : Wd} (ok : ∀ g ∈ gs, g.ok n) (hx : WN n x) (h1 : 1 ≤ n) (hn : n ≤ 100) : fs_table_led.run [tb (tabL n gs), wv x] = some (.d (wv (actL gs x)), []) := by
  have h : Wq (fs_table_led.run [tb (tabL n gs), wv x]) fun r ys => r = .d (wv (actL gs x)) ∧ ys = [] := by
    have c1 := check_tabL ok h1 hn
    have lb := led_by_table_run ok hx hn
    have hl := hx.len
    have nn : x.2 ≠ [] := fun z => by rw [z] at hl; simp at hl; omega
    have cp : fs_check_pauli.run [wv x, .int n] = some (.d .none, []) := check_len (n := n) hx.lo hx.hi nn (show x.2.length ≤ 1000000 by omega) hl.symm
    have d2 : ((2 * n : Nat) : Int) / 2 = (n : Nat) := by omega
    unfold tb at c1 lb ⊢
    repeat' (first | (simp only [word_snoc, ↓EkS.pre, EkS.post, ↓K39TS.pre, K39TS.post, List.length_map, List.length_set, Int.reduceLT, Int.reduceLE, Int.reduceNeg, Int.reducePow, Int.reduceToNat, Nat.reduceLT, Nat.reducePow, Nat.reduceAdd, Nat.reduceLeDiff, Nat.reduceSub, Nat.reduceBEq, Int.reduceAdd, Int.reduceSub, Int.reduceMul, Int.reduceEq, Nat.reduceEqDiff, ↓rn_table_led, sh_table_led, c1, cp, lb, tabL_len, d2]) | (with_reducible refine br (fun _ => ?_) (fun _ => ?_)) | ((with_reducible refine ck ?_ ?_); · first | decide +kernel | omega | assumption | exact .inl (.inr (by decide)) | exact .inl (.inl (by omega)) | first | omega | exact ⟨by decide, by decide⟩))
  obtain ⟨r, ys, e, rfl, rfl⟩ := h.ex
  exact e


end K39

namespace K39
open PySem L2 PySem.Spec PyProof.Rows Ek
theorem times_wv {n : Nat} {x y : Wd} (hx : WN n x) (hy : WN n y) (hn : n ≤ 1000) : fs__law_times.run [wv x, wv y] = some (.d (wv (tm x y)), []) := by
  have h1 := hx.len
  have h2 := hy.len
  exact times_run (by omega) (by omega)
theorem tm_more {n : Nat} {x y : Wd} {r : Int} : tm ((x.1 + r) % 4, x.2) y = (((tm x y).1 + r) % 4, (tm x y).2) := by
  unfold tm
  refine Prod.ext ?_ rfl
  simp only
  omega
theorem law_table_led_run {n : Nat} {gs : List Gt} {x : Wd} (ok : ∀ g ∈ gs, g.ok n) (hx : WN n x) (hn : n ≤ 100) : fs__law_table_led.run [tb (tabL n gs), wv x] = some (.d (wv (actL gs x)), []) := by
  obtain ⟨e, l⟩ := x
  have hl := hx.len
  have h0 := hx.lo
  have h3 := hx.hi
  simp only at hl h0 h3
  have h : Wq (fs__law_table_led.run [tb (tabL n gs), wv (e, l)]) fun r ys => r = .d (wv (actL gs (e, l))) ∧ ys = [] := by
    have d2 : ((2 * n : Nat) : Int) / 2 = (n : Nat) := by omega
    have sp : go__law_split [wv (e, l)] = _ := split_run (e := e) (l := l) (by omega)
    have ef : (l.map fun a => PyData.int (fX a : Nat)) = fl? l := rfl
    have et : (l.map fun a => PyData.int (tZ a : Nat)) = tl? l := rfl
    rw [ef, et] at sp
    have ewv : ∀ (e : Int) (l : List Lt), PyData.tuple [.int e, .str (wd l)] = wv (e, l) := fun _ _ => rfl
    unfold tb
    repeat' (first | (simp only [word_snoc, ↓EkS.pre, EkS.post, ↓K39TS.pre, K39TS.post, List.length_map, List.length_set, Int.reduceLT, Int.reduceLE, Int.reduceNeg, Int.reducePow, Int.reduceToNat, Nat.reduceLT, Nat.reducePow, Nat.reduceAdd, Nat.reduceLeDiff, Nat.reduceSub, Nat.reduceBEq, Int.reduceAdd, Int.reduceSub, Int.reduceMul, Int.reduceEq, Nat.reduceEqDiff, ↓rn__law_table_led, sh__law_table_led, sp, tabL_len, d2, Int.toNat_natCast, wd_rep, ewv]) | (with_reducible refine br (fun _ => ?_) (fun _ => ?_)) | ((with_reducible refine ck ?_ ?_); · first | decide +kernel | omega | assumption | exact .inl (.inr (by decide)) | exact .inl (.inl (by omega)) | first | omega | exact ⟨by decide, by decide⟩ | exact okR_nat (by omega) | (simp only [wd_len, sx_len, List.length_cons, List.length_nil]; omega)))
    rw [range_map]
    have si : ((e + (l.map yY).sum) % 4, List.replicate n Lt.I) = (((actL gs (e, pkw l n 0)).1 + ((l.drop 0).map yY).sum) % 4, (actL gs (e, pkw l n 0)).2) := by
      rw [pkw_0]
      have := actL_id (n := n) h0 h3 ok
      unfold idW at this
      rw [this]
      simp
    rw [si]
    refine for_pre (List.range n) _ (fun pre => [some (.d (.tuple ((tabL n gs).map wv))), some (.d (wv (e, l))), some (.d (.int n)), some (.d (.int (e + (l.map yY).sum))), some (.own (fl? l)), some (.own (tl? l)), some (.d (wv (((actL gs (e, pkw l n pre.length)).1 + ((l.drop pre.length).map yY).sum) % 4, (actL gs (e, pkw l n pre.length)).2))), none, none]) rfl (fun pre k post hp => ?_) ?_
    · obtain ⟨hk, hkn⟩ := range_pre hp
      rw [hk]
      have st := stp_tabL (k := k) ok h0 h3 hl hkn
      have wA : WN n (actL gs (e, pkw l n k)) := WN.actL ⟨h0, h3, pkw_len hl (by omega)⟩
      have u1 : WN n (wAt (tabL n gs) k) := tabL_wn _ (wAt_mem (by rw [tabL_len]; omega))
      have u2 : WN n (wAt (tabL n gs) (n + k)) := tabL_wn _ (wAt_mem (by rw [tabL_len]; omega))
      have cnk : (n : Int) + k = ((n + k : Nat) : Int) := by omega
      have t1 : atI ((tabL n gs).map wv) (k : Nat) = some (wv (wAt (tabL n gs) k)) := tb_at (by omega)
      have t2 : atI ((tabL n gs).map wv) ((n + k : Nat) : Int) = some (wv (wAt (tabL n gs) (n + k))) := tb_at (by omega)
      have f1 := fl_at (l := l) (a := k) (by omega)
      have g1 := tl_at (l := l) (a := k) (by omega)
      have dr : ((l.drop k).map yY).sum = yY (l.getD k .I) + ((l.drop (k + 1)).map yY).sum := by
        rw [List.drop_eq_getElem_cons (by omega), List.map_cons, List.sum_cons, List.getD_eq_getElem?_getD, List.getElem?_eq_getElem (by omega)]
        rfl
      have up : (pre ++ [k]).length = k + 1 := by simp [hk]
      have wR : ∀ (A : Wd) (r : Int), WN n A → WN n ((A.1 + r) % 4, A.2) := fun A r hA => ⟨(mod3 _).1, (mod3 _).2, hA.len⟩
      have p1 : ∀ (A : Wd) (r : Int) (w : Wd), WN n A → WN n w → fs__law_times.run [wv ((A.1 + r) % 4, A.2), wv w] = some (.d (wv (((tm A w).1 + r) % 4, (tm A w).2)), []) := fun A r w hA hw => by
        rw [times_wv (wR A r hA) hw (by omega), tm_more (n := n)]
      rw [up, ← st, dr]
      generalize ((l.drop (k + 1)).map yY).sum = r at *
      generalize actL gs (e, pkw l n k) = A at *
      have q1 := fun r => p1 A r _ wA u1
      have q2 := fun r => p1 A r _ wA u2
      have q3 := fun r => p1 (tm A (wAt (tabL n gs) k)) r _ (wA.tm u1) u2
      have rep0 : ∀ a : D, (List.replicate (Int.toNat 0) [a]).flatten = [] := fun _ => rfl
      have rep1 : ∀ a : D, (List.replicate (Int.toNat 1) [a]).flatten = [a] := fun _ => rfl
      cases hc : l.getD k .I
      all_goals
        rw [hc] at f1 g1
        simp only [fX, tZ, nc_0, nc_1] at f1 g1
        repeat' (first | (simp only [word_snoc, ↓EkS.pre, EkS.post, ↓K39TS.pre, K39TS.post, List.length_map, List.length_set, Int.reduceLT, Int.reduceLE, Int.reduceNeg, Int.reducePow, Int.reduceToNat, Nat.reduceLT, Nat.reducePow, Nat.reduceAdd, Nat.reduceLeDiff, Nat.reduceSub, Nat.reduceBEq, Int.reduceAdd, Int.reduceSub, Int.reduceMul, Int.reduceEq, Nat.reduceEqDiff, lb__law_table_led_2, lb__law_table_led_1, f1, g1, cnk, rep0, rep1, t1, t2, q1, q2, q3, w_forL1]) | (with_reducible refine br (fun _ => ?_) (fun _ => ?_)) | ((with_reducible refine ck ?_ ?_); · first | decide +kernel | omega | assumption | exact .inl (.inr (by decide)) | exact .inl (.inl (by omega)) | first | omega | exact ⟨by decide, by decide, by decide⟩ | decide))
        first
        | rfl
        | (simp only [stp, yY]; rw [Int.zero_add])
        | (simp only [stp, yY]
           rw [tm_id wA, tm_more (n := n), tm_more (n := n)]
           simp only
           rw [show ∀ z : Int, ((z + 1) % 4 + r) % 4 = (z + (1 + r)) % 4 from fun z => by omega])
    · rw [List.length_range, pkw_n hl, List.drop_of_length_le (by omega)]
      have w := hx.actL (gs := gs)
      have w0 := w.lo
      have w3 := w.hi
      repeat' (first | (simp only [word_snoc, ↓EkS.pre, EkS.post, ↓K39TS.pre, K39TS.post, List.length_map, List.length_set, Int.reduceLT, Int.reduceLE, Int.reduceNeg, Int.reducePow, Int.reduceToNat, Nat.reduceLT, Nat.reducePow, Nat.reduceAdd, Nat.reduceLeDiff, Nat.reduceSub, Nat.reduceBEq, Int.reduceAdd, Int.reduceSub, Int.reduceMul, Int.reduceEq, Nat.reduceEqDiff]) | (with_reducible refine br (fun _ => ?_) (fun _ => ?_)) | ((with_reducible refine ck ?_ ?_); · first | decide +kernel | omega | assumption | exact .inl (.inr (by decide)) | exact .inl (.inl (by omega)) | skip))
      refine congrArg (fun x => R.d (wv x)) (Prod.ext ?_ rfl)
      simp only [List.map_nil, List.sum_nil]
      omega
  obtain ⟨r, ys, e, rfl, rfl⟩ := h.ex
  exact e


end K39

namespace K39
open PySem L2 PySem.Spec PyProof.Rows Ek
theorem pot_run (ns : List Int) (hl : ns.length ≤ 63) : Wo (okRs (fnRunS 1 sh__law_pot ns)) fun r => r = .own ((0 :: 19088743 :: 1 :: 4 :: ns).map .int) := by
  repeat' (first | (simp only [word_snoc, ↓EkS.pre, EkS.post, ↓K39TS.pre, K39TS.post, List.length_map, List.length_set, Int.reduceLT, Int.reduceLE, Int.reduceNeg, Int.reducePow, Int.reduceToNat, Nat.reduceLT, Nat.reducePow, Nat.reduceAdd, Nat.reduceLeDiff, Nat.reduceSub, Nat.reduceBEq, Int.reduceAdd, Int.reduceSub, Int.reduceMul, Int.reduceEq, Nat.reduceEqDiff, ↓rn__law_pot, sh__law_pot]) | (with_reducible refine br (fun _ => ?_) (fun _ => ?_)) | ((with_reducible refine ck ?_ ?_); · first | decide +kernel | omega | assumption | exact .inl (.inr (by decide)) | exact .inl (.inl (by omega)) | (simp only [List.length_map]; omega)))
  all_goals rfl
theorem same4 {xs : List D} (h : Dn 4 (.list xs)) : (fs__law_same 5).run [.list xs, .list xs] = some (.d (.bool true), []) := same_run 4 _ h
theorem sameD {x : D} (h : Dn 4 x) : (fs__law_same 5).run [x, x] = some (.d (.bool true), []) := same_run 4 _ h
theorem actL_ws {gs : List Gt} {k : Nat} {x : Wd} : actL (gs ++ List.replicate k .w) x = actL gs x := by
  rw [actL_app]
  induction k with
  | zero => rfl
  | succ k ih => rw [List.replicate_succ]; exact ih
theorem actL_w {k : Nat} {x : Wd} : actL (List.replicate k .w) x = x := by
  induction k with
  | zero => rfl
  | succ k ih => rw [List.replicate_succ]; exact ih
theorem dn_tb {ws : List Wd} (h : ws.length ≤ 1000000) : Dn 3 (tb ws) := .tup (by simpa using h) fun x hx => by
  obtain ⟨w, _, rfl⟩ := List.mem_map.mp hx
  exact Dn.pw
theorem undo_len (gs : List Gt) : (undo gs).length ≤ 7 * gs.length := by
  have key : ∀ l : List Gt, (l.flatMap inv).length ≤ 7 * l.length := fun l => by
    induction l with
    | nil => simp
    | cons a l ih =>
      rw [List.flatMap_cons, List.length_append, List.length_cons]
      have : (inv a).length ≤ 7 := by cases a <;> simp [inv]
      omega
  have := key gs.reverse
  rw [List.length_reverse] at this
  exact this
def stL (ns ps : List Int) : S := [some (.scr ns), some (.own (ps.map .int)), none, none, none, none, none, none, none, none, none, none, none, none, none, none, none, none]
theorem body_ok (ns ps X : List Int) {b : Int} (hp : PotB b ps) (hb : b ≤ 50000) (t : D) : Wg (gSet 2 t (stL ns ps)) fun s => Wp (lb_law_1 s) fun fl s' => Lp fl (∃ ps', PotB (b + 3000) ps' ∧ mask (stL ns X) s' = stL ns ps') False fun _ => False := by
  unfold stL
  simp only [word_snoc, ↓EkS.pre, EkS.post, ↓K39TS.pre, K39TS.post, List.length_map, List.length_set, Int.reduceLT, Int.reduceLE, Int.reduceNeg, Int.reducePow, Int.reduceToNat, Nat.reduceLT, Nat.reducePow, Nat.reduceAdd, Nat.reduceLeDiff, Nat.reduceSub, Nat.reduceBEq, Int.reduceAdd, Int.reduceSub, Int.reduceMul, Int.reduceEq, Nat.reduceEqDiff, lb_law_1]
  obtain ⟨q, ys, e, z, p1, rfl, rfl, z0, z1, hp1⟩ := (take_run hp (by omega) (m := 6) (by decide) (by decide)).ex
  refine wq e ?_
  clear e
  obtain ⟨n, hn⟩ : ∃ n : Nat, 1 + z = n := ⟨(1 + z).toNat, by omega⟩
  have n1 : 1 ≤ n := by omega
  have n2 : n ≤ 6 := by omega
  clear z0 z1
  simp only [word_snoc, ↓EkS.pre, EkS.post, ↓K39TS.pre, K39TS.post, List.length_map, List.length_set, Int.reduceLT, Int.reduceLE, Int.reduceNeg, Int.reducePow, Int.reduceToNat, Nat.reduceLT, Nat.reducePow, Nat.reduceAdd, Nat.reduceLeDiff, Nat.reduceSub, Nat.reduceBEq, Int.reduceAdd, Int.reduceSub, Int.reduceMul, Int.reduceEq, Nat.reduceEqDiff, hn, names_run]
  obtain ⟨q, ys, e, gs, p2, rfl, rfl, hp2, ok, hgl⟩ := (law_gates_run hp1 (by omega) n1 (by omega) (most := 14) (by omega) nmsB_ok (by decide) (by decide)).ex
  refine wq e ?_
  clear e
  simp only [word_snoc, ↓EkS.pre, EkS.post, ↓K39TS.pre, K39TS.post, List.length_map, List.length_set, Int.reduceLT, Int.reduceLE, Int.reduceNeg, Int.reducePow, Int.reduceToNat, Nat.reduceLT, Nat.reducePow, Nat.reduceAdd, Nat.reduceLeDiff, Nat.reduceSub, Nat.reduceBEq, Int.reduceAdd, Int.reduceSub, Int.reduceMul, Int.reduceEq, Nat.reduceEqDiff, names_run]
  obtain ⟨q, ys, e, hs, p3, rfl, rfl, hp3, okh, hhl⟩ := (law_gates_run hp2 (by omega) n1 (by omega) (most := 14) (by omega) nmsB_ok (by decide) (by decide)).ex
  refine wq e ?_
  clear e
  simp only [word_snoc, ↓EkS.pre, EkS.post, ↓K39TS.pre, K39TS.post, List.length_map, List.length_set, Int.reduceLT, Int.reduceLE, Int.reduceNeg, Int.reducePow, Int.reduceToNat, Nat.reduceLT, Nat.reducePow, Nat.reduceAdd, Nat.reduceLeDiff, Nat.reduceSub, Nat.reduceBEq, Int.reduceAdd, Int.reduceSub, Int.reduceMul, Int.reduceEq, Nat.reduceEqDiff]
  obtain ⟨q, ys, e, z, p4, rfl, rfl, z0, z1, hp4⟩ := (take_run hp3 (by omega) (m := 2) (by decide) (by decide)).ex
  refine wq e ?_
  clear e
  obtain ⟨k, rfl⟩ : ∃ k : Nat, z = k := ⟨z.toNat, by omega⟩
  have rw1 : (List.replicate k [PyData.tuple [.str (sx [119])]]).flatten = (List.replicate k Gt.w).map gd := by
    clear z0 z1
    induction k with
    | zero => rfl
    | succ k ih => rw [List.replicate_succ, List.flatten_cons, ih, List.replicate_succ]; rfl
  have lrw : ((List.replicate k Gt.w).map gd).length = k := by simp
  have ec : PyData.tuple [.int n, .tuple (gs.map gd ++ (List.replicate k Gt.w).map gd)] = cir n (gs ++ List.replicate k .w) := by
    unfold cir; rw [List.map_append]
  have eh : PyData.tuple [.int n, .tuple (hs.map gd)] = cir n hs := rfl
  have ok0 : ∀ g ∈ ([] : List Gt), g.ok n := fun _ h => nomatch h
  have okgh : ∀ g ∈ gs ++ hs, g.ok n := fun g hg => by
    rw [List.mem_append] at hg
    exact hg.elim (ok g) (okh g)
  have ww : ∀ g ∈ List.replicate k Gt.w, g.ok n := fun g hg => by
    rw [List.eq_of_mem_replicate hg]; trivial
  have oko : ∀ g ∈ gs ++ List.replicate k Gt.w, g.ok n := fun g hg => by
    rw [List.mem_append] at hg
    exact hg.elim (ok g) (ww g)
  have okj : ∀ g ∈ (gs ++ List.replicate k Gt.w) ++ hs, g.ok n := fun g hg => by
    rw [List.mem_append] at hg
    exact hg.elim (oko g) (okh g)
  have okU := undo_ok oko
  have n100 : n ≤ 100 := by omega
  have hlo : (gs ++ List.replicate k Gt.w).length ≤ 16 := by
    rw [List.length_append, List.length_replicate]; omega
  have hlj : ((gs ++ List.replicate k Gt.w) ++ hs).length ≤ 1000 := by
    rw [List.length_append]; omega
  have hlu := undo_len (gs ++ List.replicate k Gt.w)
  -- tables alike
  have q1 : tabL n (gs ++ List.replicate k .w) = tabL n gs := tabL_congr fun x _ => actL_ws
  have q2 : tabL n ((gs ++ List.replicate k .w) ++ hs) = tabL n (gs ++ hs) := tabL_congr fun x _ => by rw [actL_app, actL_ws, actL_app]
  have q3 : tabL n (undo (gs ++ List.replicate k .w)) = tabL n (undo gs) := tabL_congr fun x hx => by
    have h1 := undo_fwd (gs := gs) ok hx
    have h2 := undo_back oko (hx.actL (gs := undo gs))
    rw [actL_ws, h1] at h2
    exact h2
  have okUg := undo_ok ok
  have q4 : tabL n (undo (undo gs)) = tabL n gs := tabL_congr fun x hx => undo2 ok hx
  have q5 : tabL n (gs ++ undo gs) = tabL n [] := tabL_congr fun x hx => by rw [actL_app, undo_back ok hx]; rfl
  have q6 : tabL n (undo gs ++ gs) = tabL n [] := tabL_congr fun x hx => by rw [actL_app, undo_fwd ok hx]; rfl
  have t1 := law_table_of_run n1 n100 ok
  have t2 := law_table_of_run n1 n100 okh
  have t3 := law_table_of_run n1 n100 okgh
  rw [List.map_append] at t3
  have t4 : fs__law_table_of.run [.int n, .tuple []] = some (.d (tb (tabL n [])), []) := law_table_of_run (gs := []) n1 n100 ok0
  have T1 := table_of_run n1 n100 oko (by omega)
  have T2 := table_of_run n1 n100 okh (by omega)
  have JR := joined_run n1 (by omega) oko okh (by omega) (by omega)
  have T3 := table_of_run n1 n100 okj (by omega)
  have UR := undone_run n1 oko (by omega)
  have T4 := table_of_run n1 n100 okU (by omega)
  rw [q1] at T1
  rw [q2] at T3
  rw [q3] at T4
  have C1 := composed_run ok okh n1 n100
  have C2 := composed_run ok okUg n1 n100
  have C3 := composed_run okUg ok n1 n100
  have C4 := composed_run ok0 okh n1 n100
  have C5 := composed_run okh ok0 n1 n100
  rw [q5] at C2
  rw [q6] at C3
  rw [List.nil_append] at C4
  rw [List.append_nil] at C5
  have U1 := table_undone_run ok n1 n100
  have U2 := table_undone_run okUg n1 n100
  rw [q4] at U2
  have kl : ∀ gs, (tabL n gs).length ≤ 1000000 := fun gs => by rw [tabL_len]; omega
  have s12 : ∀ {Q : R → List D → Prop} {xs : List D}, Dn 4 (.list xs) → Q (.d (.bool true)) [] → Wq ((fs__law_same 5).run [.list xs, .list xs]) Q := fun h q => wq (same4 h) q
  repeat' (first | (simp only [word_snoc, ↓EkS.pre, EkS.post, ↓K39TS.pre, K39TS.post, List.length_map, List.length_set, Int.reduceLT, Int.reduceLE, Int.reduceNeg, Int.reducePow, Int.reduceToNat, Nat.reduceLT, Nat.reducePow, Nat.reduceAdd, Nat.reduceLeDiff, Nat.reduceSub, Nat.reduceBEq, Int.reduceAdd, Int.reduceSub, Int.reduceMul, Int.reduceEq, Nat.reduceEqDiff, Int.toNat_natCast, rw1, ec, lrw, eh, t1, t2, t3, t4, T1, T2, JR, T3, UR, T4, C1, C2, C3, C4, C5, U1, U2]) | (((with_reducible refine s12 ?_ ?_); · (refine .lst (by simp) ?_; repeat' (first | exact dl0 | exact dn_tb (kl _) | refine dl1 ?_ ?_)))) | (with_reducible refine br (fun _ => ?_) (fun _ => ?_)) | ((with_reducible refine ck ?_ ?_); · first | decide +kernel | omega | assumption | exact .inl (.inr (by decide)) | exact .inl (.inl (by omega)) | first | omega | exact ⟨by omega, by omega, rfl, by decide⟩ | (simp only [List.length_map, List.length_replicate]; omega)))
  obtain ⟨q, ys, e, e1, l1, p5, rfl, rfl, a0, a3, hl1, hp5⟩ := (drawn_run hp4 (by omega) (many := n) (by omega)).ex
  refine wq e ?_
  clear e
  have wx : WN n (e1, l1) := ⟨a0, a3, hl1⟩
  have ew : pw e1 l1 = wv (e1, l1) := rfl
  have wA := wx.actL (gs := gs)
  have L1 : fs__law_led.run [.tuple (gs.map gd), wv (e1, l1)] = some (.d (wv (actL gs (e1, l1))), []) := law_led_run ok wx (by omega)
  have L2 : fs_led.run [cir n (gs ++ List.replicate k .w), wv (e1, l1)] = some (.d (wv (actL gs (e1, l1))), []) := by
    have := led_run n1 oko wx (by omega) (by omega)
    rw [actL_ws] at this
    exact this
  have A1 := table_led_run ok wx n1 n100
  have A2 := table_led_run okUg wA n1 n100
  rw [undo_back ok wx] at A2
  have B1 := law_table_led_run ok wx n100
  have eq1 : dEq (wv (actL gs (e1, l1))) (wv (actL gs (e1, l1))) = some true := by
    have := wA.len
    unfold wv
    rw [pw_eq (by omega) (by omega)]
    simp
  repeat' (first | (simp only [word_snoc, ↓EkS.pre, EkS.post, ↓K39TS.pre, K39TS.post, List.length_map, List.length_set, Int.reduceLT, Int.reduceLE, Int.reduceNeg, Int.reducePow, Int.reduceToNat, Nat.reduceLT, Nat.reducePow, Nat.reduceAdd, Nat.reduceLeDiff, Nat.reduceSub, Nat.reduceBEq, Int.reduceAdd, Int.reduceSub, Int.reduceMul, Int.reduceEq, Nat.reduceEqDiff, ew, L1, L2, A1, A2, B1, eq1]) | (((with_reducible refine s12 ?_ ?_); · (refine .lst (by simp) ?_; repeat' (first | exact dl0 | exact Dn.pw | refine dl1 ?_ ?_)))) | (with_reducible refine br (fun _ => ?_) (fun _ => ?_)) | ((with_reducible refine ck ?_ ?_); · first | decide +kernel | omega | assumption | exact .inl (.inr (by decide)) | exact .inl (.inl (by omega)) | skip))
  obtain ⟨q, ys, e, ds, f, p6, rfl, rfl, hp6, okd0, hf⟩ := (law_table_run0 hp5 (by omega) n1 (show n ≤ 50 by omega)).ex
  refine wq e ?_
  clear e
  obtain ⟨ds, okd, hds⟩ := sg_gates okd0 hf n1
  rw [hds]
  have A3 := table_led_run okd wx n1 n100
  have B2 := law_table_led_run okd wx n100
  have s13 : ∀ {Q : R → List D → Prop} {x : Wd}, Q (.d (.bool true)) [] → Wq ((fs__law_same 5).run [wv x, wv x]) Q := fun q => wq (sameD Dn.pw) q
  repeat' (first | (simp only [word_snoc, ↓EkS.pre, EkS.post, ↓K39TS.pre, K39TS.post, List.length_map, List.length_set, Int.reduceLT, Int.reduceLE, Int.reduceNeg, Int.reducePow, Int.reduceToNat, Nat.reduceLT, Nat.reducePow, Nat.reduceAdd, Nat.reduceLeDiff, Nat.reduceSub, Nat.reduceBEq, Int.reduceAdd, Int.reduceSub, Int.reduceMul, Int.reduceEq, Nat.reduceEqDiff, A3, B2]) | ((with_reducible refine s13 ?_)) | (with_reducible refine br (fun _ => ?_) (fun _ => ?_)) | ((with_reducible refine ck ?_ ?_); · first | decide +kernel | omega | assumption | exact .inl (.inr (by decide)) | exact .inl (.inl (by omega)) | skip))
  have etb : tb (tabL n (gs ++ hs)) = .tuple ((tabL n (gs ++ hs)).map wv) := rfl
  simp only [word_snoc, ↓EkS.pre, EkS.post, ↓K39TS.pre, K39TS.post, List.length_map, List.length_set, Int.reduceLT, Int.reduceLE, Int.reduceNeg, Int.reducePow, Int.reduceToNat, Nat.reduceLT, Nat.reducePow, Nat.reduceAdd, Nat.reduceLeDiff, Nat.reduceSub, Nat.reduceBEq, Int.reduceAdd, Int.reduceSub, Int.reduceMul, Int.reduceEq, Nat.reduceEqDiff, etb]
  refine lc_all (tabL n (gs ++ hs)) _ (fun w => wv (actL ds w)) (kl _) (fun w hw => ?_) ?_
  · have lw := law_table_led_run okd (tabL_wn w hw) n100
    repeat' (first | (simp only [word_snoc, ↓EkS.pre, EkS.post, ↓K39TS.pre, K39TS.post, List.length_map, List.length_set, Int.reduceLT, Int.reduceLE, Int.reduceNeg, Int.reducePow, Int.reduceToNat, Nat.reduceLT, Nat.reducePow, Nat.reduceAdd, Nat.reduceLeDiff, Nat.reduceSub, Nat.reduceBEq, Int.reduceAdd, Int.reduceSub, Int.reduceMul, Int.reduceEq, Nat.reduceEqDiff, ce_law_1, lw]) | (with_reducible refine br (fun _ => ?_) (fun _ => ?_)) | ((with_reducible refine ck ?_ ?_); · first | decide +kernel | omega | assumption | exact .inl (.inr (by decide)) | exact .inl (.inl (by omega)) | skip))
  have em : PyData.tuple ((tabL n (gs ++ hs)).map fun w => wv (actL ds w)) = tb (tabL n ((gs ++ hs) ++ ds)) := by
    unfold tb tabL
    rw [List.map_map, List.map_map]
    refine congrArg PyData.tuple (List.map_congr_left fun i _ => ?_)
    simp only [Function.comp, actL_app]
  have okhd : ∀ g ∈ hs ++ ds, g.ok n := fun g hg => by
    rw [List.mem_append] at hg
    exact hg.elim (okh g) (okd g)
  have C6 := composed_run okgh okd n1 n100
  have C7 := composed_run okh okd n1 n100
  have C8 := composed_run ok okhd n1 n100
  rw [← List.append_assoc] at C8
  have okUd := undo_ok okd
  have U3 := table_undone_run okd n1 n100
  have C9 := composed_run okd okUd n1 n100
  have C10 := composed_run okUd okd n1 n100
  have q7 : tabL n (ds ++ undo ds) = tabL n [] := tabL_congr fun x hx => by rw [actL_app, undo_back okd hx]; rfl
  have q8 : tabL n (undo ds ++ ds) = tabL n [] := tabL_congr fun x hx => by rw [actL_app, undo_fwd okd hx]; rfl
  rw [q7] at C9
  rw [q8] at C10
  repeat' (first | (simp only [word_snoc, ↓EkS.pre, EkS.post, ↓K39TS.pre, K39TS.post, List.length_map, List.length_set, Int.reduceLT, Int.reduceLE, Int.reduceNeg, Int.reducePow, Int.reduceToNat, Nat.reduceLT, Nat.reducePow, Nat.reduceAdd, Nat.reduceLeDiff, Nat.reduceSub, Nat.reduceBEq, Int.reduceAdd, Int.reduceSub, Int.reduceMul, Int.reduceEq, Nat.reduceEqDiff, em, ← etb, C1, C6, C7, C8, U3, C9, C10]) | (((with_reducible refine s12 ?_ ?_); · (refine .lst (by simp) ?_; repeat' (first | exact dl0 | exact dn_tb (kl _) | refine dl1 ?_ ?_)))) | (with_reducible refine br (fun _ => ?_) (fun _ => ?_)) | ((with_reducible refine ck ?_ ?_); · first | decide +kernel | omega | assumption | exact .inl (.inr (by decide)) | exact .inl (.inl (by omega)) | skip))
  exact ⟨p6, hp6.up (by omega), rfl⟩
theorem law_run : ∀ ns : List Int, ns.length ≤ 63 → (∀ z ∈ ns, Builtin.Int.intBits z ≤ 1048576) → ∃ s', sh_law (some (.scr ns) :: List.replicate (N_law.length - 1) none) = .ok (.rt (.d (.bool true)), s') := fun ns hl _ => by
  have hh : Wp (sh_law (some (.scr ns) :: List.replicate 17 none)) fun f s => f = .rt (.d (.bool true)) := by
    unfold sh_law
    simp only [word_snoc, ↓EkS.pre, EkS.post, ↓K39TS.pre, K39TS.post, List.length_map, List.length_set, Int.reduceLT, Int.reduceLE, Int.reduceNeg, Int.reducePow, Int.reduceToNat, Nat.reduceLT, Nat.reducePow, Nat.reduceAdd, Nat.reduceLeDiff, Nat.reduceSub, Nat.reduceBEq, Int.reduceAdd, Int.reduceSub, Int.reduceMul, Int.reduceEq, Nat.reduceEqDiff]
    obtain ⟨r, e, rfl⟩ := pot_run ns hl
    refine wo e ?_
    repeat' (first | (simp only [word_snoc, ↓EkS.pre, EkS.post, ↓K39TS.pre, K39TS.post, List.length_map, List.length_set, Int.reduceLT, Int.reduceLE, Int.reduceNeg, Int.reducePow, Int.reduceToNat, Nat.reduceLT, Nat.reducePow, Nat.reduceAdd, Nat.reduceLeDiff, Nat.reduceSub, Nat.reduceBEq, Int.reduceAdd, Int.reduceSub, Int.reduceMul, Int.reduceEq, Nat.reduceEqDiff]) | (with_reducible refine br (fun _ => ?_) (fun _ => ?_)) | ((with_reducible refine ck ?_ ?_); · first | decide +kernel | omega | assumption | exact .inl (.inr (by decide)) | exact .inl (.inl (by omega)) | exact okR_nat (by decide)))
    rw [show [PyData.int 0, .int 1, .int 2] = (List.range 3).map fun (k : Nat) => PyData.int k from rfl]
    refine for_rel (List.range 3) _ (fun pre s => ∃ ps, PotB (3000 * pre.length + 1) ps ∧ s = stL ns ps) ⟨_, ⟨_, _, _, _, _, rfl, by decide, by decide, by decide, by decide, by decide, by decide⟩, rfl⟩ (fun pre a post s hl h => ?_) (fun s h => ?_)
    · obtain ⟨ps, hp, rfl⟩ := h
      have hlen : pre.length < 3 := by
        have := congrArg List.length hl
        simp at this
        omega
      obtain ⟨s1, e1, fl, s2, e2, h2⟩ := body_ok ns ps (0 :: 19088743 :: 1 :: 4 :: ns) hp (by omega) (.int (a : Nat))
      refine ⟨s1, e1, fl, s2, e2, ?_⟩
      have up : (∃ ps', PotB (3000 * pre.length + 1 + 3000) ps' ∧ mask (stL ns (0 :: 19088743 :: 1 :: 4 :: ns)) s2 = stL ns ps') → ∃ ps, PotB (3000 * (pre ++ [a]).length + 1) ps ∧ mask (stL ns (0 :: 19088743 :: 1 :: 4 :: ns)) s2 = stL ns ps := fun ⟨ps', h1, h2⟩ => ⟨ps', h1.up (by simp; omega), h2⟩
      cases fl with
      | nx => exact up h2
      | ct => exact up h2
      | bk => exact h2.elim
      | rt u => exact h2.elim
      | rw u => exact h2.elim
    · obtain ⟨ps, hp, rfl⟩ := h
      unfold stL
      simp only [word_snoc, ↓EkS.pre, EkS.post, ↓K39TS.pre, K39TS.post, List.length_map, List.length_set, Int.reduceLT, Int.reduceLE, Int.reduceNeg, Int.reducePow, Int.reduceToNat, Nat.reduceLT, Nat.reducePow, Nat.reduceAdd, Nat.reduceLeDiff, Nat.reduceSub, Nat.reduceBEq, Int.reduceAdd, Int.reduceSub, Int.reduceMul, Int.reduceEq, Nat.reduceEqDiff]
  obtain ⟨f, s, e, rfl⟩ := hh.ex
  exact ⟨s, e⟩

end K39

namespace K39
open PySem L2 PySem.Spec PyProof.Rows Ek
/-! ### what the top has written; the end -/
theorem all_mk {l : PySem.W.OpenLaw} {w : World} {K : PySem.W.Frag} {h : Heap} {mg : Str → Option Value} {fa : Addr} (X : K.In h) (G : h.Ns mainGlobals mg) (hfa : mg "law" = some (.ref fa))
    {f__law_pot : Addr} {od__law_pot an__law_pot : Option Addr} {sl__law_pot : Array (Option Value)} {oc__law_pot kV__law_pot dc__law_pot pm__law_pot cd__law_pot ct__law_pot : Value}
    (a__law_pot : PySem.W.nsIn K mainGlobals "_law_pot" = some (some (.ref f__law_pot)))
    (l__law_pot : K.lookup f__law_pot = some ⟨oc__law_pot, od__law_pot, .func (PySem.W.fnOf "_law_pot" "_law_pot" (defArgs st__law_pot) (defBody st__law_pot) (defScope st__law_pot) .none kV__law_pot dc__law_pot pm__law_pot an__law_pot cd__law_pot ct__law_pot), sl__law_pot⟩)
    (c__law_pot : PySem.W.codeIn K cd__law_pot "_law_pot" = true) (k__law_pot : PySem.W.keepIn K (.ref f__law_pot) = true)
    {f__law_take : Addr} {od__law_take an__law_take : Option Addr} {sl__law_take : Array (Option Value)} {oc__law_take kV__law_take dc__law_take pm__law_take cd__law_take ct__law_take : Value}
    (a__law_take : PySem.W.nsIn K mainGlobals "_law_take" = some (some (.ref f__law_take)))
    (l__law_take : K.lookup f__law_take = some ⟨oc__law_take, od__law_take, .func (PySem.W.fnOf "_law_take" "_law_take" (defArgs st__law_take) (defBody st__law_take) (defScope st__law_take) .none kV__law_take dc__law_take pm__law_take an__law_take cd__law_take ct__law_take), sl__law_take⟩)
    (c__law_take : PySem.W.codeIn K cd__law_take "_law_take" = true) (k__law_take : PySem.W.keepIn K (.ref f__law_take) = true)
    {f__law_gates : Addr} {od__law_gates an__law_gates : Option Addr} {sl__law_gates : Array (Option Value)} {oc__law_gates kV__law_gates dc__law_gates pm__law_gates cd__law_gates ct__law_gates : Value}
    (a__law_gates : PySem.W.nsIn K mainGlobals "_law_gates" = some (some (.ref f__law_gates)))
    (l__law_gates : K.lookup f__law_gates = some ⟨oc__law_gates, od__law_gates, .func (PySem.W.fnOf "_law_gates" "_law_gates" (defArgs st__law_gates) (defBody st__law_gates) (defScope st__law_gates) .none kV__law_gates dc__law_gates pm__law_gates an__law_gates cd__law_gates ct__law_gates), sl__law_gates⟩)
    (c__law_gates : PySem.W.codeIn K cd__law_gates "_law_gates" = true) (k__law_gates : PySem.W.keepIn K (.ref f__law_gates) = true)
    {f__law_names : Addr} {od__law_names an__law_names : Option Addr} {sl__law_names : Array (Option Value)} {oc__law_names kV__law_names dc__law_names pm__law_names cd__law_names ct__law_names : Value}
    (a__law_names : PySem.W.nsIn K mainGlobals "_law_names" = some (some (.ref f__law_names)))
    (l__law_names : K.lookup f__law_names = some ⟨oc__law_names, od__law_names, .func (PySem.W.fnOf "_law_names" "_law_names" (defArgs st__law_names) (defBody st__law_names) (defScope st__law_names) .none kV__law_names dc__law_names pm__law_names an__law_names cd__law_names ct__law_names), sl__law_names⟩)
    (c__law_names : PySem.W.codeIn K cd__law_names "_law_names" = true) (k__law_names : PySem.W.keepIn K (.ref f__law_names) = true)
    {f__law_split : Addr} {od__law_split an__law_split : Option Addr} {sl__law_split : Array (Option Value)} {oc__law_split kV__law_split dc__law_split pm__law_split cd__law_split ct__law_split : Value}
    (a__law_split : PySem.W.nsIn K mainGlobals "_law_split" = some (some (.ref f__law_split)))
    (l__law_split : K.lookup f__law_split = some ⟨oc__law_split, od__law_split, .func (PySem.W.fnOf "_law_split" "_law_split" (defArgs st__law_split) (defBody st__law_split) (defScope st__law_split) .none kV__law_split dc__law_split pm__law_split an__law_split cd__law_split ct__law_split), sl__law_split⟩)
    (c__law_split : PySem.W.codeIn K cd__law_split "_law_split" = true) (k__law_split : PySem.W.keepIn K (.ref f__law_split) = true)
    {f__law_word : Addr} {od__law_word an__law_word : Option Addr} {sl__law_word : Array (Option Value)} {oc__law_word kV__law_word dc__law_word pm__law_word cd__law_word ct__law_word : Value}
    (a__law_word : PySem.W.nsIn K mainGlobals "_law_word" = some (some (.ref f__law_word)))
    (l__law_word : K.lookup f__law_word = some ⟨oc__law_word, od__law_word, .func (PySem.W.fnOf "_law_word" "_law_word" (defArgs st__law_word) (defBody st__law_word) (defScope st__law_word) .none kV__law_word dc__law_word pm__law_word an__law_word cd__law_word ct__law_word), sl__law_word⟩)
    (c__law_word : PySem.W.codeIn K cd__law_word "_law_word" = true) (k__law_word : PySem.W.keepIn K (.ref f__law_word) = true)
    {f__law_led : Addr} {od__law_led an__law_led : Option Addr} {sl__law_led : Array (Option Value)} {oc__law_led kV__law_led dc__law_led pm__law_led cd__law_led ct__law_led : Value}
    (a__law_led : PySem.W.nsIn K mainGlobals "_law_led" = some (some (.ref f__law_led)))
    (l__law_led : K.lookup f__law_led = some ⟨oc__law_led, od__law_led, .func (PySem.W.fnOf "_law_led" "_law_led" (defArgs st__law_led) (defBody st__law_led) (defScope st__law_led) .none kV__law_led dc__law_led pm__law_led an__law_led cd__law_led ct__law_led), sl__law_led⟩)
    (c__law_led : PySem.W.codeIn K cd__law_led "_law_led" = true) (k__law_led : PySem.W.keepIn K (.ref f__law_led) = true)
    {f__law_at : Addr} {od__law_at an__law_at : Option Addr} {sl__law_at : Array (Option Value)} {oc__law_at kV__law_at dc__law_at pm__law_at cd__law_at ct__law_at : Value}
    (a__law_at : PySem.W.nsIn K mainGlobals "_law_at" = some (some (.ref f__law_at)))
    (l__law_at : K.lookup f__law_at = some ⟨oc__law_at, od__law_at, .func (PySem.W.fnOf "_law_at" "_law_at" (defArgs st__law_at) (defBody st__law_at) (defScope st__law_at) .none kV__law_at dc__law_at pm__law_at an__law_at cd__law_at ct__law_at), sl__law_at⟩)
    (c__law_at : PySem.W.codeIn K cd__law_at "_law_at" = true) (k__law_at : PySem.W.keepIn K (.ref f__law_at) = true)
    {f__law_table_of : Addr} {od__law_table_of an__law_table_of : Option Addr} {sl__law_table_of : Array (Option Value)} {oc__law_table_of kV__law_table_of dc__law_table_of pm__law_table_of cd__law_table_of ct__law_table_of : Value}
    (a__law_table_of : PySem.W.nsIn K mainGlobals "_law_table_of" = some (some (.ref f__law_table_of)))
    (l__law_table_of : K.lookup f__law_table_of = some ⟨oc__law_table_of, od__law_table_of, .func (PySem.W.fnOf "_law_table_of" "_law_table_of" (defArgs st__law_table_of) (defBody st__law_table_of) (defScope st__law_table_of) .none kV__law_table_of dc__law_table_of pm__law_table_of an__law_table_of cd__law_table_of ct__law_table_of), sl__law_table_of⟩)
    (c__law_table_of : PySem.W.codeIn K cd__law_table_of "_law_table_of" = true) (k__law_table_of : PySem.W.keepIn K (.ref f__law_table_of) = true)
    {f__law_same : Addr} {od__law_same an__law_same : Option Addr} {sl__law_same : Array (Option Value)} {oc__law_same kV__law_same dc__law_same pm__law_same cd__law_same ct__law_same : Value}
    (a__law_same : PySem.W.nsIn K mainGlobals "_law_same" = some (some (.ref f__law_same)))
    (l__law_same : K.lookup f__law_same = some ⟨oc__law_same, od__law_same, .func (PySem.W.fnOf "_law_same" "_law_same" (defArgs st__law_same) (defBody st__law_same) (defScope st__law_same) .none kV__law_same dc__law_same pm__law_same an__law_same cd__law_same ct__law_same), sl__law_same⟩)
    (c__law_same : PySem.W.codeIn K cd__law_same "_law_same" = true) (k__law_same : PySem.W.keepIn K (.ref f__law_same) = true)
    {f_is_integer : Addr} {od_is_integer an_is_integer : Option Addr} {sl_is_integer : Array (Option Value)} {oc_is_integer kV_is_integer dc_is_integer pm_is_integer cd_is_integer ct_is_integer : Value}
    (a_is_integer : PySem.W.nsIn K mainGlobals "is_integer" = some (some (.ref f_is_integer)))
    (l_is_integer : K.lookup f_is_integer = some ⟨oc_is_integer, od_is_integer, .func (PySem.W.fnOf "is_integer" "is_integer" (defArgs st_is_integer) (defBody st_is_integer) (defScope st_is_integer) .none kV_is_integer dc_is_integer pm_is_integer an_is_integer cd_is_integer ct_is_integer), sl_is_integer⟩)
    (c_is_integer : PySem.W.codeIn K cd_is_integer "is_integer" = true) (k_is_integer : PySem.W.keepIn K (.ref f_is_integer) = true)
    {f_is_natural : Addr} {od_is_natural an_is_natural : Option Addr} {sl_is_natural : Array (Option Value)} {oc_is_natural kV_is_natural dc_is_natural pm_is_natural cd_is_natural ct_is_natural : Value}
    (a_is_natural : PySem.W.nsIn K mainGlobals "is_natural" = some (some (.ref f_is_natural)))
    (l_is_natural : K.lookup f_is_natural = some ⟨oc_is_natural, od_is_natural, .func (PySem.W.fnOf "is_natural" "is_natural" (defArgs st_is_natural) (defBody st_is_natural) (defScope st_is_natural) .none kV_is_natural dc_is_natural pm_is_natural an_is_natural cd_is_natural ct_is_natural), sl_is_natural⟩)
    (c_is_natural : PySem.W.codeIn K cd_is_natural "is_natural" = true) (k_is_natural : PySem.W.keepIn K (.ref f_is_natural) = true)
    {f_is_gate : Addr} {od_is_gate an_is_gate : Option Addr} {sl_is_gate : Array (Option Value)} {oc_is_gate kV_is_gate dc_is_gate pm_is_gate cd_is_gate ct_is_gate : Value}
    (a_is_gate : PySem.W.nsIn K mainGlobals "is_gate" = some (some (.ref f_is_gate)))
    (l_is_gate : K.lookup f_is_gate = some ⟨oc_is_gate, od_is_gate, .func (PySem.W.fnOf "is_gate" "is_gate" (defArgs st_is_gate) (defBody st_is_gate) (defScope st_is_gate) .none kV_is_gate dc_is_gate pm_is_gate an_is_gate cd_is_gate ct_is_gate), sl_is_gate⟩)
    (c_is_gate : PySem.W.codeIn K cd_is_gate "is_gate" = true) (k_is_gate : PySem.W.keepIn K (.ref f_is_gate) = true)
    {f_is_circuit : Addr} {od_is_circuit an_is_circuit : Option Addr} {sl_is_circuit : Array (Option Value)} {oc_is_circuit kV_is_circuit dc_is_circuit pm_is_circuit cd_is_circuit ct_is_circuit : Value}
    (a_is_circuit : PySem.W.nsIn K mainGlobals "is_circuit" = some (some (.ref f_is_circuit)))
    (l_is_circuit : K.lookup f_is_circuit = some ⟨oc_is_circuit, od_is_circuit, .func (PySem.W.fnOf "is_circuit" "is_circuit" (defArgs st_is_circuit) (defBody st_is_circuit) (defScope st_is_circuit) .none kV_is_circuit dc_is_circuit pm_is_circuit an_is_circuit cd_is_circuit ct_is_circuit), sl_is_circuit⟩)
    (c_is_circuit : PySem.W.codeIn K cd_is_circuit "is_circuit" = true) (k_is_circuit : PySem.W.keepIn K (.ref f_is_circuit) = true)
    {f_check_circuit : Addr} {od_check_circuit an_check_circuit : Option Addr} {sl_check_circuit : Array (Option Value)} {oc_check_circuit kV_check_circuit dc_check_circuit pm_check_circuit cd_check_circuit ct_check_circuit : Value}
    (a_check_circuit : PySem.W.nsIn K mainGlobals "check_circuit" = some (some (.ref f_check_circuit)))
    (l_check_circuit : K.lookup f_check_circuit = some ⟨oc_check_circuit, od_check_circuit, .func (PySem.W.fnOf "check_circuit" "check_circuit" (defArgs st_check_circuit) (defBody st_check_circuit) (defScope st_check_circuit) .none kV_check_circuit dc_check_circuit pm_check_circuit an_check_circuit cd_check_circuit ct_check_circuit), sl_check_circuit⟩)
    (c_check_circuit : PySem.W.codeIn K cd_check_circuit "check_circuit" = true) (k_check_circuit : PySem.W.keepIn K (.ref f_check_circuit) = true)
    {f_is_without : Addr} {od_is_without an_is_without : Option Addr} {sl_is_without : Array (Option Value)} {oc_is_without kV_is_without dc_is_without pm_is_without cd_is_without ct_is_without : Value}
    (a_is_without : PySem.W.nsIn K mainGlobals "is_without" = some (some (.ref f_is_without)))
    (l_is_without : K.lookup f_is_without = some ⟨oc_is_without, od_is_without, .func (PySem.W.fnOf "is_without" "is_without" (defArgs st_is_without) (defBody st_is_without) (defScope st_is_without) .none kV_is_without dc_is_without pm_is_without an_is_without cd_is_without ct_is_without), sl_is_without⟩)
    (c_is_without : PySem.W.codeIn K cd_is_without "is_without" = true) (k_is_without : PySem.W.keepIn K (.ref f_is_without) = true)
    {f_check_clifford : Addr} {od_check_clifford an_check_clifford : Option Addr} {sl_check_clifford : Array (Option Value)} {oc_check_clifford kV_check_clifford dc_check_clifford pm_check_clifford cd_check_clifford ct_check_clifford : Value}
    (a_check_clifford : PySem.W.nsIn K mainGlobals "check_clifford" = some (some (.ref f_check_clifford)))
    (l_check_clifford : K.lookup f_check_clifford = some ⟨oc_check_clifford, od_check_clifford, .func (PySem.W.fnOf "check_clifford" "check_clifford" (defArgs st_check_clifford) (defBody st_check_clifford) (defScope st_check_clifford) .none kV_check_clifford dc_check_clifford pm_check_clifford an_check_clifford cd_check_clifford ct_check_clifford), sl_check_clifford⟩)
    (c_check_clifford : PySem.W.codeIn K cd_check_clifford "check_clifford" = true) (k_check_clifford : PySem.W.keepIn K (.ref f_check_clifford) = true)
    {f_letter_at : Addr} {od_letter_at an_letter_at : Option Addr} {sl_letter_at : Array (Option Value)} {oc_letter_at kV_letter_at dc_letter_at pm_letter_at cd_letter_at ct_letter_at : Value}
    (a_letter_at : PySem.W.nsIn K mainGlobals "letter_at" = some (some (.ref f_letter_at)))
    (l_letter_at : K.lookup f_letter_at = some ⟨oc_letter_at, od_letter_at, .func (PySem.W.fnOf "letter_at" "letter_at" (defArgs st_letter_at) (defBody st_letter_at) (defScope st_letter_at) .none kV_letter_at dc_letter_at pm_letter_at an_letter_at cd_letter_at ct_letter_at), sl_letter_at⟩)
    (c_letter_at : PySem.W.codeIn K cd_letter_at "letter_at" = true) (k_letter_at : PySem.W.keepIn K (.ref f_letter_at) = true)
    {f_ones_of : Addr} {od_ones_of an_ones_of : Option Addr} {sl_ones_of : Array (Option Value)} {oc_ones_of kV_ones_of dc_ones_of pm_ones_of cd_ones_of ct_ones_of : Value}
    (a_ones_of : PySem.W.nsIn K mainGlobals "ones_of" = some (some (.ref f_ones_of)))
    (l_ones_of : K.lookup f_ones_of = some ⟨oc_ones_of, od_ones_of, .func (PySem.W.fnOf "ones_of" "ones_of" (defArgs st_ones_of) (defBody st_ones_of) (defScope st_ones_of) .none kV_ones_of dc_ones_of pm_ones_of an_ones_of cd_ones_of ct_ones_of), sl_ones_of⟩)
    (c_ones_of : PySem.W.codeIn K cd_ones_of "ones_of" = true) (k_ones_of : PySem.W.keepIn K (.ref f_ones_of) = true)
    {f_product_of : Addr} {od_product_of an_product_of : Option Addr} {sl_product_of : Array (Option Value)} {oc_product_of kV_product_of dc_product_of pm_product_of cd_product_of ct_product_of : Value}
    (a_product_of : PySem.W.nsIn K mainGlobals "product_of" = some (some (.ref f_product_of)))
    (l_product_of : K.lookup f_product_of = some ⟨oc_product_of, od_product_of, .func (PySem.W.fnOf "product_of" "product_of" (defArgs st_product_of) (defBody st_product_of) (defScope st_product_of) .none kV_product_of dc_product_of pm_product_of an_product_of cd_product_of ct_product_of), sl_product_of⟩)
    (c_product_of : PySem.W.codeIn K cd_product_of "product_of" = true) (k_product_of : PySem.W.keepIn K (.ref f_product_of) = true)
    {f_led_by : Addr} {od_led_by an_led_by : Option Addr} {sl_led_by : Array (Option Value)} {oc_led_by kV_led_by dc_led_by pm_led_by cd_led_by ct_led_by : Value}
    (a_led_by : PySem.W.nsIn K mainGlobals "led_by" = some (some (.ref f_led_by)))
    (l_led_by : K.lookup f_led_by = some ⟨oc_led_by, od_led_by, .func (PySem.W.fnOf "led_by" "led_by" (defArgs st_led_by) (defBody st_led_by) (defScope st_led_by) .none kV_led_by dc_led_by pm_led_by an_led_by cd_led_by ct_led_by), sl_led_by⟩)
    (c_led_by : PySem.W.codeIn K cd_led_by "led_by" = true) (k_led_by : PySem.W.keepIn K (.ref f_led_by) = true)
    {f_led_by_all : Addr} {od_led_by_all an_led_by_all : Option Addr} {sl_led_by_all : Array (Option Value)} {oc_led_by_all kV_led_by_all dc_led_by_all pm_led_by_all cd_led_by_all ct_led_by_all : Value}
    (a_led_by_all : PySem.W.nsIn K mainGlobals "led_by_all" = some (some (.ref f_led_by_all)))
    (l_led_by_all : K.lookup f_led_by_all = some ⟨oc_led_by_all, od_led_by_all, .func (PySem.W.fnOf "led_by_all" "led_by_all" (defArgs st_led_by_all) (defBody st_led_by_all) (defScope st_led_by_all) .none kV_led_by_all dc_led_by_all pm_led_by_all an_led_by_all cd_led_by_all ct_led_by_all), sl_led_by_all⟩)
    (c_led_by_all : PySem.W.codeIn K cd_led_by_all "led_by_all" = true) (k_led_by_all : PySem.W.keepIn K (.ref f_led_by_all) = true)
    {f_led_of : Addr} {od_led_of an_led_of : Option Addr} {sl_led_of : Array (Option Value)} {oc_led_of kV_led_of dc_led_of pm_led_of cd_led_of ct_led_of : Value}
    (a_led_of : PySem.W.nsIn K mainGlobals "led_of" = some (some (.ref f_led_of)))
    (l_led_of : K.lookup f_led_of = some ⟨oc_led_of, od_led_of, .func (PySem.W.fnOf "led_of" "led_of" (defArgs st_led_of) (defBody st_led_of) (defScope st_led_of) .none kV_led_of dc_led_of pm_led_of an_led_of cd_led_of ct_led_of), sl_led_of⟩)
    (c_led_of : PySem.W.codeIn K cd_led_of "led_of" = true) (k_led_of : PySem.W.keepIn K (.ref f_led_of) = true)
    {f_table_of_right : Addr} {od_table_of_right an_table_of_right : Option Addr} {sl_table_of_right : Array (Option Value)} {oc_table_of_right kV_table_of_right dc_table_of_right pm_table_of_right cd_table_of_right ct_table_of_right : Value}
    (a_table_of_right : PySem.W.nsIn K mainGlobals "table_of_right" = some (some (.ref f_table_of_right)))
    (l_table_of_right : K.lookup f_table_of_right = some ⟨oc_table_of_right, od_table_of_right, .func (PySem.W.fnOf "table_of_right" "table_of_right" (defArgs st_table_of_right) (defBody st_table_of_right) (defScope st_table_of_right) .none kV_table_of_right dc_table_of_right pm_table_of_right an_table_of_right cd_table_of_right ct_table_of_right), sl_table_of_right⟩)
    (c_table_of_right : PySem.W.codeIn K cd_table_of_right "table_of_right" = true) (k_table_of_right : PySem.W.keepIn K (.ref f_table_of_right) = true)
    {f_table_of : Addr} {od_table_of an_table_of : Option Addr} {sl_table_of : Array (Option Value)} {oc_table_of kV_table_of dc_table_of pm_table_of cd_table_of ct_table_of : Value}
    (a_table_of : PySem.W.nsIn K mainGlobals "table_of" = some (some (.ref f_table_of)))
    (l_table_of : K.lookup f_table_of = some ⟨oc_table_of, od_table_of, .func (PySem.W.fnOf "table_of" "table_of" (defArgs st_table_of) (defBody st_table_of) (defScope st_table_of) .none kV_table_of dc_table_of pm_table_of an_table_of cd_table_of ct_table_of), sl_table_of⟩)
    (c_table_of : PySem.W.codeIn K cd_table_of "table_of" = true) (k_table_of : PySem.W.keepIn K (.ref f_table_of) = true)
    {f_check_two : Addr} {od_check_two an_check_two : Option Addr} {sl_check_two : Array (Option Value)} {oc_check_two kV_check_two dc_check_two pm_check_two cd_check_two ct_check_two : Value}
    (a_check_two : PySem.W.nsIn K mainGlobals "check_two" = some (some (.ref f_check_two)))
    (l_check_two : K.lookup f_check_two = some ⟨oc_check_two, od_check_two, .func (PySem.W.fnOf "check_two" "check_two" (defArgs st_check_two) (defBody st_check_two) (defScope st_check_two) .none kV_check_two dc_check_two pm_check_two an_check_two cd_check_two ct_check_two), sl_check_two⟩)
    (c_check_two : PySem.W.codeIn K cd_check_two "check_two" = true) (k_check_two : PySem.W.keepIn K (.ref f_check_two) = true)
    {f_joined_of : Addr} {od_joined_of an_joined_of : Option Addr} {sl_joined_of : Array (Option Value)} {oc_joined_of kV_joined_of dc_joined_of pm_joined_of cd_joined_of ct_joined_of : Value}
    (a_joined_of : PySem.W.nsIn K mainGlobals "joined_of" = some (some (.ref f_joined_of)))
    (l_joined_of : K.lookup f_joined_of = some ⟨oc_joined_of, od_joined_of, .func (PySem.W.fnOf "joined_of" "joined_of" (defArgs st_joined_of) (defBody st_joined_of) (defScope st_joined_of) .none kV_joined_of dc_joined_of pm_joined_of an_joined_of cd_joined_of ct_joined_of), sl_joined_of⟩)
    (c_joined_of : PySem.W.codeIn K cd_joined_of "joined_of" = true) (k_joined_of : PySem.W.keepIn K (.ref f_joined_of) = true)
    {f_joined : Addr} {od_joined an_joined : Option Addr} {sl_joined : Array (Option Value)} {oc_joined kV_joined dc_joined pm_joined cd_joined ct_joined : Value}
    (a_joined : PySem.W.nsIn K mainGlobals "joined" = some (some (.ref f_joined)))
    (l_joined : K.lookup f_joined = some ⟨oc_joined, od_joined, .func (PySem.W.fnOf "joined" "joined" (defArgs st_joined) (defBody st_joined) (defScope st_joined) .none kV_joined dc_joined pm_joined an_joined cd_joined ct_joined), sl_joined⟩)
    (c_joined : PySem.W.codeIn K cd_joined "joined" = true) (k_joined : PySem.W.keepIn K (.ref f_joined) = true)
    {f_is_pauli : Addr} {od_is_pauli an_is_pauli : Option Addr} {sl_is_pauli : Array (Option Value)} {oc_is_pauli kV_is_pauli dc_is_pauli pm_is_pauli cd_is_pauli ct_is_pauli : Value}
    (a_is_pauli : PySem.W.nsIn K mainGlobals "is_pauli" = some (some (.ref f_is_pauli)))
    (l_is_pauli : K.lookup f_is_pauli = some ⟨oc_is_pauli, od_is_pauli, .func (PySem.W.fnOf "is_pauli" "is_pauli" (defArgs st_is_pauli) (defBody st_is_pauli) (defScope st_is_pauli) .none kV_is_pauli dc_is_pauli pm_is_pauli an_is_pauli cd_is_pauli ct_is_pauli), sl_is_pauli⟩)
    (c_is_pauli : PySem.W.codeIn K cd_is_pauli "is_pauli" = true) (k_is_pauli : PySem.W.keepIn K (.ref f_is_pauli) = true)
    {f_is_upright : Addr} {od_is_upright an_is_upright : Option Addr} {sl_is_upright : Array (Option Value)} {oc_is_upright kV_is_upright dc_is_upright pm_is_upright cd_is_upright ct_is_upright : Value}
    (a_is_upright : PySem.W.nsIn K mainGlobals "is_upright" = some (some (.ref f_is_upright)))
    (l_is_upright : K.lookup f_is_upright = some ⟨oc_is_upright, od_is_upright, .func (PySem.W.fnOf "is_upright" "is_upright" (defArgs st_is_upright) (defBody st_is_upright) (defScope st_is_upright) .none kV_is_upright dc_is_upright pm_is_upright an_is_upright cd_is_upright ct_is_upright), sl_is_upright⟩)
    (c_is_upright : PySem.W.codeIn K cd_is_upright "is_upright" = true) (k_is_upright : PySem.W.keepIn K (.ref f_is_upright) = true)
    {f_meets_of : Addr} {od_meets_of an_meets_of : Option Addr} {sl_meets_of : Array (Option Value)} {oc_meets_of kV_meets_of dc_meets_of pm_meets_of cd_meets_of ct_meets_of : Value}
    (a_meets_of : PySem.W.nsIn K mainGlobals "meets_of" = some (some (.ref f_meets_of)))
    (l_meets_of : K.lookup f_meets_of = some ⟨oc_meets_of, od_meets_of, .func (PySem.W.fnOf "meets_of" "meets_of" (defArgs st_meets_of) (defBody st_meets_of) (defScope st_meets_of) .none kV_meets_of dc_meets_of pm_meets_of an_meets_of cd_meets_of ct_meets_of), sl_meets_of⟩)
    (c_meets_of : PySem.W.codeIn K cd_meets_of "meets_of" = true) (k_meets_of : PySem.W.keepIn K (.ref f_meets_of) = true)
    {f_is_table : Addr} {od_is_table an_is_table : Option Addr} {sl_is_table : Array (Option Value)} {oc_is_table kV_is_table dc_is_table pm_is_table cd_is_table ct_is_table : Value}
    (a_is_table : PySem.W.nsIn K mainGlobals "is_table" = some (some (.ref f_is_table)))
    (l_is_table : K.lookup f_is_table = some ⟨oc_is_table, od_is_table, .func (PySem.W.fnOf "is_table" "is_table" (defArgs st_is_table) (defBody st_is_table) (defScope st_is_table) .none kV_is_table dc_is_table pm_is_table an_is_table cd_is_table ct_is_table), sl_is_table⟩)
    (c_is_table : PySem.W.codeIn K cd_is_table "is_table" = true) (k_is_table : PySem.W.keepIn K (.ref f_is_table) = true)
    {f_check_table : Addr} {od_check_table an_check_table : Option Addr} {sl_check_table : Array (Option Value)} {oc_check_table kV_check_table dc_check_table pm_check_table cd_check_table ct_check_table : Value}
    (a_check_table : PySem.W.nsIn K mainGlobals "check_table" = some (some (.ref f_check_table)))
    (l_check_table : K.lookup f_check_table = some ⟨oc_check_table, od_check_table, .func (PySem.W.fnOf "check_table" "check_table" (defArgs st_check_table) (defBody st_check_table) (defScope st_check_table) .none kV_check_table dc_check_table pm_check_table an_check_table cd_check_table ct_check_table), sl_check_table⟩)
    (c_check_table : PySem.W.codeIn K cd_check_table "check_table" = true) (k_check_table : PySem.W.keepIn K (.ref f_check_table) = true)
    {f_check_two_tables : Addr} {od_check_two_tables an_check_two_tables : Option Addr} {sl_check_two_tables : Array (Option Value)} {oc_check_two_tables kV_check_two_tables dc_check_two_tables pm_check_two_tables cd_check_two_tables ct_check_two_tables : Value}
    (a_check_two_tables : PySem.W.nsIn K mainGlobals "check_two_tables" = some (some (.ref f_check_two_tables)))
    (l_check_two_tables : K.lookup f_check_two_tables = some ⟨oc_check_two_tables, od_check_two_tables, .func (PySem.W.fnOf "check_two_tables" "check_two_tables" (defArgs st_check_two_tables) (defBody st_check_two_tables) (defScope st_check_two_tables) .none kV_check_two_tables dc_check_two_tables pm_check_two_tables an_check_two_tables cd_check_two_tables ct_check_two_tables), sl_check_two_tables⟩)
    (c_check_two_tables : PySem.W.codeIn K cd_check_two_tables "check_two_tables" = true) (k_check_two_tables : PySem.W.keepIn K (.ref f_check_two_tables) = true)
    {f_led_by_table : Addr} {od_led_by_table an_led_by_table : Option Addr} {sl_led_by_table : Array (Option Value)} {oc_led_by_table kV_led_by_table dc_led_by_table pm_led_by_table cd_led_by_table ct_led_by_table : Value}
    (a_led_by_table : PySem.W.nsIn K mainGlobals "led_by_table" = some (some (.ref f_led_by_table)))
    (l_led_by_table : K.lookup f_led_by_table = some ⟨oc_led_by_table, od_led_by_table, .func (PySem.W.fnOf "led_by_table" "led_by_table" (defArgs st_led_by_table) (defBody st_led_by_table) (defScope st_led_by_table) .none kV_led_by_table dc_led_by_table pm_led_by_table an_led_by_table cd_led_by_table ct_led_by_table), sl_led_by_table⟩)
    (c_led_by_table : PySem.W.codeIn K cd_led_by_table "led_by_table" = true) (k_led_by_table : PySem.W.keepIn K (.ref f_led_by_table) = true)
    {f_composed_of : Addr} {od_composed_of an_composed_of : Option Addr} {sl_composed_of : Array (Option Value)} {oc_composed_of kV_composed_of dc_composed_of pm_composed_of cd_composed_of ct_composed_of : Value}
    (a_composed_of : PySem.W.nsIn K mainGlobals "composed_of" = some (some (.ref f_composed_of)))
    (l_composed_of : K.lookup f_composed_of = some ⟨oc_composed_of, od_composed_of, .func (PySem.W.fnOf "composed_of" "composed_of" (defArgs st_composed_of) (defBody st_composed_of) (defScope st_composed_of) .none kV_composed_of dc_composed_of pm_composed_of an_composed_of cd_composed_of ct_composed_of), sl_composed_of⟩)
    (c_composed_of : PySem.W.codeIn K cd_composed_of "composed_of" = true) (k_composed_of : PySem.W.keepIn K (.ref f_composed_of) = true)
    {f_composed : Addr} {od_composed an_composed : Option Addr} {sl_composed : Array (Option Value)} {oc_composed kV_composed dc_composed pm_composed cd_composed ct_composed : Value}
    (a_composed : PySem.W.nsIn K mainGlobals "composed" = some (some (.ref f_composed)))
    (l_composed : K.lookup f_composed = some ⟨oc_composed, od_composed, .func (PySem.W.fnOf "composed" "composed" (defArgs st_composed) (defBody st_composed) (defScope st_composed) .none kV_composed dc_composed pm_composed an_composed cd_composed ct_composed), sl_composed⟩)
    (c_composed : PySem.W.codeIn K cd_composed "composed" = true) (k_composed : PySem.W.keepIn K (.ref f_composed) = true)
    {f_undone_of : Addr} {od_undone_of an_undone_of : Option Addr} {sl_undone_of : Array (Option Value)} {oc_undone_of kV_undone_of dc_undone_of pm_undone_of cd_undone_of ct_undone_of : Value}
    (a_undone_of : PySem.W.nsIn K mainGlobals "undone_of" = some (some (.ref f_undone_of)))
    (l_undone_of : K.lookup f_undone_of = some ⟨oc_undone_of, od_undone_of, .func (PySem.W.fnOf "undone_of" "undone_of" (defArgs st_undone_of) (defBody st_undone_of) (defScope st_undone_of) .none kV_undone_of dc_undone_of pm_undone_of an_undone_of cd_undone_of ct_undone_of), sl_undone_of⟩)
    (c_undone_of : PySem.W.codeIn K cd_undone_of "undone_of" = true) (k_undone_of : PySem.W.keepIn K (.ref f_undone_of) = true)
    {f_undone : Addr} {od_undone an_undone : Option Addr} {sl_undone : Array (Option Value)} {oc_undone kV_undone dc_undone pm_undone cd_undone ct_undone : Value}
    (a_undone : PySem.W.nsIn K mainGlobals "undone" = some (some (.ref f_undone)))
    (l_undone : K.lookup f_undone = some ⟨oc_undone, od_undone, .func (PySem.W.fnOf "undone" "undone" (defArgs st_undone) (defBody st_undone) (defScope st_undone) .none kV_undone dc_undone pm_undone an_undone cd_undone ct_undone), sl_undone⟩)
    (c_undone : PySem.W.codeIn K cd_undone "undone" = true) (k_undone : PySem.W.keepIn K (.ref f_undone) = true)
    {f_undone_letters : Addr} {od_undone_letters an_undone_letters : Option Addr} {sl_undone_letters : Array (Option Value)} {oc_undone_letters kV_undone_letters dc_undone_letters pm_undone_letters cd_undone_letters ct_undone_letters : Value}
    (a_undone_letters : PySem.W.nsIn K mainGlobals "undone_letters" = some (some (.ref f_undone_letters)))
    (l_undone_letters : K.lookup f_undone_letters = some ⟨oc_undone_letters, od_undone_letters, .func (PySem.W.fnOf "undone_letters" "undone_letters" (defArgs st_undone_letters) (defBody st_undone_letters) (defScope st_undone_letters) .none kV_undone_letters dc_undone_letters pm_undone_letters an_undone_letters cd_undone_letters ct_undone_letters), sl_undone_letters⟩)
    (c_undone_letters : PySem.W.codeIn K cd_undone_letters "undone_letters" = true) (k_undone_letters : PySem.W.keepIn K (.ref f_undone_letters) = true)
    {f_undone_table : Addr} {od_undone_table an_undone_table : Option Addr} {sl_undone_table : Array (Option Value)} {oc_undone_table kV_undone_table dc_undone_table pm_undone_table cd_undone_table ct_undone_table : Value}
    (a_undone_table : PySem.W.nsIn K mainGlobals "undone_table" = some (some (.ref f_undone_table)))
    (l_undone_table : K.lookup f_undone_table = some ⟨oc_undone_table, od_undone_table, .func (PySem.W.fnOf "undone_table" "undone_table" (defArgs st_undone_table) (defBody st_undone_table) (defScope st_undone_table) .none kV_undone_table dc_undone_table pm_undone_table an_undone_table cd_undone_table ct_undone_table), sl_undone_table⟩)
    (c_undone_table : PySem.W.codeIn K cd_undone_table "undone_table" = true) (k_undone_table : PySem.W.keepIn K (.ref f_undone_table) = true)
    {f_table_undone : Addr} {od_table_undone an_table_undone : Option Addr} {sl_table_undone : Array (Option Value)} {oc_table_undone kV_table_undone dc_table_undone pm_table_undone cd_table_undone ct_table_undone : Value}
    (a_table_undone : PySem.W.nsIn K mainGlobals "table_undone" = some (some (.ref f_table_undone)))
    (l_table_undone : K.lookup f_table_undone = some ⟨oc_table_undone, od_table_undone, .func (PySem.W.fnOf "table_undone" "table_undone" (defArgs st_table_undone) (defBody st_table_undone) (defScope st_table_undone) .none kV_table_undone dc_table_undone pm_table_undone an_table_undone cd_table_undone ct_table_undone), sl_table_undone⟩)
    (c_table_undone : PySem.W.codeIn K cd_table_undone "table_undone" = true) (k_table_undone : PySem.W.keepIn K (.ref f_table_undone) = true)
    {f__law_drawn : Addr} {od__law_drawn an__law_drawn : Option Addr} {sl__law_drawn : Array (Option Value)} {oc__law_drawn kV__law_drawn dc__law_drawn pm__law_drawn cd__law_drawn ct__law_drawn : Value}
    (a__law_drawn : PySem.W.nsIn K mainGlobals "_law_drawn" = some (some (.ref f__law_drawn)))
    (l__law_drawn : K.lookup f__law_drawn = some ⟨oc__law_drawn, od__law_drawn, .func (PySem.W.fnOf "_law_drawn" "_law_drawn" (defArgs st__law_drawn) (defBody st__law_drawn) (defScope st__law_drawn) .none kV__law_drawn dc__law_drawn pm__law_drawn an__law_drawn cd__law_drawn ct__law_drawn), sl__law_drawn⟩)
    (c__law_drawn : PySem.W.codeIn K cd__law_drawn "_law_drawn" = true) (k__law_drawn : PySem.W.keepIn K (.ref f__law_drawn) = true)
    {f_check_pauli : Addr} {od_check_pauli an_check_pauli : Option Addr} {sl_check_pauli : Array (Option Value)} {oc_check_pauli kV_check_pauli dc_check_pauli pm_check_pauli cd_check_pauli ct_check_pauli : Value}
    (a_check_pauli : PySem.W.nsIn K mainGlobals "check_pauli" = some (some (.ref f_check_pauli)))
    (l_check_pauli : K.lookup f_check_pauli = some ⟨oc_check_pauli, od_check_pauli, .func (PySem.W.fnOf "check_pauli" "check_pauli" (defArgs st_check_pauli) (defBody st_check_pauli) (defScope st_check_pauli) .none kV_check_pauli dc_check_pauli pm_check_pauli an_check_pauli cd_check_pauli ct_check_pauli), sl_check_pauli⟩)
    (c_check_pauli : PySem.W.codeIn K cd_check_pauli "check_pauli" = true) (k_check_pauli : PySem.W.keepIn K (.ref f_check_pauli) = true)
    {f_table_led : Addr} {od_table_led an_table_led : Option Addr} {sl_table_led : Array (Option Value)} {oc_table_led kV_table_led dc_table_led pm_table_led cd_table_led ct_table_led : Value}
    (a_table_led : PySem.W.nsIn K mainGlobals "table_led" = some (some (.ref f_table_led)))
    (l_table_led : K.lookup f_table_led = some ⟨oc_table_led, od_table_led, .func (PySem.W.fnOf "table_led" "table_led" (defArgs st_table_led) (defBody st_table_led) (defScope st_table_led) .none kV_table_led dc_table_led pm_table_led an_table_led cd_table_led ct_table_led), sl_table_led⟩)
    (c_table_led : PySem.W.codeIn K cd_table_led "table_led" = true) (k_table_led : PySem.W.keepIn K (.ref f_table_led) = true)
    {f_led : Addr} {od_led an_led : Option Addr} {sl_led : Array (Option Value)} {oc_led kV_led dc_led pm_led cd_led ct_led : Value}
    (a_led : PySem.W.nsIn K mainGlobals "led" = some (some (.ref f_led)))
    (l_led : K.lookup f_led = some ⟨oc_led, od_led, .func (PySem.W.fnOf "led" "led" (defArgs st_led) (defBody st_led) (defScope st_led) .none kV_led dc_led pm_led an_led cd_led ct_led), sl_led⟩)
    (c_led : PySem.W.codeIn K cd_led "led" = true) (k_led : PySem.W.keepIn K (.ref f_led) = true)
    {f__law_times : Addr} {od__law_times an__law_times : Option Addr} {sl__law_times : Array (Option Value)} {oc__law_times kV__law_times dc__law_times pm__law_times cd__law_times ct__law_times : Value}
    (a__law_times : PySem.W.nsIn K mainGlobals "_law_times" = some (some (.ref f__law_times)))
    (l__law_times : K.lookup f__law_times = some ⟨oc__law_times, od__law_times, .func (PySem.W.fnOf "_law_times" "_law_times" (defArgs st__law_times) (defBody st__law_times) (defScope st__law_times) .none kV__law_times dc__law_times pm__law_times an__law_times cd__law_times ct__law_times), sl__law_times⟩)
    (c__law_times : PySem.W.codeIn K cd__law_times "_law_times" = true) (k__law_times : PySem.W.keepIn K (.ref f__law_times) = true)
    {f__law_table_led : Addr} {od__law_table_led an__law_table_led : Option Addr} {sl__law_table_led : Array (Option Value)} {oc__law_table_led kV__law_table_led dc__law_table_led pm__law_table_led cd__law_table_led ct__law_table_led : Value}
    (a__law_table_led : PySem.W.nsIn K mainGlobals "_law_table_led" = some (some (.ref f__law_table_led)))
    (l__law_table_led : K.lookup f__law_table_led = some ⟨oc__law_table_led, od__law_table_led, .func (PySem.W.fnOf "_law_table_led" "_law_table_led" (defArgs st__law_table_led) (defBody st__law_table_led) (defScope st__law_table_led) .none kV__law_table_led dc__law_table_led pm__law_table_led an__law_table_led cd__law_table_led ct__law_table_led), sl__law_table_led⟩)
    (c__law_table_led : PySem.W.codeIn K cd__law_table_led "_law_table_led" = true) (k__law_table_led : PySem.W.keepIn K (.ref f__law_table_led) = true)
    {f__law_table : Addr} {od__law_table an__law_table : Option Addr} {sl__law_table : Array (Option Value)} {oc__law_table kV__law_table dc__law_table pm__law_table cd__law_table ct__law_table : Value}
    (a__law_table : PySem.W.nsIn K mainGlobals "_law_table" = some (some (.ref f__law_table)))
    (l__law_table : K.lookup f__law_table = some ⟨oc__law_table, od__law_table, .func (PySem.W.fnOf "_law_table" "_law_table" (defArgs st__law_table) (defBody st__law_table) (defScope st__law_table) .none kV__law_table dc__law_table pm__law_table an__law_table cd__law_table ct__law_table), sl__law_table⟩)
    (c__law_table : PySem.W.codeIn K cd__law_table "_law_table" = true) (k__law_table : PySem.W.keepIn K (.ref f__law_table) = true)
    {f_law : Addr} {od_law an_law : Option Addr} {sl_law : Array (Option Value)} {oc_law kV_law dc_law pm_law cd_law ct_law : Value}
    (a_law : PySem.W.nsIn K mainGlobals "law" = some (some (.ref f_law)))
    (l_law : K.lookup f_law = some ⟨oc_law, od_law, .func (PySem.W.fnOf "law" "law" (defArgs st_law) (defBody st_law) (defScope st_law) .none kV_law dc_law pm_law an_law cd_law ct_law), sl_law⟩)
    (c_law : PySem.W.codeIn K cd_law "law" = true) (k_law : PySem.W.keepIn K (.ref f_law) = true)
    (z_list : PySem.W.nsIn K mainGlobals "list" = some none)
    (z_len : PySem.W.nsIn K mainGlobals "len" = some none)
    (z_int : PySem.W.nsIn K mainGlobals "int" = some none)
    (z_range : PySem.W.nsIn K mainGlobals "range" = some none)
    (z_tuple : PySem.W.nsIn K mainGlobals "tuple" = some none)
    (z_min : PySem.W.nsIn K mainGlobals "min" = some none)
    (z_isinstance : PySem.W.nsIn K mainGlobals "isinstance" = some none)
    (z_all : PySem.W.nsIn K mainGlobals "all" = some none)
    (z_bool : PySem.W.nsIn K mainGlobals "bool" = some none)
    (z_str : PySem.W.nsIn K mainGlobals "str" = some none)
    (z_zip : PySem.W.nsIn K mainGlobals "zip" = some none)
    (z_enumerate : PySem.W.nsIn K mainGlobals "enumerate" = some none)
    (z_sum : PySem.W.nsIn K mainGlobals "sum" = some none)
    {ad_GATES : Addr} {es_GATES : Array DictEntry} {nd_GATES : Nat} (gd_GATES : PySem.W.nsIn K mainGlobals "GATES" = some (some (.ref ad_GATES))) (ld_GATES : K.lookup ad_GATES = some ⟨.type "dict", none, .dict es_GATES nd_GATES, #[]⟩)
    (kd_GATES : PySem.W.KeysLit w.params es_GATES.toList) (od_GATES : (ad_GATES == sysModules) = false) (vd_GATES : dentB K d_GATES es_GATES.toList = true)
    {ad_TURNED : Addr} {es_TURNED : Array DictEntry} {nd_TURNED : Nat} (gd_TURNED : PySem.W.nsIn K mainGlobals "TURNED" = some (some (.ref ad_TURNED))) (ld_TURNED : K.lookup ad_TURNED = some ⟨.type "dict", none, .dict es_TURNED nd_TURNED, #[]⟩)
    (kd_TURNED : PySem.W.KeysLit w.params es_TURNED.toList) (od_TURNED : (ad_TURNED == sysModules) = false) (vd_TURNED : dentB K d_TURNED es_TURNED.toList = true)
    {ad_PRODUCTS : Addr} {es_PRODUCTS : Array DictEntry} {nd_PRODUCTS : Nat} (gd_PRODUCTS : PySem.W.nsIn K mainGlobals "PRODUCTS" = some (some (.ref ad_PRODUCTS))) (ld_PRODUCTS : K.lookup ad_PRODUCTS = some ⟨.type "dict", none, .dict es_PRODUCTS nd_PRODUCTS, #[]⟩)
    (kd_PRODUCTS : PySem.W.KeysLit w.params es_PRODUCTS.toList) (od_PRODUCTS : (ad_PRODUCTS == sysModules) = false) (vd_PRODUCTS : dentB K d_PRODUCTS es_PRODUCTS.toList = true)
    {ad_LED : Addr} {es_LED : Array DictEntry} {nd_LED : Nat} (gd_LED : PySem.W.nsIn K mainGlobals "LED" = some (some (.ref ad_LED))) (ld_LED : K.lookup ad_LED = some ⟨.type "dict", none, .dict es_LED nd_LED, #[]⟩)
    (kd_LED : PySem.W.KeysLit w.params es_LED.toList) (od_LED : (ad_LED == sysModules) = false) (vd_LED : dentB K d_LED es_LED.toList = true)
    {ad_FIRST : Addr} {es_FIRST : Array DictEntry} {nd_FIRST : Nat} (gd_FIRST : PySem.W.nsIn K mainGlobals "FIRST" = some (some (.ref ad_FIRST))) (ld_FIRST : K.lookup ad_FIRST = some ⟨.type "dict", none, .dict es_FIRST nd_FIRST, #[]⟩)
    (kd_FIRST : PySem.W.KeysLit w.params es_FIRST.toList) (od_FIRST : (ad_FIRST == sysModules) = false) (vd_FIRST : dentB K d_FIRST es_FIRST.toList = true)
    {ad_SECOND : Addr} {es_SECOND : Array DictEntry} {nd_SECOND : Nat} (gd_SECOND : PySem.W.nsIn K mainGlobals "SECOND" = some (some (.ref ad_SECOND))) (ld_SECOND : K.lookup ad_SECOND = some ⟨.type "dict", none, .dict es_SECOND nd_SECOND, #[]⟩)
    (kd_SECOND : PySem.W.KeysLit w.params es_SECOND.toList) (od_SECOND : (ad_SECOND == sysModules) = false) (vd_SECOND : dentB K d_SECOND es_SECOND.toList = true)
    : ∃ fd : FuncData, (∀ (s : Shared) (v : Value), BindsTo s fd ⟨[v], []⟩ [("script", v)]) ∧ ∀ base : Heap, K.In base → base.Ns mainGlobals mg → FnOk l.prog w K mg base L2.CX0 8 fa fd ["script"] (spLaw K) := by
  have e := hfa.symm.trans (PySem.W.mg_of X G a_law)
  cases e
  have F__law_pot := fun_mk (st := st__law_pot) l__law_pot c__law_pot k__law_pot
  have b__law_pot := F__law_pot.binds (ps := ["script"]) fun _ _ _ _ _ _ us hl => match us, hl with | [_], _ => rfl
  have F__law_take := fun_mk (st := st__law_take) l__law_take c__law_take k__law_take
  have b__law_take := F__law_take.binds (ps := ["pot", "many"]) fun _ _ _ _ _ _ us hl => match us, hl with | [_, _], _ => rfl
  have F__law_gates := fun_mk (st := st__law_gates) l__law_gates c__law_gates k__law_gates
  have b__law_gates := F__law_gates.binds (ps := ["pot", "many", "most", "names"]) fun _ _ _ _ _ _ us hl => match us, hl with | [_, _, _, _], _ => rfl
  have F__law_names := fun_mk (st := st__law_names) l__law_names c__law_names k__law_names
  have b__law_names := F__law_names.binds (ps := []) fun _ _ _ _ _ _ us hl => match us, hl with | [], _ => rfl
  have F__law_split := fun_mk (st := st__law_split) l__law_split c__law_split k__law_split
  have b__law_split := F__law_split.binds (ps := ["pauli"]) fun _ _ _ _ _ _ us hl => match us, hl with | [_], _ => rfl
  have F__law_word := fun_mk (st := st__law_word) l__law_word c__law_word k__law_word
  have b__law_word := F__law_word.binds (ps := ["pieces"]) fun _ _ _ _ _ _ us hl => match us, hl with | [_], _ => rfl
  have F__law_led := fun_mk (st := st__law_led) l__law_led c__law_led k__law_led
  have b__law_led := F__law_led.binds (ps := ["gates", "pauli"]) fun _ _ _ _ _ _ us hl => match us, hl with | [_, _], _ => rfl
  have F__law_at := fun_mk (st := st__law_at) l__law_at c__law_at k__law_at
  have b__law_at := F__law_at.binds (ps := ["many", "line", "letter"]) fun _ _ _ _ _ _ us hl => match us, hl with | [_, _, _], _ => rfl
  have F__law_table_of := fun_mk (st := st__law_table_of) l__law_table_of c__law_table_of k__law_table_of
  have b__law_table_of := F__law_table_of.binds (ps := ["many", "gates"]) fun _ _ _ _ _ _ us hl => match us, hl with | [_, _], _ => rfl
  have F__law_same := fun_mk (st := st__law_same) l__law_same c__law_same k__law_same
  have b__law_same := F__law_same.binds (ps := ["got", "due"]) fun _ _ _ _ _ _ us hl => match us, hl with | [_, _], _ => rfl
  have F_is_integer := fun_mk (st := st_is_integer) l_is_integer c_is_integer k_is_integer
  have b_is_integer := F_is_integer.binds (ps := ["value"]) fun _ _ _ _ _ _ us hl => match us, hl with | [_], _ => rfl
  have F_is_natural := fun_mk (st := st_is_natural) l_is_natural c_is_natural k_is_natural
  have b_is_natural := F_is_natural.binds (ps := ["value"]) fun _ _ _ _ _ _ us hl => match us, hl with | [_], _ => rfl
  have F_is_gate := fun_mk (st := st_is_gate) l_is_gate c_is_gate k_is_gate
  have b_is_gate := F_is_gate.binds (ps := ["many", "value"]) fun _ _ _ _ _ _ us hl => match us, hl with | [_, _], _ => rfl
  have F_is_circuit := fun_mk (st := st_is_circuit) l_is_circuit c_is_circuit k_is_circuit
  have b_is_circuit := F_is_circuit.binds (ps := ["value"]) fun _ _ _ _ _ _ us hl => match us, hl with | [_], _ => rfl
  have F_check_circuit := fun_mk (st := st_check_circuit) l_check_circuit c_check_circuit k_check_circuit
  have b_check_circuit := F_check_circuit.binds (ps := ["circuit"]) fun _ _ _ _ _ _ us hl => match us, hl with | [_], _ => rfl
  have F_is_without := fun_mk (st := st_is_without) l_is_without c_is_without k_is_without
  have b_is_without := F_is_without.binds (ps := ["circuit", "names"]) fun _ _ _ _ _ _ us hl => match us, hl with | [_, _], _ => rfl
  have F_check_clifford := fun_mk (st := st_check_clifford) l_check_clifford c_check_clifford k_check_clifford
  have b_check_clifford := F_check_clifford.binds (ps := ["circuit"]) fun _ _ _ _ _ _ us hl => match us, hl with | [_], _ => rfl
  have F_letter_at := fun_mk (st := st_letter_at) l_letter_at c_letter_at k_letter_at
  have b_letter_at := F_letter_at.binds (ps := ["many", "line", "letter"]) fun _ _ _ _ _ _ us hl => match us, hl with | [_, _, _], _ => rfl
  have F_ones_of := fun_mk (st := st_ones_of) l_ones_of c_ones_of k_ones_of
  have b_ones_of := F_ones_of.binds (ps := ["many"]) fun _ _ _ _ _ _ us hl => match us, hl with | [_], _ => rfl
  have F_product_of := fun_mk (st := st_product_of) l_product_of c_product_of k_product_of
  have b_product_of := F_product_of.binds (ps := ["pauli", "second"]) fun _ _ _ _ _ _ us hl => match us, hl with | [_, _], _ => rfl
  have F_led_by := fun_mk (st := st_led_by) l_led_by c_led_by k_led_by
  have b_led_by := F_led_by.binds (ps := ["gate", "pauli"]) fun _ _ _ _ _ _ us hl => match us, hl with | [_, _], _ => rfl
  have F_led_by_all := fun_mk (st := st_led_by_all) l_led_by_all c_led_by_all k_led_by_all
  have b_led_by_all := F_led_by_all.binds (ps := ["gates", "pauli"]) fun _ _ _ _ _ _ us hl => match us, hl with | [_, _], _ => rfl
  have F_led_of := fun_mk (st := st_led_of) l_led_of c_led_of k_led_of
  have b_led_of := F_led_of.binds (ps := ["circuit", "pauli"]) fun _ _ _ _ _ _ us hl => match us, hl with | [_, _], _ => rfl
  have F_table_of_right := fun_mk (st := st_table_of_right) l_table_of_right c_table_of_right k_table_of_right
  have b_table_of_right := F_table_of_right.binds (ps := ["circuit"]) fun _ _ _ _ _ _ us hl => match us, hl with | [_], _ => rfl
  have F_table_of := fun_mk (st := st_table_of) l_table_of c_table_of k_table_of
  have b_table_of := F_table_of.binds (ps := ["circuit"]) fun _ _ _ _ _ _ us hl => match us, hl with | [_], _ => rfl
  have F_check_two := fun_mk (st := st_check_two) l_check_two c_check_two k_check_two
  have b_check_two := F_check_two.binds (ps := ["circuit", "second_circuit"]) fun _ _ _ _ _ _ us hl => match us, hl with | [_, _], _ => rfl
  have F_joined_of := fun_mk (st := st_joined_of) l_joined_of c_joined_of k_joined_of
  have b_joined_of := F_joined_of.binds (ps := ["circuit", "second_circuit"]) fun _ _ _ _ _ _ us hl => match us, hl with | [_, _], _ => rfl
  have F_joined := fun_mk (st := st_joined) l_joined c_joined k_joined
  have b_joined := F_joined.binds (ps := ["circuit", "second_circuit"]) fun _ _ _ _ _ _ us hl => match us, hl with | [_, _], _ => rfl
  have F_is_pauli := fun_mk (st := st_is_pauli) l_is_pauli c_is_pauli k_is_pauli
  have b_is_pauli := F_is_pauli.binds (ps := ["value"]) fun _ _ _ _ _ _ us hl => match us, hl with | [_], _ => rfl
  have F_is_upright := fun_mk (st := st_is_upright) l_is_upright c_is_upright k_is_upright
  have b_is_upright := F_is_upright.binds (ps := ["value"]) fun _ _ _ _ _ _ us hl => match us, hl with | [_], _ => rfl
  have F_meets_of := fun_mk (st := st_meets_of) l_meets_of c_meets_of k_meets_of
  have b_meets_of := F_meets_of.binds (ps := ["pauli", "second"]) fun _ _ _ _ _ _ us hl => match us, hl with | [_, _], _ => rfl
  have F_is_table := fun_mk (st := st_is_table) l_is_table c_is_table k_is_table
  have b_is_table := F_is_table.binds (ps := ["value"]) fun _ _ _ _ _ _ us hl => match us, hl with | [_], _ => rfl
  have F_check_table := fun_mk (st := st_check_table) l_check_table c_check_table k_check_table
  have b_check_table := F_check_table.binds (ps := ["table"]) fun _ _ _ _ _ _ us hl => match us, hl with | [_], _ => rfl
  have F_check_two_tables := fun_mk (st := st_check_two_tables) l_check_two_tables c_check_two_tables k_check_two_tables
  have b_check_two_tables := F_check_two_tables.binds (ps := ["table", "second_table"]) fun _ _ _ _ _ _ us hl => match us, hl with | [_, _], _ => rfl
  have F_led_by_table := fun_mk (st := st_led_by_table) l_led_by_table c_led_by_table k_led_by_table
  have b_led_by_table := F_led_by_table.binds (ps := ["table", "pauli"]) fun _ _ _ _ _ _ us hl => match us, hl with | [_, _], _ => rfl
  have F_composed_of := fun_mk (st := st_composed_of) l_composed_of c_composed_of k_composed_of
  have b_composed_of := F_composed_of.binds (ps := ["table", "second"]) fun _ _ _ _ _ _ us hl => match us, hl with | [_, _], _ => rfl
  have F_composed := fun_mk (st := st_composed) l_composed c_composed k_composed
  have b_composed := F_composed.binds (ps := ["table", "second_table"]) fun _ _ _ _ _ _ us hl => match us, hl with | [_, _], _ => rfl
  have F_undone_of := fun_mk (st := st_undone_of) l_undone_of c_undone_of k_undone_of
  have b_undone_of := F_undone_of.binds (ps := ["circuit"]) fun _ _ _ _ _ _ us hl => match us, hl with | [_], _ => rfl
  have F_undone := fun_mk (st := st_undone) l_undone c_undone k_undone
  have b_undone := F_undone.binds (ps := ["circuit"]) fun _ _ _ _ _ _ us hl => match us, hl with | [_], _ => rfl
  have F_undone_letters := fun_mk (st := st_undone_letters) l_undone_letters c_undone_letters k_undone_letters
  have b_undone_letters := F_undone_letters.binds (ps := ["table", "word"]) fun _ _ _ _ _ _ us hl => match us, hl with | [_, _], _ => rfl
  have F_undone_table := fun_mk (st := st_undone_table) l_undone_table c_undone_table k_undone_table
  have b_undone_table := F_undone_table.binds (ps := ["table"]) fun _ _ _ _ _ _ us hl => match us, hl with | [_], _ => rfl
  have F_table_undone := fun_mk (st := st_table_undone) l_table_undone c_table_undone k_table_undone
  have b_table_undone := F_table_undone.binds (ps := ["table"]) fun _ _ _ _ _ _ us hl => match us, hl with | [_], _ => rfl
  have F__law_drawn := fun_mk (st := st__law_drawn) l__law_drawn c__law_drawn k__law_drawn
  have b__law_drawn := F__law_drawn.binds (ps := ["pot", "many", "by"]) fun _ _ _ _ _ _ us hl => match us, hl with | [_, _, _], _ => rfl
  have F_check_pauli := fun_mk (st := st_check_pauli) l_check_pauli c_check_pauli k_check_pauli
  have b_check_pauli := F_check_pauli.binds (ps := ["pauli", "many"]) fun _ _ _ _ _ _ us hl => match us, hl with | [_, _], _ => rfl
  have F_table_led := fun_mk (st := st_table_led) l_table_led c_table_led k_table_led
  have b_table_led := F_table_led.binds (ps := ["table", "pauli"]) fun _ _ _ _ _ _ us hl => match us, hl with | [_, _], _ => rfl
  have F_led := fun_mk (st := st_led) l_led c_led k_led
  have b_led := F_led.binds (ps := ["circuit", "pauli"]) fun _ _ _ _ _ _ us hl => match us, hl with | [_, _], _ => rfl
  have F__law_times := fun_mk (st := st__law_times) l__law_times c__law_times k__law_times
  have b__law_times := F__law_times.binds (ps := ["one", "other"]) fun _ _ _ _ _ _ us hl => match us, hl with | [_, _], _ => rfl
  have F__law_table_led := fun_mk (st := st__law_table_led) l__law_table_led c__law_table_led k__law_table_led
  have b__law_table_led := F__law_table_led.binds (ps := ["table", "pauli"]) fun _ _ _ _ _ _ us hl => match us, hl with | [_, _], _ => rfl
  have F__law_table := fun_mk (st := st__law_table) l__law_table c__law_table k__law_table
  have b__law_table := F__law_table.binds (ps := ["pot", "many"]) fun _ _ _ _ _ _ us hl => match us, hl with | [_, _], _ => rfl
  have F_law := fun_mk (st := st_law) l_law c_law k_law
  have y_list := PySem.W.mg_none_of X G z_list
  have y_len := PySem.W.mg_none_of X G z_len
  have y_int := PySem.W.mg_none_of X G z_int
  have y_range := PySem.W.mg_none_of X G z_range
  have y_tuple := PySem.W.mg_none_of X G z_tuple
  have y_min := PySem.W.mg_none_of X G z_min
  have y_isinstance := PySem.W.mg_none_of X G z_isinstance
  have y_all := PySem.W.mg_none_of X G z_all
  have y_bool := PySem.W.mg_none_of X G z_bool
  have y_str := PySem.W.mg_none_of X G z_str
  have y_zip := PySem.W.mg_none_of X G z_zip
  have y_enumerate := PySem.W.mg_none_of X G z_enumerate
  have y_sum := PySem.W.mg_none_of X G z_sum
  refine ⟨PySem.W.fnOf "law" "law" (defArgs st_law) (defBody st_law) (defScope st_law) .none kV_law dc_law pm_law an_law cd_law ct_law, fun s v => .of_eq rfl, fun base _ _ => ?_⟩
  have A__law_pot : FnAt l.prog w K mg base 1 "_law_pot" fs__law_pot := fn_atS F__law_pot (PySem.W.mg_of X G a__law_pot) sc__law_pot (modOk_mk (k := 0) an (ac y_list an) an an) bd__law_pot b__law_pot
  have A__law_take : FnAt l.prog w K mg base 1 "_law_take" fs__law_take := fn_at F__law_take (PySem.W.mg_of X G a__law_take) sc__law_take (modOk_mk (k := 0) an (ac y_len (ac y_int an)) an an) bd__law_take b__law_take an
  have A__law_gates : FnAt l.prog w K mg base 2 "_law_gates" fs__law_gates := fn_at F__law_gates (PySem.W.mg_of X G a__law_gates) sc__law_gates (modOk_mk (k := 1) (ac (A__law_take.mono (by decide)) an) (ac y_range (ac y_len (ac y_int (ac y_tuple an)))) an an) bd__law_gates b__law_gates an
  have A__law_names : FnAt l.prog w K mg base 1 "_law_names" fs__law_names := fn_at F__law_names (PySem.W.mg_of X G a__law_names) sc__law_names (modOk_mk (k := 0) an an an an) bd__law_names b__law_names an
  have A__law_split : FnAt l.prog w K mg base 1 "_law_split" fs__law_split := fn_atR F__law_split (PySem.W.mg_of X G a__law_split) sc__law_split (modOk_mk (k := 0) an (ac y_int an) an an) bd__law_split b__law_split
  have A__law_word : FnAt l.prog w K mg base 1 "_law_word" fs__law_word := fn_at F__law_word (PySem.W.mg_of X G a__law_word) sc__law_word (modOk_mk (k := 0) an (ac y_range (ac y_len (ac y_int an))) an an) bd__law_word b__law_word an
  have A__law_led : FnAt l.prog w K mg base 2 "_law_led" fs__law_led := fn_at F__law_led (PySem.W.mg_of X G a__law_led) sc__law_led (modOk_mk (k := 1) (ac (A__law_split.mono (by decide)) (ac (A__law_word.mono (by decide)) an)) (ac y_min (ac y_len an)) an an) bd__law_led b__law_led an
  have A__law_at : FnAt l.prog w K mg base 1 "_law_at" fs__law_at := fn_at F__law_at (PySem.W.mg_of X G a__law_at) sc__law_at (modOk_mk (k := 0) an an an an) bd__law_at b__law_at an
  have A__law_table_of : FnAt l.prog w K mg base 3 "_law_table_of" fs__law_table_of := fn_at F__law_table_of (PySem.W.mg_of X G a__law_table_of) sc__law_table_of (modOk_mk (k := 2) (ac (A__law_led.mono (by decide)) (ac (A__law_at.mono (by decide)) an)) (ac y_tuple (ac y_range (ac y_int an))) an an) bd__law_table_of b__law_table_of an
  have A__law_same : FnAt l.prog w K mg base 6 "_law_same" (fs__law_same 5) := by
    have all : ∀ j : Nat, FnAt l.prog w K mg base (0 + j + 1) "_law_same" (fs__law_same j) := fun j => by
      induction j with
      | zero => exact no_at F__law_same (PySem.W.mg_of X G a__law_same) sc__law_same (modOk_mk (fs := []) (cs := []) (ds := []) (bi := []) an an an an) b__law_same an
      | succ j ih => exact fn_at F__law_same (PySem.W.mg_of X G a__law_same) sc__law_same (modOk_mk (k := 0 + j + 1) (ac ih an) (ac y_isinstance (ac y_tuple (ac y_list (ac y_len (ac y_all (ac y_range (ac y_bool (ac y_str (ac y_int an))))))))) an an) (bd__law_same _) b__law_same an
    exact all 5
  have A_is_integer : FnAt l.prog w K mg base 1 "is_integer" fs_is_integer := fn_at F_is_integer (PySem.W.mg_of X G a_is_integer) sc_is_integer (modOk_mk (k := 0) an (ac y_isinstance (ac y_int (ac y_bool an))) an an) bd_is_integer b_is_integer an
  have A_is_natural : FnAt l.prog w K mg base 2 "is_natural" fs_is_natural := fn_at F_is_natural (PySem.W.mg_of X G a_is_natural) sc_is_natural (modOk_mk (k := 1) (ac (A_is_integer.mono (by decide)) an) an an an) bd_is_natural b_is_natural an
  have A_is_gate : FnAt l.prog w K mg base 3 "is_gate" fs_is_gate := fn_at F_is_gate (PySem.W.mg_of X G a_is_gate) sc_is_gate (modOk_mk (k := 2) (ac (A_is_natural.mono (by decide)) an) (ac y_isinstance (ac y_tuple (ac y_len (ac y_str (ac y_all an))))) an (ac (dict_mk (PySem.W.mg_of X G gd_GATES) ld_GATES kd_GATES od_GATES vd_GATES) an)) bd_is_gate b_is_gate an
  have A_is_circuit : FnAt l.prog w K mg base 4 "is_circuit" fs_is_circuit := fn_at F_is_circuit (PySem.W.mg_of X G a_is_circuit) sc_is_circuit (modOk_mk (k := 3) (ac (A_is_integer.mono (by decide)) (ac (A_is_gate.mono (by decide)) an)) (ac y_isinstance (ac y_tuple (ac y_len (ac y_all an)))) an an) bd_is_circuit b_is_circuit an
  have A_check_circuit : FnAt l.prog w K mg base 5 "check_circuit" fs_check_circuit := fn_at F_check_circuit (PySem.W.mg_of X G a_check_circuit) sc_check_circuit (modOk_mk (k := 4) (ac (A_is_circuit.mono (by decide)) an) an an an) bd_check_circuit b_check_circuit an
  have A_is_without : FnAt l.prog w K mg base 1 "is_without" fs_is_without := fn_at F_is_without (PySem.W.mg_of X G a_is_without) sc_is_without (modOk_mk (k := 0) an (ac y_all an) an an) bd_is_without b_is_without an
  have A_check_clifford : FnAt l.prog w K mg base 6 "check_clifford" fs_check_clifford := fn_at F_check_clifford (PySem.W.mg_of X G a_check_clifford) sc_check_clifford (modOk_mk (k := 5) (ac (A_check_circuit.mono (by decide)) (ac (A_is_without.mono (by decide)) an)) an an an) bd_check_clifford b_check_clifford an
  have A_letter_at : FnAt l.prog w K mg base 1 "letter_at" fs_letter_at := fn_at F_letter_at (PySem.W.mg_of X G a_letter_at) sc_letter_at (modOk_mk (k := 0) an an an an) bd_letter_at b_letter_at an
  have A_ones_of : FnAt l.prog w K mg base 2 "ones_of" fs_ones_of := fn_at F_ones_of (PySem.W.mg_of X G a_ones_of) sc_ones_of (modOk_mk (k := 1) (ac (A_letter_at.mono (by decide)) an) (ac y_range an) an an) bd_ones_of b_ones_of an
  have A_product_of : FnAt l.prog w K mg base 1 "product_of" fs_product_of := fn_at F_product_of (PySem.W.mg_of X G a_product_of) sc_product_of (modOk_mk (k := 0) an (ac y_zip an) an (ac (dict_mk (PySem.W.mg_of X G gd_PRODUCTS) ld_PRODUCTS kd_PRODUCTS od_PRODUCTS vd_PRODUCTS) an)) bd_product_of b_product_of an
  have A_led_by : FnAt l.prog w K mg base 2 "led_by" fs_led_by := fn_at F_led_by (PySem.W.mg_of X G a_led_by) sc_led_by (modOk_mk (k := 1) (ac (A_product_of.mono (by decide)) an) (ac y_len (ac y_list an)) an (ac (dict_mk (PySem.W.mg_of X G gd_LED) ld_LED kd_LED od_LED vd_LED) (ac (dict_mk (PySem.W.mg_of X G gd_FIRST) ld_FIRST kd_FIRST od_FIRST vd_FIRST) (ac (dict_mk (PySem.W.mg_of X G gd_SECOND) ld_SECOND kd_SECOND od_SECOND vd_SECOND) an)))) bd_led_by b_led_by an
  have A_led_by_all : FnAt l.prog w K mg base 3 "led_by_all" fs_led_by_all := fn_at F_led_by_all (PySem.W.mg_of X G a_led_by_all) sc_led_by_all (modOk_mk (k := 2) (ac (A_led_by.mono (by decide)) an) an an an) bd_led_by_all b_led_by_all an
  have A_led_of : FnAt l.prog w K mg base 4 "led_of" fs_led_of := fn_at F_led_of (PySem.W.mg_of X G a_led_of) sc_led_of (modOk_mk (k := 3) (ac (A_led_by_all.mono (by decide)) an) an an an) bd_led_of b_led_of an
  have A_table_of_right : FnAt l.prog w K mg base 5 "table_of_right" fs_table_of_right := fn_at F_table_of_right (PySem.W.mg_of X G a_table_of_right) sc_table_of_right (modOk_mk (k := 4) (ac (A_ones_of.mono (by decide)) (ac (A_led_of.mono (by decide)) an)) (ac y_tuple an) an an) bd_table_of_right b_table_of_right an
  have A_table_of : FnAt l.prog w K mg base 7 "table_of" fs_table_of := fn_at F_table_of (PySem.W.mg_of X G a_table_of) sc_table_of (modOk_mk (k := 6) (ac (A_check_clifford.mono (by decide)) (ac (A_table_of_right.mono (by decide)) an)) an an an) bd_table_of b_table_of (ac (kb_mk F_table_of (by decide) fun _ _ _ _ _ _ us ws h1 h2 => match us, ws, h1, h2 with | [], [_], _, _ => rfl) an)
  have A_check_two : FnAt l.prog w K mg base 6 "check_two" fs_check_two := fn_at F_check_two (PySem.W.mg_of X G a_check_two) sc_check_two (modOk_mk (k := 5) (ac (A_check_circuit.mono (by decide)) an) an an an) bd_check_two b_check_two an
  have A_joined_of : FnAt l.prog w K mg base 1 "joined_of" fs_joined_of := fn_at F_joined_of (PySem.W.mg_of X G a_joined_of) sc_joined_of (modOk_mk (k := 0) an an an an) bd_joined_of b_joined_of an
  have A_joined : FnAt l.prog w K mg base 7 "joined" fs_joined := fn_at F_joined (PySem.W.mg_of X G a_joined) sc_joined (modOk_mk (k := 6) (ac (A_check_two.mono (by decide)) (ac (A_joined_of.mono (by decide)) an)) an an an) bd_joined b_joined an
  have A_is_pauli : FnAt l.prog w K mg base 2 "is_pauli" fs_is_pauli := fn_at F_is_pauli (PySem.W.mg_of X G a_is_pauli) sc_is_pauli (modOk_mk (k := 1) (ac (A_is_integer.mono (by decide)) an) (ac y_isinstance (ac y_tuple (ac y_len (ac y_str (ac y_all an))))) an an) bd_is_pauli b_is_pauli an
  have A_is_upright : FnAt l.prog w K mg base 3 "is_upright" fs_is_upright := fn_at F_is_upright (PySem.W.mg_of X G a_is_upright) sc_is_upright (modOk_mk (k := 2) (ac (A_is_pauli.mono (by decide)) an) an an an) bd_is_upright b_is_upright an
  have A_meets_of : FnAt l.prog w K mg base 1 "meets_of" fs_meets_of := fn_at F_meets_of (PySem.W.mg_of X G a_meets_of) sc_meets_of (modOk_mk (k := 0) an (ac y_zip (ac y_len an)) an an) bd_meets_of b_meets_of an
  have A_is_table : FnAt l.prog w K mg base 4 "is_table" fs_is_table := fn_at F_is_table (PySem.W.mg_of X G a_is_table) sc_is_table (modOk_mk (k := 3) (ac (A_is_upright.mono (by decide)) (ac (A_meets_of.mono (by decide)) an)) (ac y_isinstance (ac y_tuple (ac y_len (ac y_all (ac y_enumerate (ac y_range an)))))) an an) bd_is_table b_is_table an
  have A_check_table : FnAt l.prog w K mg base 5 "check_table" fs_check_table := fn_at F_check_table (PySem.W.mg_of X G a_check_table) sc_check_table (modOk_mk (k := 4) (ac (A_is_table.mono (by decide)) an) an an an) bd_check_table b_check_table an
  have A_check_two_tables : FnAt l.prog w K mg base 6 "check_two_tables" fs_check_two_tables := fn_at F_check_two_tables (PySem.W.mg_of X G a_check_two_tables) sc_check_two_tables (modOk_mk (k := 5) (ac (A_check_table.mono (by decide)) an) (ac y_len an) an an) bd_check_two_tables b_check_two_tables an
  have A_led_by_table : FnAt l.prog w K mg base 2 "led_by_table" fs_led_by_table := fn_at F_led_by_table (PySem.W.mg_of X G a_led_by_table) sc_led_by_table (modOk_mk (k := 1) (ac (A_product_of.mono (by decide)) an) (ac y_len (ac y_enumerate an)) an an) bd_led_by_table b_led_by_table an
  have A_composed_of : FnAt l.prog w K mg base 3 "composed_of" fs_composed_of := fn_at F_composed_of (PySem.W.mg_of X G a_composed_of) sc_composed_of (modOk_mk (k := 2) (ac (A_led_by_table.mono (by decide)) an) (ac y_tuple an) an an) bd_composed_of b_composed_of an
  have A_composed : FnAt l.prog w K mg base 7 "composed" fs_composed := fn_at F_composed (PySem.W.mg_of X G a_composed) sc_composed (modOk_mk (k := 6) (ac (A_check_two_tables.mono (by decide)) (ac (A_composed_of.mono (by decide)) an)) an an an) bd_composed b_composed (ac (kb_mk F_composed (by decide) fun _ _ _ _ _ _ us ws h1 h2 => match us, ws, h1, h2 with | [], [_, _], _, _ => rfl) an)
  have A_undone_of : FnAt l.prog w K mg base 1 "undone_of" fs_undone_of := fn_at F_undone_of (PySem.W.mg_of X G a_undone_of) sc_undone_of (modOk_mk (k := 0) an (ac y_tuple an) an (ac (dict_mk (PySem.W.mg_of X G gd_TURNED) ld_TURNED kd_TURNED od_TURNED vd_TURNED) an)) bd_undone_of b_undone_of an
  have A_undone : FnAt l.prog w K mg base 6 "undone" fs_undone := fn_at F_undone (PySem.W.mg_of X G a_undone) sc_undone (modOk_mk (k := 5) (ac (A_check_circuit.mono (by decide)) (ac (A_undone_of.mono (by decide)) an)) an an an) bd_undone b_undone an
  have A_undone_letters : FnAt l.prog w K mg base 2 "undone_letters" fs_undone_letters := fn_at F_undone_letters (PySem.W.mg_of X G a_undone_letters) sc_undone_letters (modOk_mk (k := 1) (ac (A_meets_of.mono (by decide)) an) (ac y_len (ac y_range (ac y_int an))) an an) bd_undone_letters b_undone_letters an
  have A_undone_table : FnAt l.prog w K mg base 3 "undone_table" fs_undone_table := fn_at F_undone_table (PySem.W.mg_of X G a_undone_table) sc_undone_table (modOk_mk (k := 2) (ac (A_ones_of.mono (by decide)) (ac (A_undone_letters.mono (by decide)) (ac (A_led_by_table.mono (by decide)) an))) (ac y_len (ac y_tuple an)) an an) bd_undone_table b_undone_table an
  have A_table_undone : FnAt l.prog w K mg base 6 "table_undone" fs_table_undone := fn_at F_table_undone (PySem.W.mg_of X G a_table_undone) sc_table_undone (modOk_mk (k := 5) (ac (A_check_table.mono (by decide)) (ac (A_undone_table.mono (by decide)) an)) an an an) bd_table_undone b_table_undone (ac (kb_mk F_table_undone (by decide) fun _ _ _ _ _ _ us ws h1 h2 => match us, ws, h1, h2 with | [], [_], _, _ => rfl) an)
  have A__law_drawn : FnAt l.prog w K mg base 2 "_law_drawn" fs__law_drawn := fn_at F__law_drawn (PySem.W.mg_of X G a__law_drawn) sc__law_drawn (modOk_mk (k := 1) (ac (A__law_take.mono (by decide)) an) (ac y_range an) an an) bd__law_drawn b__law_drawn an
  have A_check_pauli : FnAt l.prog w K mg base 3 "check_pauli" fs_check_pauli := fn_at F_check_pauli (PySem.W.mg_of X G a_check_pauli) sc_check_pauli (modOk_mk (k := 2) (ac (A_is_pauli.mono (by decide)) an) (ac y_len an) an an) bd_check_pauli b_check_pauli an
  have A_table_led : FnAt l.prog w K mg base 6 "table_led" fs_table_led := fn_at F_table_led (PySem.W.mg_of X G a_table_led) sc_table_led (modOk_mk (k := 5) (ac (A_check_table.mono (by decide)) (ac (A_check_pauli.mono (by decide)) (ac (A_led_by_table.mono (by decide)) an))) (ac y_len an) an an) bd_table_led b_table_led (ac (kb_mk F_table_led (by decide) fun _ _ _ _ _ _ us ws h1 h2 => match us, ws, h1, h2 with | [], [_, _], _, _ => rfl) an)
  have A_led : FnAt l.prog w K mg base 7 "led" fs_led := fn_at F_led (PySem.W.mg_of X G a_led) sc_led (modOk_mk (k := 6) (ac (A_check_clifford.mono (by decide)) (ac (A_check_pauli.mono (by decide)) (ac (A_led_of.mono (by decide)) an))) an an an) bd_led b_led an
  have A__law_times : FnAt l.prog w K mg base 2 "_law_times" fs__law_times := fn_at F__law_times (PySem.W.mg_of X G a__law_times) sc__law_times (modOk_mk (k := 1) (ac (A__law_split.mono (by decide)) (ac (A__law_word.mono (by decide)) an)) (ac y_sum (ac y_range (ac y_len an))) an an) bd__law_times b__law_times an
  have A__law_table_led : FnAt l.prog w K mg base 3 "_law_table_led" fs__law_table_led := fn_at F__law_table_led (PySem.W.mg_of X G a__law_table_led) sc__law_table_led (modOk_mk (k := 2) (ac (A__law_split.mono (by decide)) (ac (A__law_times.mono (by decide)) an)) (ac y_len (ac y_int (ac y_range an))) an an) bd__law_table_led b__law_table_led an
  have A__law_table : FnAt l.prog w K mg base 3 "_law_table" fs__law_table := fn_at F__law_table (PySem.W.mg_of X G a__law_table) sc__law_table (modOk_mk (k := 2) (ac (A__law_gates.mono (by decide)) (ac (A__law_names.mono (by decide)) (ac (A__law_led.mono (by decide)) (ac (A__law_at.mono (by decide)) (ac (A__law_take.mono (by decide)) an))))) (ac y_range (ac y_int (ac y_tuple an))) an an) bd__law_table b__law_table an
  exact law_at F_law sc_law (modOk_mk (k := 7) (ac (A__law_pot.mono (by decide)) (ac (A__law_take.mono (by decide)) (ac (A__law_gates.mono (by decide)) (ac (A__law_names.mono (by decide)) (ac (A__law_table_of.mono (by decide)) (ac (A__law_same.mono (by decide)) (ac (A_table_of.mono (by decide)) (ac (A_joined.mono (by decide)) (ac (A_composed.mono (by decide)) (ac (A_undone.mono (by decide)) (ac (A_table_undone.mono (by decide)) (ac (A__law_drawn.mono (by decide)) (ac (A__law_led.mono (by decide)) (ac (A_table_led.mono (by decide)) (ac (A_led.mono (by decide)) (ac (A__law_table_led.mono (by decide)) (ac (A__law_table.mono (by decide)) an))))))))))))))))) (ac y_range (ac y_tuple an)) an an) bd_law law_run
end K39
open PySem PySem.W PyProof.Rows
set_option maxHeartbeats 0 in
theorem PySem.Challenge.cw_wholecircuits_k39_whole_tables_of_joined_holds : PySem.Challenge.rw_wholecircuits_k39_whole_tables_of_joined.Holds := by
  w_on; o_law; k_head; (case hw => w_witness2)
  k_fill
  refine L2.walk_ofB (l := PySem.Challenge.rw_wholecircuits_k39_whole_tables_of_joined) (n := 63) (k := 8) (x := "script") (CX := fun _ => L2.CX0) (sp := fun w => Ek.spLaw _) rfl (by decide) rfl ⟨rfl, by decide, by decide⟩ (fun w h Y => PySem.W.kIn_of Y) ?F (fun _ _ a ns hl hb _ hS => ⟨a, ns, rfl, hS, hl, hb, fun _ => rfl⟩) (fun _ _ _ _ _ h => h)
  case F =>
    intro w mg fa h KX G hmg
    refine' K39.all_mk KX G hmg ?a__law_pot ?l__law_pot ?c__law_pot ?k__law_pot ?a__law_take ?l__law_take ?c__law_take ?k__law_take ?a__law_gates ?l__law_gates ?c__law_gates ?k__law_gates ?a__law_names ?l__law_names ?c__law_names ?k__law_names ?a__law_split ?l__law_split ?c__law_split ?k__law_split ?a__law_word ?l__law_word ?c__law_word ?k__law_word ?a__law_led ?l__law_led ?c__law_led ?k__law_led ?a__law_at ?l__law_at ?c__law_at ?k__law_at ?a__law_table_of ?l__law_table_of ?c__law_table_of ?k__law_table_of ?a__law_same ?l__law_same ?c__law_same ?k__law_same ?a_is_integer ?l_is_integer ?c_is_integer ?k_is_integer ?a_is_natural ?l_is_natural ?c_is_natural ?k_is_natural ?a_is_gate ?l_is_gate ?c_is_gate ?k_is_gate ?a_is_circuit ?l_is_circuit ?c_is_circuit ?k_is_circuit ?a_check_circuit ?l_check_circuit ?c_check_circuit ?k_check_circuit ?a_is_without ?l_is_without ?c_is_without ?k_is_without ?a_check_clifford ?l_check_clifford ?c_check_clifford ?k_check_clifford ?a_letter_at ?l_letter_at ?c_letter_at ?k_letter_at ?a_ones_of ?l_ones_of ?c_ones_of ?k_ones_of ?a_product_of ?l_product_of ?c_product_of ?k_product_of ?a_led_by ?l_led_by ?c_led_by ?k_led_by ?a_led_by_all ?l_led_by_all ?c_led_by_all ?k_led_by_all ?a_led_of ?l_led_of ?c_led_of ?k_led_of ?a_table_of_right ?l_table_of_right ?c_table_of_right ?k_table_of_right ?a_table_of ?l_table_of ?c_table_of ?k_table_of ?a_check_two ?l_check_two ?c_check_two ?k_check_two ?a_joined_of ?l_joined_of ?c_joined_of ?k_joined_of ?a_joined ?l_joined ?c_joined ?k_joined ?a_is_pauli ?l_is_pauli ?c_is_pauli ?k_is_pauli ?a_is_upright ?l_is_upright ?c_is_upright ?k_is_upright ?a_meets_of ?l_meets_of ?c_meets_of ?k_meets_of ?a_is_table ?l_is_table ?c_is_table ?k_is_table ?a_check_table ?l_check_table ?c_check_table ?k_check_table ?a_check_two_tables ?l_check_two_tables ?c_check_two_tables ?k_check_two_tables ?a_led_by_table ?l_led_by_table ?c_led_by_table ?k_led_by_table ?a_composed_of ?l_composed_of ?c_composed_of ?k_composed_of ?a_composed ?l_composed ?c_composed ?k_composed ?a_undone_of ?l_undone_of ?c_undone_of ?k_undone_of ?a_undone ?l_undone ?c_undone ?k_undone ?a_undone_letters ?l_undone_letters ?c_undone_letters ?k_undone_letters ?a_undone_table ?l_undone_table ?c_undone_table ?k_undone_table ?a_table_undone ?l_table_undone ?c_table_undone ?k_table_undone ?a__law_drawn ?l__law_drawn ?c__law_drawn ?k__law_drawn ?a_check_pauli ?l_check_pauli ?c_check_pauli ?k_check_pauli ?a_table_led ?l_table_led ?c_table_led ?k_table_led ?a_led ?l_led ?c_led ?k_led ?a__law_times ?l__law_times ?c__law_times ?k__law_times ?a__law_table_led ?l__law_table_led ?c__law_table_led ?k__law_table_led ?a__law_table ?l__law_table ?c__law_table ?k__law_table ?a_law ?l_law ?c_law ?k_law ?z_list ?z_len ?z_int ?z_range ?z_tuple ?z_min ?z_isinstance ?z_all ?z_bool ?z_str ?z_zip ?z_enumerate ?z_sum ?gd_GATES ?ld_GATES ?kd_GATES ?od_GATES ?vd_GATES ?gd_TURNED ?ld_TURNED ?kd_TURNED ?od_TURNED ?vd_TURNED ?gd_PRODUCTS ?ld_PRODUCTS ?kd_PRODUCTS ?od_PRODUCTS ?vd_PRODUCTS ?gd_LED ?ld_LED ?kd_LED ?od_LED ?vd_LED ?gd_FIRST ?ld_FIRST ?kd_FIRST ?od_FIRST ?vd_FIRST ?gd_SECOND ?ld_SECOND ?kd_SECOND ?od_SECOND ?vd_SECOND
    (case a__law_pot => k_is)
    (case l__law_pot => k_is)
    (case c__law_pot => k_is)
    (case k__law_pot => k_is)
    (case a__law_take => k_is)
    (case l__law_take => k_is)
    (case c__law_take => k_is)
    (case k__law_take => k_is)
    (case a__law_gates => k_is)
    (case l__law_gates => k_is)
    (case c__law_gates => k_is)
    (case k__law_gates => k_is)
    (case a__law_names => k_is)
    (case l__law_names => k_is)
    (case c__law_names => k_is)
    (case k__law_names => k_is)
    (case a__law_split => k_is)
    (case l__law_split => k_is)
    (case c__law_split => k_is)
    (case k__law_split => k_is)
    (case a__law_word => k_is)
    (case l__law_word => k_is)
    (case c__law_word => k_is)
    (case k__law_word => k_is)
    (case a__law_led => k_is)
    (case l__law_led => k_is)
    (case c__law_led => k_is)
    (case k__law_led => k_is)
    (case a__law_at => k_is)
    (case l__law_at => k_is)
    (case c__law_at => k_is)
    (case k__law_at => k_is)
    (case a__law_table_of => k_is)
    (case l__law_table_of => k_is)
    (case c__law_table_of => k_is)
    (case k__law_table_of => k_is)
    (case a__law_same => k_is)
    (case l__law_same => k_is)
    (case c__law_same => k_is)
    (case k__law_same => k_is)
    (case a_is_integer => k_is)
    (case l_is_integer => k_is)
    (case c_is_integer => k_is)
    (case k_is_integer => k_is)
    (case a_is_natural => k_is)
    (case l_is_natural => k_is)
    (case c_is_natural => k_is)
    (case k_is_natural => k_is)
    (case a_is_gate => k_is)
    (case l_is_gate => k_is)
    (case c_is_gate => k_is)
    (case k_is_gate => k_is)
    (case a_is_circuit => k_is)
    (case l_is_circuit => k_is)
    (case c_is_circuit => k_is)
    (case k_is_circuit => k_is)
    (case a_check_circuit => k_is)
    (case l_check_circuit => k_is)
    (case c_check_circuit => k_is)
    (case k_check_circuit => k_is)
    (case a_is_without => k_is)
    (case l_is_without => k_is)
    (case c_is_without => k_is)
    (case k_is_without => k_is)
    (case a_check_clifford => k_is)
    (case l_check_clifford => k_is)
    (case c_check_clifford => k_is)
    (case k_check_clifford => k_is)
    (case a_letter_at => k_is)
    (case l_letter_at => k_is)
    (case c_letter_at => k_is)
    (case k_letter_at => k_is)
    (case a_ones_of => k_is)
    (case l_ones_of => k_is)
    (case c_ones_of => k_is)
    (case k_ones_of => k_is)
    (case a_product_of => k_is)
    (case l_product_of => k_is)
    (case c_product_of => k_is)
    (case k_product_of => k_is)
    (case a_led_by => k_is)
    (case l_led_by => k_is)
    (case c_led_by => k_is)
    (case k_led_by => k_is)
    (case a_led_by_all => k_is)
    (case l_led_by_all => k_is)
    (case c_led_by_all => k_is)
    (case k_led_by_all => k_is)
    (case a_led_of => k_is)
    (case l_led_of => k_is)
    (case c_led_of => k_is)
    (case k_led_of => k_is)
    (case a_table_of_right => k_is)
    (case l_table_of_right => k_is)
    (case c_table_of_right => k_is)
    (case k_table_of_right => k_is)
    (case a_table_of => k_is)
    (case l_table_of => k_is)
    (case c_table_of => k_is)
    (case k_table_of => k_is)
    (case a_check_two => k_is)
    (case l_check_two => k_is)
    (case c_check_two => k_is)
    (case k_check_two => k_is)
    (case a_joined_of => k_is)
    (case l_joined_of => k_is)
    (case c_joined_of => k_is)
    (case k_joined_of => k_is)
    (case a_joined => k_is)
    (case l_joined => k_is)
    (case c_joined => k_is)
    (case k_joined => k_is)
    (case a_is_pauli => k_is)
    (case l_is_pauli => k_is)
    (case c_is_pauli => k_is)
    (case k_is_pauli => k_is)
    (case a_is_upright => k_is)
    (case l_is_upright => k_is)
    (case c_is_upright => k_is)
    (case k_is_upright => k_is)
    (case a_meets_of => k_is)
    (case l_meets_of => k_is)
    (case c_meets_of => k_is)
    (case k_meets_of => k_is)
    (case a_is_table => k_is)
    (case l_is_table => k_is)
    (case c_is_table => k_is)
    (case k_is_table => k_is)
    (case a_check_table => k_is)
    (case l_check_table => k_is)
    (case c_check_table => k_is)
    (case k_check_table => k_is)
    (case a_check_two_tables => k_is)
    (case l_check_two_tables => k_is)
    (case c_check_two_tables => k_is)
    (case k_check_two_tables => k_is)
    (case a_led_by_table => k_is)
    (case l_led_by_table => k_is)
    (case c_led_by_table => k_is)
    (case k_led_by_table => k_is)
    (case a_composed_of => k_is)
    (case l_composed_of => k_is)
    (case c_composed_of => k_is)
    (case k_composed_of => k_is)
    (case a_composed => k_is)
    (case l_composed => k_is)
    (case c_composed => k_is)
    (case k_composed => k_is)
    (case a_undone_of => k_is)
    (case l_undone_of => k_is)
    (case c_undone_of => k_is)
    (case k_undone_of => k_is)
    (case a_undone => k_is)
    (case l_undone => k_is)
    (case c_undone => k_is)
    (case k_undone => k_is)
    (case a_undone_letters => k_is)
    (case l_undone_letters => k_is)
    (case c_undone_letters => k_is)
    (case k_undone_letters => k_is)
    (case a_undone_table => k_is)
    (case l_undone_table => k_is)
    (case c_undone_table => k_is)
    (case k_undone_table => k_is)
    (case a_table_undone => k_is)
    (case l_table_undone => k_is)
    (case c_table_undone => k_is)
    (case k_table_undone => k_is)
    (case a__law_drawn => k_is)
    (case l__law_drawn => k_is)
    (case c__law_drawn => k_is)
    (case k__law_drawn => k_is)
    (case a_check_pauli => k_is)
    (case l_check_pauli => k_is)
    (case c_check_pauli => k_is)
    (case k_check_pauli => k_is)
    (case a_table_led => k_is)
    (case l_table_led => k_is)
    (case c_table_led => k_is)
    (case k_table_led => k_is)
    (case a_led => k_is)
    (case l_led => k_is)
    (case c_led => k_is)
    (case k_led => k_is)
    (case a__law_times => k_is)
    (case l__law_times => k_is)
    (case c__law_times => k_is)
    (case k__law_times => k_is)
    (case a__law_table_led => k_is)
    (case l__law_table_led => k_is)
    (case c__law_table_led => k_is)
    (case k__law_table_led => k_is)
    (case a__law_table => k_is)
    (case l__law_table => k_is)
    (case c__law_table => k_is)
    (case k__law_table => k_is)
    (case a_law => k_is)
    (case l_law => k_is)
    (case c_law => k_is)
    (case k_law => k_is)
    (case z_list => k_is)
    (case z_len => k_is)
    (case z_int => k_is)
    (case z_range => k_is)
    (case z_tuple => k_is)
    (case z_min => k_is)
    (case z_isinstance => k_is)
    (case z_all => k_is)
    (case z_bool => k_is)
    (case z_str => k_is)
    (case z_zip => k_is)
    (case z_enumerate => k_is)
    (case z_sum => k_is)
    (case gd_GATES => k_is)
    (case ld_GATES => k_is)
    (case gd_TURNED => k_is)
    (case ld_TURNED => k_is)
    (case gd_PRODUCTS => k_is)
    (case ld_PRODUCTS => k_is)
    (case gd_LED => k_is)
    (case ld_LED => k_is)
    (case gd_FIRST => k_is)
    (case ld_FIRST => k_is)
    (case gd_SECOND => k_is)
    (case ld_SECOND => k_is)
    (case od_GATES => rfl)
    (case od_TURNED => rfl)
    (case od_PRODUCTS => rfl)
    (case od_LED => rfl)
    (case od_FIRST => rfl)
    (case od_SECOND => rfl)
    (case kd_GATES => repeat (first | exact trivial | refine ⟨⟨_, _, rfl, rfl⟩, ?_⟩))
    (case kd_TURNED => repeat (first | exact trivial | refine ⟨⟨_, _, rfl, rfl⟩, ?_⟩))
    (case kd_PRODUCTS => repeat (first | exact trivial | refine ⟨⟨_, _, rfl, rfl⟩, ?_⟩))
    (case kd_LED => repeat (first | exact trivial | refine ⟨⟨_, _, rfl, rfl⟩, ?_⟩))
    (case kd_FIRST => repeat (first | exact trivial | refine ⟨⟨_, _, rfl, rfl⟩, ?_⟩))
    (case kd_SECOND => repeat (first | exact trivial | refine ⟨⟨_, _, rfl, rfl⟩, ?_⟩))
    (case vd_GATES => kernel_rfl)
    (case vd_TURNED => kernel_rfl)
    (case vd_PRODUCTS => kernel_rfl)
    (case vd_LED => kernel_rfl)
    (case vd_FIRST => kernel_rfl)
    (case vd_SECOND => kernel_rfl)

