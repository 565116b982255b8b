import PyProof.Rows.All
import Wide.All
import OpenK.AllK
import Wide.FinOn
import PySem.Challenge.RW_everbeat_k69_whole_fences_copies_and_tri
import HandS.ForMost
import HandS.ForExc
import HandS.Style
import HandS.Flow
import HandS.IsInst
import KE.DataEq
import HandS.Wide
import KE.DataCmp
import KE.SortData
import HandS.TupAny
import HandS.Text
import KE.DataMinMax
import HandS.DictComp
import KE.Datum
import PyProof.IsRules
set_option Elab.async false
set_option linter.all false
set_option maxRecDepth 100000
/-! L3a: data on the abstract heap. -/
namespace L3
open PySem PySem.Spec L2

abbrev D := PyData

def kD : Key → D
  | .inl i => .int i
  | .inr s => .str s

mutual
/-- v bears the datum d in H; no address on the way is in Y -/
def Is (Y : Addr → Prop) (H : Hp) : V → D → Prop
  | v, .none => v = .non
  | v, .bool b => v = .bl b
  | v, .int i => v = .int i
  | v, .str s => v = .str s
  | v, .list ds => ∃ a xs, v = .ref a ∧ ¬ Y a ∧ H a = some (.lst xs) ∧ IsAll Y H xs ds
  | v, .tuple ds => ∃ a xs, v = .ref a ∧ ¬ Y a ∧ H a = some (.tup xs) ∧ IsAll Y H xs ds
  | v, .dict es => ∃ a, v = .ref a ∧ ¬ Y a ∧ ((∃ kvs, Rd H a (.dK kvs) ∧ IsKV Y H kvs es) ∨ (∃ kvs, (kvs ≠ [] ∧ Rd H a (.dT kvs)) ∧ IsKT Y H kvs es))
def IsAll (Y : Addr → Prop) (H : Hp) : List V → List D → Prop
  | vs, [] => vs = []
  | vs, d :: ds => ∃ v r, vs = v :: r ∧ Is Y H v d ∧ IsAll Y H r ds
def IsKV (Y : Addr → Prop) (H : Hp) : List (Key × V) → List (D × D) → Prop
  | kvs, [] => kvs = []
  | kvs, (k, d) :: es => ∃ k' v r, kvs = (k', v) :: r ∧ k = kD k' ∧ Is Y H v d ∧ IsKV Y H r es
def IsKT (Y : Addr → Prop) (H : Hp) : List (List Key × V) → List (D × D) → Prop
  | kvs, [] => kvs = []
  | kvs, (k, d) :: es => ∃ k' v r, kvs = (k', v) :: r ∧ k = .tuple (k'.map kD) ∧ Is Y H v d ∧ IsKT Y H r es
end

/-- what data lean on is kept: lists, tuples; dicts may be locked or unlocked -/
def Kps (Y : Addr → Prop) (H H' : Hp) : Prop := ∀ a, ¬ Y a → (∀ xs, H a = some (.lst xs) → H' a = some (.lst xs)) ∧ (∀ xs, H a = some (.tup xs) → H' a = some (.tup xs)) ∧
  (∀ u, Rd H a (.dK u) → Rd H' a (.dK u)) ∧ (∀ u, Rd H a (.dT u) → Rd H' a (.dT u))
theorem Kps.of {Y : Addr → Prop} {H H' : Hp} (h : ∀ a o, ¬ Y a → H a = some o → H' a = some o) : Kps Y H H' := fun a n =>
  ⟨fun _ e => h a _ n e, fun _ e => h a _ n e, fun _ r => r.elim (fun e => .inl (h a _ n e)) fun ⟨o, e⟩ => .inr ⟨o, h a _ n e⟩, fun _ r => r.elim (fun e => .inl (h a _ n e)) fun ⟨o, e⟩ => .inr ⟨o, h a _ n e⟩⟩
theorem Kps.same {Y : Addr → Prop} {H H' : Hp} (h : Same H H') : Kps Y H H' := Kps.of fun a o _ e => h a o e
theorem Kps.refl (Y : Addr → Prop) (H : Hp) : Kps Y H H := Kps.of fun _ _ _ e => e
section
variable {Y Y' : Addr → Prop} {H H' : Hp}
mutual
theorem Is.mono (hY : ∀ a, Y' a → Y a) (hH : Kps Y H H') : ∀ (d : D) (v : V), Is Y H v d → Is Y' H' v d
  | .none, _, h => h
  | .bool _, _, h => h
  | .int _, _, h => h
  | .str _, _, h => h
  | .list ds, v, ⟨a, xs, e, n, ha, h⟩ => ⟨a, xs, e, fun z => n (hY a z), (hH a n).1 _ ha, IsAll.mono hY hH ds xs h⟩
  | .tuple ds, v, ⟨a, xs, e, n, ha, h⟩ => ⟨a, xs, e, fun z => n (hY a z), (hH a n).2.1 _ ha, IsAll.mono hY hH ds xs h⟩
  | .dict es, v, ⟨a, e, n, .inl ⟨kvs, ha, h⟩⟩ => ⟨a, e, fun z => n (hY a z), .inl ⟨kvs, (hH a n).2.2.1 _ ha, IsKV.mono hY hH es kvs h⟩⟩
  | .dict es, v, ⟨a, e, n, .inr ⟨kvs, ha, h⟩⟩ => ⟨a, e, fun z => n (hY a z), .inr ⟨kvs, ⟨ha.1, (hH a n).2.2.2 _ ha.2⟩, IsKT.mono hY hH es kvs h⟩⟩
theorem IsAll.mono (hY : ∀ a, Y' a → Y a) (hH : Kps Y H H') : ∀ (ds : List D) (vs : List V), IsAll Y H vs ds → IsAll Y' H' vs ds
  | [], _, h => h
  | d :: ds, vs, ⟨v, r, e, h1, h2⟩ => ⟨v, r, e, Is.mono hY hH d v h1, IsAll.mono hY hH ds r h2⟩
theorem IsKV.mono (hY : ∀ a, Y' a → Y a) (hH : Kps Y H H') : ∀ (es : List (D × D)) (kvs : List (Key × V)), IsKV Y H kvs es → IsKV Y' H' kvs es
  | [], _, h => h
  | (k, d) :: es, kvs, ⟨k', v, r, e, ek, h1, h2⟩ => ⟨k', v, r, e, ek, Is.mono hY hH d v h1, IsKV.mono hY hH es r h2⟩
theorem IsKT.mono (hY : ∀ a, Y' a → Y a) (hH : Kps Y H H') : ∀ (es : List (D × D)) (kvs : List (List Key × V)), IsKT Y H kvs es → IsKT Y' H' kvs es
  | [], _, h => h
  | (k, d) :: es, kvs, ⟨k', v, r, e, ek, h1, h2⟩ => ⟨k', v, r, e, ek, Is.mono hY hH d v h1, IsKT.mono hY hH es r h2⟩
end
/-! what data reach is there -/
mutual
theorem Is.grow (dom : ∀ a, Y' a → Y a ∨ H a = none) : ∀ (d : D) (v : V), Is Y H v d → Is Y' H v d
  | .none, _, h => h
  | .bool _, _, h => h
  | .int _, _, h => h
  | .str _, _, h => h
  | .list ds, v, ⟨a, xs, e, n, ha, h⟩ => ⟨a, xs, e, fun z => (dom a z).elim n fun q => by (rw [q] at ha; cases ha), ha, IsAll.grow dom ds xs h⟩
  | .tuple ds, v, ⟨a, xs, e, n, ha, h⟩ => ⟨a, xs, e, fun z => (dom a z).elim n fun q => by (rw [q] at ha; cases ha), ha, IsAll.grow dom ds xs h⟩
  | .dict es, v, ⟨a, e, n, .inl ⟨kvs, ha, h⟩⟩ => ⟨a, e, fun z => (dom a z).elim n fun q => by (rcases ha with ha | ⟨_, ha⟩ <;> (rw [q] at ha; cases ha)), .inl ⟨kvs, ha, IsKV.grow dom es kvs h⟩⟩
  | .dict es, v, ⟨a, e, n, .inr ⟨kvs, ⟨hn, ha⟩, h⟩⟩ => ⟨a, e, fun z => (dom a z).elim n fun q => by (rcases ha with ha | ⟨_, ha⟩ <;> (rw [q] at ha; cases ha)), .inr ⟨kvs, ⟨hn, ha⟩, IsKT.grow dom es kvs h⟩⟩
theorem IsAll.grow (dom : ∀ a, Y' a → Y a ∨ H a = none) : ∀ (ds : List D) (vs : List V), IsAll Y H vs ds → IsAll Y' H vs ds
  | [], _, h => h
  | d :: ds, vs, ⟨v, r, e, h1, h2⟩ => ⟨v, r, e, Is.grow dom d v h1, IsAll.grow dom ds r h2⟩
theorem IsKV.grow (dom : ∀ a, Y' a → Y a ∨ H a = none) : ∀ (es : List (D × D)) (kvs : List (Key × V)), IsKV Y H kvs es → IsKV Y' H kvs es
  | [], _, h => h
  | (k, d) :: es, kvs, ⟨k', v, r, e, ek, h1, h2⟩ => ⟨k', v, r, e, ek, Is.grow dom d v h1, IsKV.grow dom es r h2⟩
theorem IsKT.grow (dom : ∀ a, Y' a → Y a ∨ H a = none) : ∀ (es : List (D × D)) (kvs : List (List Key × V)), IsKT Y H kvs es → IsKT Y' H kvs es
  | [], _, h => h
  | (k, d) :: es, kvs, ⟨k', v, r, e, ek, h1, h2⟩ => ⟨k', v, r, e, ek, Is.grow dom d v h1, IsKT.grow dom es r h2⟩
end
end

/-! ### lists of data -/
section
variable {Y : Addr → Prop} {H : Hp}
theorem IsAll.length : ∀ {ds : List D} {vs : List V}, IsAll Y H vs ds → vs.length = ds.length
  | [], _, h => by have h : _ = _ := h; subst h; rfl
  | d :: ds, vs, ⟨v, r, e, h1, h2⟩ => by subst e; simp only [List.length_cons]; rw [IsAll.length h2]
theorem IsAll.get : ∀ {ds : List D} {vs : List V} {i : Nat} {d : D}, IsAll Y H vs ds → ds[i]? = some d → ∃ v, vs[i]? = some v ∧ Is Y H v d
  | [], _, _, _, _, e => by simp at e
  | d :: ds, vs, 0, d', ⟨v, r, e, h1, h2⟩, q => by subst e; simp at q; subst q; exact ⟨v, rfl, h1⟩
  | d :: ds, vs, i + 1, d', ⟨v, r, e, h1, h2⟩, q => by subst e; obtain ⟨w, a, b⟩ := IsAll.get (i := i) h2 (by simpa using q); exact ⟨w, by simpa using a, b⟩
theorem IsAll.append : ∀ {ds : List D} {vs : List V} {es : List D} {us : List V}, IsAll Y H vs ds → IsAll Y H us es → IsAll Y H (vs ++ us) (ds ++ es)
  | [], _, _, _, h, g => by have h : _ = _ := h; subst h; exact g
  | d :: ds, vs, _, _, ⟨v, r, e, h1, h2⟩, g => by subst e; exact ⟨v, _, rfl, h1, IsAll.append h2 g⟩
theorem IsAll.one {v : V} {d : D} (h : Is Y H v d) : IsAll Y H [v] [d] := ⟨v, [], rfl, h, rfl⟩
theorem IsAll.take : ∀ {ds : List D} {vs : List V} (n : Nat), IsAll Y H vs ds → IsAll Y H (vs.take n) (ds.take n)
  | _, _, 0, _ => rfl
  | [], _, _ + 1, h => by have h : _ = _ := h; subst h; rfl
  | d :: ds, vs, n + 1, ⟨v, r, e, h1, h2⟩ => by subst e; exact ⟨v, _, rfl, h1, IsAll.take n h2⟩
theorem IsAll.drop : ∀ {ds : List D} {vs : List V} (n : Nat), IsAll Y H vs ds → IsAll Y H (vs.drop n) (ds.drop n)
  | _, _, 0, h => h
  | [], _, _ + 1, h => by have h : _ = _ := h; subst h; rfl
  | d :: ds, vs, n + 1, ⟨v, r, e, h1, h2⟩ => by subst e; exact IsAll.drop n h2
theorem IsAll.reverse : ∀ {ds : List D} {vs : List V}, IsAll Y H vs ds → IsAll Y H vs.reverse ds.reverse
  | [], _, h => by have h : _ = _ := h; subst h; rfl
  | d :: ds, vs, ⟨v, r, e, h1, h2⟩ => by subst e; rw [List.reverse_cons, List.reverse_cons]; exact IsAll.append (IsAll.reverse h2) (IsAll.one h1)
theorem IsAll.set : ∀ {ds : List D} {vs : List V} {v : V} {d : D} (i : Nat), IsAll Y H vs ds → Is Y H v d → IsAll Y H (vs.set i v) (ds.set i d)
  | [], _, _, _, _, h, _ => by have h : _ = _ := h; subst h; rfl
  | d :: ds, vs, _, _, 0, ⟨v, r, e, h1, h2⟩, g => by subst e; exact ⟨_, _, rfl, g, h2⟩
  | d :: ds, vs, _, _, i + 1, ⟨v, r, e, h1, h2⟩, g => by subst e; exact ⟨_, _, rfl, h1, IsAll.set i h2 g⟩
theorem IsAll.mem : ∀ {ds : List D} {vs : List V} {v : V}, IsAll Y H vs ds → v ∈ vs → ∃ d ∈ ds, Is Y H v d
  | [], _, _, h, m => by have h : _ = _ := h; subst h; cases m
  | d :: ds, vs, w, ⟨v, r, e, h1, h2⟩, m => by
    subst e
    rcases List.mem_cons.mp m with rfl | m
    · exact ⟨d, List.mem_cons_self, h1⟩
    · obtain ⟨d', a, b⟩ := IsAll.mem h2 m
      exact ⟨d', List.mem_cons_of_mem _ a, b⟩
theorem IsAll.none_of {ds : List D} {vs : List V} {i : Nat} (h : IsAll Y H vs ds) (e : ds[i]? = none) : vs[i]? = none := by
  have := h.length
  rw [List.getElem?_eq_none_iff] at e ⊢
  omega
end
end L3

/-! L3b: environments of data, judgements. -/
namespace L3
open PySem PySem.Spec L2

/-- the kind of a body: what may change behind its back (Vo), what is known of it (Pl) -/
structure Kd where
  Vo : Addr → Prop
  Pl : Hp → Prop
  pk : ∀ H H' : Hp, (∀ a o, Vo a → H a = some o → H' a = some o) → Pl H → Pl H'
  xr : (Addr → Prop) → D → Value → Option Addr → Hp → Prop := fun _ _ _ _ _ => False
/-- nothing is volatile -/
def k0 : Kd := { Vo := fun _ => False, Pl := fun _ => True, pk := fun _ _ _ _ => trivial }
structure Gh (k : Kd) where
  Z : Addr → Prop
  H0 : Hp
  vz : ∀ a, k.Vo a → Z a

inductive Sl where
  | un | raw (v : V) | dat (d : D) | opl (ds : List D) | opd (es : List (D × D)) | lkd (es : List (D × D))
abbrev Ev := List Sl
abbrev Op := Nat → Option Addr
def Yo {k : Kd} (g : Gh k) (O : Op) : Addr → Prop := fun a => g.Z a ∨ ∃ i, O i = some a
/-- the dict at a -/
def DcR (Y : Addr → Prop) (H : Hp) (a : Addr) (es : List (D × D)) : Prop := (∃ kvs, Rd H a (.dK kvs) ∧ IsKV Y H kvs es) ∨ (∃ kvs, (kvs ≠ [] ∧ Rd H a (.dT kvs)) ∧ IsKT Y H kvs es)
def DcO (Y : Addr → Prop) (H : Hp) (a : Addr) (es : List (D × D)) : Prop := (∃ kvs, H a = some (.dK kvs) ∧ IsKV Y H kvs es) ∨ (∃ kvs, (kvs ≠ [] ∧ H a = some (.dT kvs)) ∧ IsKT Y H kvs es)
theorem DcO.rd {Y : Addr → Prop} {H : Hp} {a : Addr} {es : List (D × D)} (h : DcO Y H a es) : DcR Y H a es := by
  rcases h with ⟨kvs, e, h⟩ | ⟨kvs, e, h⟩
  · exact .inl ⟨kvs, .inl e, h⟩
  · exact .inr ⟨kvs, ⟨e.1, .inl e.2⟩, h⟩
/-- what is locked -/
def LkC (Y : Addr → Prop) (H : Hp) (u : HO) (es : List (D × D)) : Prop := (∃ kvs, u = .dK kvs ∧ IsKV Y H kvs es) ∨ (∃ kvs, (kvs ≠ [] ∧ u = .dT kvs) ∧ IsKT Y H kvs es)
theorem LkC.mono {Y Y' : Addr → Prop} {H H' : Hp} {u : HO} {es : List (D × D)} (hY : ∀ a, Y' a → Y a) (hH : Kps Y H H') (h : LkC Y H u es) : LkC Y' H' u es := by
  rcases h with ⟨kvs, e, h⟩ | ⟨kvs, e, h⟩
  · exact .inl ⟨kvs, e, IsKV.mono hY hH _ _ h⟩
  · exact .inr ⟨kvs, e, IsKT.mono hY hH _ _ h⟩
theorem LkC.grow {Y Y' : Addr → Prop} {H : Hp} {u : HO} {es : List (D × D)} (sub : ∀ a, Y' a → Y a ∨ H a = none) (h : LkC Y H u es) : LkC Y' H u es := by
  rcases h with ⟨kvs, e, h⟩ | ⟨kvs, e, h⟩
  · exact .inl ⟨kvs, e, IsKV.grow sub _ _ h⟩
  · exact .inr ⟨kvs, e, IsKT.grow sub _ _ h⟩
theorem LkC.rd {Y : Addr → Prop} {H : Hp} {a : Addr} {o : Obj} {u : HO} {es : List (D × D)} (e : H a = some (.frz o u)) (h : LkC Y H u es) : DcR Y H a es := by
  rcases h with ⟨kvs, q, h⟩ | ⟨kvs, q, h⟩
  · subst q; exact .inl ⟨kvs, .inr ⟨o, e⟩, h⟩
  · obtain ⟨n, q⟩ := q; subst q; exact .inr ⟨kvs, ⟨n, .inr ⟨o, e⟩⟩, h⟩
def SlOk (Y : Addr → Prop) (H : Hp) (oi : Option Addr) : Sl → Option (Option V) → Prop
  | .un, _ => True
  | .raw v, s => s = some (some v)
  | .dat d, s => ∃ v, s = some (some v) ∧ Is Y H v d
  | .opl ds, s => ∃ a xs, oi = some a ∧ s = some (some (.ref a)) ∧ H a = some (.lst xs) ∧ IsAll Y H xs ds
  | .opd es, s => ∃ a, oi = some a ∧ s = some (some (.ref a)) ∧ DcO Y H a es
  | .lkd es, s => ∃ a o u, s = some (some (.ref a)) ∧ ¬ Y a ∧ H a = some (.frz o u) ∧ LkC Y H u es

structure EnvOk {k : Kd} (g : Gh k) (O : Op) (ρ : Ev) (σ : L2.St) (H : Hp) : Prop where
  len : σ.length = ρ.length
  inj : ∀ i j a, O i = some a → O j = some a → i = j
  opn : ∀ i a, O i = some a → ¬ g.Z a ∧ g.H0 a = none ∧ H a ≠ none
  zdom : ∀ a, g.Z a → H a ≠ none
  dom : ∀ a, H a = none → g.H0 a = none
  base : ∀ a o, ¬ k.Vo a → g.H0 a = some o → H a = some o
  pl : k.Pl H
  bnd : ∃ n, ∀ i, n ≤ i → O i = none
  sl : ∀ i s, ρ[i]? = some s → SlOk (Yo g O) H (O i) s σ[i]?

/-- one expression's step -/
structure Stp (k : Kd) (H H' : Hp) : Prop where
  kp : ∀ a o, ¬ k.Vo a → H a = some o → H' a = some o
  dm : ∀ a, H' a = none → H a = none
  pl : k.Pl H → k.Pl H'
theorem Stp.refl (k : Kd) (H : Hp) : Stp k H H := ⟨fun _ _ _ e => e, fun _ e => e, fun h => h⟩
theorem Stp.trans {k : Kd} {H H1 H2 : Hp} (a : Stp k H H1) (b : Stp k H1 H2) : Stp k H H2 := ⟨fun c o n e => b.kp c o n (a.kp c o n e), fun c e => a.dm c (b.dm c e), fun h => b.pl (a.pl h)⟩
theorem Same.dm {H H' : Hp} (s : Same H H') : ∀ a, H' a = none → H a = none := fun a e => s.free e
theorem Stp.same {k : Kd} {H H' : Hp} (s : Same H H') : Stp k H H' := ⟨fun a o _ e => s a o e, fun a e => s.free e, k.pk H H' fun a o _ e => s a o e⟩
theorem same_new {H : Hp} {p : Addr} {o : HO} (h : H p = none) : Same H (upd H p o) := fun b x e => by
  rw [upd_ne (ne_of_none e h)]
  exact e
theorem Stp.new {k : Kd} {H : Hp} {p : Addr} {o : HO} (h : H p = none) : Stp k H (upd H p o) := .same (same_new h)

section
variable {k : Kd} {g : Gh k} {O : Op} {ρ : Ev} {σ : L2.St} {H H' : Hp}
theorem Stp.kps (h : Stp k H H') (g : Gh k) (O : Op) : Kps (Yo g O) H H' := Kps.of fun a o n e => h.kp a o (fun z => n (.inl (g.vz a z))) e
theorem Stp.kpsZ (h : Stp k H H') (g : Gh k) : Kps g.Z H H' := Kps.of fun a o n e => h.kp a o (fun z => n (g.vz a z)) e
theorem DcR.mono {Y Y' : Addr → Prop} {a : Addr} {es : List (D × D)} (hY : ∀ a, Y' a → Y a) (hH : Kps Y H H') (hd : (∀ u, Rd H a (.dK u) → Rd H' a (.dK u)) ∧ (∀ u, Rd H a (.dT u) → Rd H' a (.dT u))) (h : DcR Y H a es) : DcR Y' H' a es := by
  rcases h with ⟨kvs, e, h⟩ | ⟨kvs, e, h⟩
  · exact .inl ⟨kvs, hd.1 _ e, IsKV.mono hY hH _ _ h⟩
  · exact .inr ⟨kvs, ⟨e.1, hd.2 _ e.2⟩, IsKT.mono hY hH _ _ h⟩
theorem DcO.mono {Y Y' : Addr → Prop} {a : Addr} {es : List (D × D)} (hY : ∀ a, Y' a → Y a) (hH : Kps Y H H') (hd : ∀ o, H a = some o → H' a = some o) (h : DcO Y H a es) : DcO Y' H' a es := by
  rcases h with ⟨kvs, e, h⟩ | ⟨kvs, e, h⟩
  · exact .inl ⟨kvs, hd _ e, IsKV.mono hY hH _ _ h⟩
  · exact .inr ⟨kvs, ⟨e.1, hd _ e.2⟩, IsKT.mono hY hH _ _ h⟩
theorem EnvOk.ydom (e : EnvOk g O ρ σ H) : ∀ a, Yo g O a → H a ≠ none := fun a h => h.elim (e.zdom a) fun ⟨i, q⟩ => (e.opn i a q).2.2
theorem EnvOk.fresh (e : EnvOk g O ρ σ H) {a : Addr} (h : H a = none) : ¬ Yo g O a := fun y => e.ydom a y h
theorem EnvOk.step (e : EnvOk g O ρ σ H) (h : Stp k H H') : EnvOk g O ρ σ H' where
  len := e.len
  inj := e.inj
  opn := fun i a q => ⟨(e.opn i a q).1, (e.opn i a q).2.1, fun z => (e.opn i a q).2.2 (h.dm a z)⟩
  zdom := fun a q z => e.zdom a q (h.dm a z)
  dom := fun a z => e.dom a (h.dm a z)
  base := fun a o n q => h.kp a o n (e.base a o n q)
  pl := h.pl e.pl
  bnd := e.bnd
  sl := fun i s q => by
    have kp := h.kps g O
    have kq : ∀ a o, O i = some a → H a = some o → H' a = some o := fun a o z => h.kp a o fun v => (e.opn i a z).1 (g.vz a v)
    have z := e.sl i s q
    cases s with
    | un => trivial
    | raw v => exact z
    | dat d => obtain ⟨v, e1, e2⟩ := z; exact ⟨v, e1, Is.mono (fun _ y => y) kp _ _ e2⟩
    | opl ds => obtain ⟨a, xs, e1, e2, e3, e4⟩ := z; exact ⟨a, xs, e1, e2, kq a _ e1 e3, IsAll.mono (fun _ y => y) kp _ _ e4⟩
    | opd es => obtain ⟨a, e1, e2, e3⟩ := z; exact ⟨a, e1, e2, e3.mono (fun _ y => y) kp fun o => kq a o e1⟩
    | lkd es => obtain ⟨a, o, u, e1, n, e2, e3⟩ := z; exact ⟨a, o, u, e1, n, h.kp a _ (fun z => n (.inl (g.vz a z))) e2, e3.mono (fun _ y => y) kp⟩
end

/-! ### results -/
inductive Md where
  | nw | nd | fz | sh
/-- the top may be open, what is within is not -/
def IsTp (Y Z : Addr → Prop) (H : Hp) (v : V) : D → Prop
  | .list ds => ∃ a xs, v = .ref a ∧ ¬ Z a ∧ H a = some (.lst xs) ∧ IsAll Y H xs ds
  | .dict es => ∃ a, v = .ref a ∧ ¬ Z a ∧ DcR Y H a es
  | d => Is Y H v d
def Res (Y Z : Addr → Prop) (H H' : Hp) : Md → V → D → Prop
  | .nw, v, d => ∃ a xs ds, v = .ref a ∧ d = .list ds ∧ H a = none ∧ H' a = some (.lst xs) ∧ IsAll (fun b => Y b ∨ b = a) H' xs ds
  | .nd, v, d => ∃ a es, v = .ref a ∧ d = .dict es ∧ H a = none ∧ DcO (fun b => Y b ∨ b = a) H' a es
  | .fz, v, d => Is Y H' v d
  | .sh, v, d => IsTp Y Z H' v d
theorem IsTp.of {Y Z : Addr → Prop} {H : Hp} (zy : ∀ a, Z a → Y a) : ∀ {v : V} {d : D}, Is Y H v d → IsTp Y Z H v d := fun {v d} h => by
  cases d with
  | list ds => obtain ⟨a, xs, e, n, ha, h⟩ := h; exact ⟨a, xs, e, fun z => n (zy a z), ha, h⟩
  | dict es => obtain ⟨a, e, n, h⟩ := h; exact ⟨a, e, fun z => n (zy a z), h⟩
  | _ => exact h
/-- a view, without what is open -/
theorem IsTp.is {Y Z : Addr → Prop} {H : Hp} (zy : ∀ a, Z a → Y a) : ∀ {v : V} {d : D}, IsTp Y Z H v d → Is Z H v d := fun {v d} h => by
  cases d with
  | list ds => obtain ⟨a, xs, e, n, ha, h⟩ := h; exact ⟨a, xs, e, n, ha, IsAll.mono zy (Kps.refl _ _) _ _ h⟩
  | dict es =>
    obtain ⟨a, e, n, h⟩ := h
    refine ⟨a, e, n, ?_⟩
    rcases h with ⟨kvs, q, h⟩ | ⟨kvs, q, h⟩
    · exact .inl ⟨kvs, q, IsKV.mono zy (Kps.refl _ _) _ _ h⟩
    · exact .inr ⟨kvs, q, IsKT.mono zy (Kps.refl _ _) _ _ h⟩
  | _ => exact Is.mono zy (Kps.refl _ _) _ _ h
theorem IsTp.mono {Y Y' Z : Addr → Prop} {H H' : Hp} (hY : ∀ a, Y' a → Y a) (hH : Kps Y H H') (hZ : Kps Z H H') : ∀ {v : V} {d : D}, IsTp Y Z H v d → IsTp Y' Z H' v d := fun {v d} h => by
  cases d with
  | list ds => obtain ⟨a, xs, e, n, ha, h⟩ := h; exact ⟨a, xs, e, n, (hZ a n).1 _ ha, IsAll.mono hY hH _ _ h⟩
  | dict es => obtain ⟨a, e, n, h⟩ := h; exact ⟨a, e, n, h.mono hY hH ⟨(hZ a n).2.2.1, (hZ a n).2.2.2⟩⟩
  | _ => exact Is.mono hY hH _ _ h
theorem Res.fz {Y Z : Addr → Prop} {H H' : Hp} (dm : ∀ a, Y a → H a ≠ none) {v : V} {d : D} : ∀ {m : Md}, m ≠ .sh → Res Y Z H H' m v d → Is Y H' v d
  | .nw, _, ⟨a, xs, ds, e1, e2, n, ha, h⟩ => by subst e1 e2; exact ⟨a, xs, rfl, fun y => dm a y n, ha, IsAll.mono (fun _ y => .inl y) (Kps.refl _ _) _ _ h⟩
  | .nd, _, ⟨a, es, e1, e2, n, h⟩ => by
    subst e1 e2
    exact ⟨a, rfl, fun y => dm a y n, (h.mono (fun _ y => .inl y) (Kps.refl _ _) fun _ q => q).rd⟩
  | .fz, _, h => h
  | .sh, n, _ => (n rfl).elim
theorem Res.sh {Y Z : Addr → Prop} {H H' : Hp} (zy : ∀ a, Z a → Y a) (dm : ∀ a, Y a → H a ≠ none) {v : V} {d : D} {m : Md} (h : Res Y Z H H' m v d) : IsTp Y Z H' v d := by
  cases m with
  | sh => exact h
  | nw => exact IsTp.of zy (Res.fz (m := .nw) dm (by intro z; cases z) h)
  | nd => exact IsTp.of zy (Res.fz (m := .nd) dm (by intro z; cases z) h)
  | fz => exact IsTp.of zy h

/-! ### judgements -/
abbrev FE := Ev → (D → Prop) → Prop
abbrev FT := Ev → (Bool → Prop) → Prop
abbrev FA := Ev → (List D → Prop) → Prop
/-- an expression -/
def DE (X : Cx) (k : Kd) (m : Md) (e : Expr) (f : FE) : Prop := ∃ t : TE, PE X e t ∧ ∀ (g : Gh k) (O : Op) (ρ : Ev) (σ : L2.St) (H : Hp) (Q : D → Prop) (R : VK), EnvOk g O ρ σ H → f ρ Q →
  (∀ v H' d, Stp k H H' → Res (Yo g O) g.Z H H' m v d → Q d → R v H') → t σ H R
/-- a test -/
def DT (X : Cx) (k : Kd) (e : Expr) (f : FT) : Prop := ∃ t : TT, PT X e t ∧ ∀ (g : Gh k) (O : Op) (ρ : Ev) (σ : L2.St) (H : Hp) (Q : Bool → Prop) (R : Bool → Hp → Prop), EnvOk g O ρ σ H → f ρ Q →
  (∀ b H', Stp k H H' → Q b → R b H') → t σ H R
def IsTps (Y Z : Addr → Prop) (H : Hp) : List V → List D → Prop
  | vs, [] => vs = []
  | vs, d :: ds => ∃ v r, vs = v :: r ∧ IsTp Y Z H v d ∧ IsTps Y Z H r ds
theorem IsTps.is {Y Z : Addr → Prop} {H : Hp} (zy : ∀ a, Z a → Y a) : ∀ {ds : List D} {vs : List V}, IsTps Y Z H vs ds → IsAll Z H vs ds
  | [], _, h => h
  | d :: ds, vs, ⟨v, r, e, h1, h2⟩ => ⟨v, r, e, IsTp.is zy h1, IsTps.is zy h2⟩
/-- arguments: all frozen (b), or views -/
def DA (X : Cx) (k : Kd) (b : Bool) (es : List Expr) (f : FA) : Prop := ∃ t : TA, PA X es t ∧ ∀ (g : Gh k) (O : Op) (ρ : Ev) (σ : L2.St) (H : Hp) (Q : List D → Prop) (R : List V → Hp → Prop), EnvOk g O ρ σ H → f ρ Q →
  (∀ vs H' ds, Stp k H H' → (if b = true then IsAll (Yo g O) H' vs ds else IsTps (Yo g O) g.Z H' vs ds) → Q ds → R vs H') → t σ H R
section
variable {X : Cx} {k : Kd} {e : Expr} {f : FE}
theorem yz (g : Gh k) (O : Op) : ∀ a, g.Z a → Yo g O a := fun _ h => .inl h
theorem DE.fz {m : Md} (h : DE X k m e f) (n : m ≠ .sh := by intro z; cases z) : DE X k .fz e f := by
  obtain ⟨t, p, q⟩ := h
  exact ⟨t, p, fun g O ρ σ H Q R I hf w => q g O ρ σ H Q R I hf fun v H' d s r hq => w v H' d s (Res.fz (fun a => I.ydom a) n r) hq⟩
theorem DE.sh {m : Md} (h : DE X k m e f) : DE X k .sh e f := by
  obtain ⟨t, p, q⟩ := h
  exact ⟨t, p, fun g O ρ σ H Q R I hf w => q g O ρ σ H Q R I hf fun v H' d s r hq => w v H' d s (Res.sh (yz g O) (fun a => I.ydom a) r) hq⟩
theorem DE.imp {m : Md} {f' : FE} (h : DE X k m e f) (i : ∀ ρ Q, f' ρ Q → f ρ Q) : DE X k m e f' := by
  obtain ⟨t, p, q⟩ := h
  exact ⟨t, p, fun g O ρ σ H Q R I hf w => q g O ρ σ H Q R I (i ρ Q hf) w⟩
end

/-! ### statements -/
structure DEnds where
  nx : Ev → Prop
  rt : D → Prop
  bk : Ev → Prop := fun _ => False
  ct : Ev → Prop := fun _ => False
  ex : D → Prop := fun _ => False
abbrev FS := DEnds → Ev → Prop
structure StpO (k : Kd) (O : Op) (H : Hp) (O' : Op) (H' : Hp) : Prop where
  kp : ∀ a o, ¬ k.Vo a → (∀ i, O i ≠ some a) → H a = some o → H' a = some o
  dm : ∀ a, H' a = none → H a = none
  op : ∀ i a, O' i = some a → (∃ j, O j = some a) ∨ H a = none
theorem StpO.refl (k : Kd) (O : Op) (H : Hp) : StpO k O H O H := ⟨fun _ _ _ _ e => e, fun _ e => e, fun i a e => .inl ⟨i, e⟩⟩
theorem StpO.trans {k : Kd} {O O1 O2 : Op} {H H1 H2 : Hp} (a : StpO k O H O1 H1) (b : StpO k O1 H1 O2 H2) : StpO k O H O2 H2 where
  kp := fun c o n m e => b.kp c o n (fun i q => (a.op i c q).elim (fun ⟨j, z⟩ => m j z) fun z => by rw [z] at e; cases e) (a.kp c o n m e)
  dm := fun c e => a.dm c (b.dm c e)
  op := fun i c e => (b.op i c e).elim (fun ⟨j, q⟩ => a.op j c q) fun q => .inr (a.dm c q)
theorem Stp.o {k : Kd} {H H' : Hp} (h : Stp k H H') (O : Op) : StpO k O H O H' := ⟨fun a o n _ e => h.kp a o n e, h.dm, fun i a e => .inl ⟨i, e⟩⟩
structure RetOk {k : Kd} (g : Gh k) (m : Md) (v : V) (H' : Hp) (d : D) : Prop where
  base : ∀ a o, ¬ k.Vo a → g.H0 a = some o → H' a = some o
  dom : ∀ a, H' a = none → g.H0 a = none
  pl : k.Pl H'
  res : Res g.Z g.Z g.H0 H' m v d
structure XOk {k : Kd} (g : Gh k) (c : Value) (dd : Option Addr) (H' : Hp) (d : D) : Prop where
  base : ∀ a o, ¬ k.Vo a → g.H0 a = some o → H' a = some o
  dom : ∀ a, H' a = none → g.H0 a = none
  pl : k.Pl H'
  res : k.xr g.Z d c dd H'
structure Lk {k : Kd} (m : Md) (g : Gh k) (O : Op) (H : Hp) (E : XK) (DD : DEnds) (Dn : Ends) : Prop where
  nx : ∀ O' ρ' σ' H', StpO k O H O' H' → EnvOk g O' ρ' σ' H' → DD.nx ρ' → Dn.nx σ' H'
  bk : ∀ O' ρ' σ' H', StpO k O H O' H' → EnvOk g O' ρ' σ' H' → DD.bk ρ' → Dn.bk σ' H'
  ct : ∀ O' ρ' σ' H', StpO k O H O' H' → EnvOk g O' ρ' σ' H' → DD.ct ρ' → Dn.ct σ' H'
  rt : ∀ v H' d, RetOk g m v H' d → DD.rt d → Dn.rt v H'
  ex : ∀ c dd H' d, XOk g c dd H' d → DD.ex d → E c dd H'
theorem Lk.later {k : Kd} {m : Md} {g : Gh k} {O O1 : Op} {H H1 : Hp} {E : XK} {DD : DEnds} {Dn : Ends} (L : Lk m g O H E DD Dn) (s : StpO k O H O1 H1) : Lk m g O1 H1 E DD Dn :=
  ⟨fun O' ρ' σ' H' s' => L.nx O' ρ' σ' H' (s.trans s'), fun O' ρ' σ' H' s' => L.bk O' ρ' σ' H' (s.trans s'), fun O' ρ' σ' H' s' => L.ct O' ρ' σ' H' (s.trans s'), L.rt, L.ex⟩
def DS (X : Cx) (k : Kd) (m : Md) (E : XK) (st : Stmt) (F : FS) : Prop := ∃ t : TS, PS X st t ∧ ∀ (g : Gh k) (O : Op) (ρ : Ev) (σ : L2.St) (H : Hp) (DD : DEnds) (Dn : Ends), EnvOk g O ρ σ H → Lk m g O H E DD Dn → F DD ρ → t Dn σ H
def DSs (X : Cx) (k : Kd) (m : Md) (E : XK) (st : List Stmt) (F : FS) : Prop := ∃ t : TS, PSs X st t ∧ ∀ (g : Gh k) (O : Op) (ρ : Ev) (σ : L2.St) (H : Hp) (DD : DEnds) (Dn : Ends), EnvOk g O ρ σ H → Lk m g O H E DD Dn → F DD ρ → t Dn σ H
def fNx : FS := fun DD ρ => DD.nx ρ
def fSeq (F G : FS) : FS := fun DD ρ => F { DD with nx := G DD } ρ
section
variable {X : Cx} {k : Kd} {m : Md} {E : XK}
theorem dss_nil : DSs X k m E [] fNx := ⟨tNext, pss_nil, fun g O ρ σ H DD Dn I L h => L.nx O ρ σ H (StpO.refl k O H) I h⟩
theorem dss_cons {st : Stmt} {r : List Stmt} {F G : FS} (h1 : DS X k m E st F) (h2 : DSs X k m E r G) : DSs X k m E (st :: r) (fSeq F G) := by
  obtain ⟨t, p, q⟩ := h1
  obtain ⟨u, p2, q2⟩ := h2
  refine ⟨tSeq t u, pss_cons p p2, fun g O ρ σ H DD Dn I L h => ?_⟩
  exact q g O ρ σ H { DD with nx := G DD } { Dn with nx := u Dn } I ⟨fun O' ρ' σ' H' s I' h' => q2 g O' ρ' σ' H' DD Dn I' (L.later s) h', L.bk, L.ct, L.rt, L.ex⟩ h
theorem dss_one {st : Stmt} {F : FS} (h1 : DS X k m E st F) : DSs X k m E [st] F := by
  obtain ⟨t, p, q⟩ := h1
  refine ⟨_, pss_one p, fun g O ρ σ H DD Dn I L h => ?_⟩
  exact q g O ρ σ H DD Dn I L h
end

/-! ### what a def promises -/
def spM (m : Md) (f : List D → (D → Prop) → Prop) : Sp := fun vs H Q _ => ∃ (Y : Addr → Prop) (ds : List D) (P : D → Prop), (∀ a, Y a → H a ≠ none) ∧ IsAll Y H vs ds ∧ f ds P ∧
  ∀ v H' d, Same H H' → Res Y Y H H' m v d → P d → Q v H'
end L3

/-! L3c: expressions. -/
namespace L3
open PySem PySem.Spec L2
section
variable {X : Cx} {k : Kd}

/-! ### names, constants -/
def fV (i : Nat) : FE := fun ρ Q => match ρ[i]? with
  | some (.dat d) => Q d
  | _ => False
/-- a name read without being kept -/
def fVs (i : Nat) : FE := fun ρ Q => match ρ[i]? with
  | some (.dat d) => Q d
  | some (.opl ds) => Q (.list ds)
  | some (.opd es) => Q (.dict es)
  | some (.lkd es) => Q (.dict es)
  | _ => False
theorem de_v {e : Expr} {i : Nat} (h : PE X e (tVar i)) : DE X k .fz e (fV i) := by
  refine ⟨_, h, fun g O ρ σ H Q R I hf w => ?_⟩
  unfold fV at hf
  split at hf
  · rename_i d e
    obtain ⟨v, e1, e2⟩ := I.sl i _ e
    exact ⟨v, e1, w v H d (Stp.refl k H) e2 hf⟩
  · exact hf.elim
theorem de_vs {e : Expr} {i : Nat} (h : PE X e (tVar i)) : DE X k .sh e (fVs i) := by
  refine ⟨_, h, fun g O ρ σ H Q R I hf w => ?_⟩
  unfold fVs at hf
  split at hf
  · rename_i d e
    obtain ⟨v, e1, e2⟩ := I.sl i _ e
    exact ⟨v, e1, w v H d (Stp.refl k H) (IsTp.of (yz g O) e2) hf⟩
  · rename_i ds e
    obtain ⟨a, xs, e1, e2, e3, e4⟩ := I.sl i _ e
    exact ⟨_, e2, w _ H (.list ds) (Stp.refl k H) ⟨a, xs, rfl, (I.opn i a e1).1, e3, e4⟩ hf⟩
  · rename_i ds e
    obtain ⟨a, e1, e2, e3⟩ := I.sl i _ e
    exact ⟨_, e2, w _ H (.dict ds) (Stp.refl k H) ⟨a, rfl, (I.opn i a e1).1, e3.rd⟩ hf⟩
  · rename_i ds e
    obtain ⟨a, o, u, e1, n, e2, e3⟩ := I.sl i _ e
    exact ⟨_, e1, w _ H (.dict ds) (Stp.refl k H) ⟨a, rfl, fun z => n (.inl z), e3.rd e2⟩ hf⟩
  · exact hf.elim
def fC (d : D) : FE := fun _ Q => Q d
theorem de_int {i : Int} {j : Nat} {pos : Pos} : DE X k .fz (.Constant (.int i) j pos) (fC (.int i)) := ⟨_, pe_int, fun _ _ _ _ H _ _ _ hf w => w _ H (.int i) (Stp.refl k H) rfl hf⟩
theorem de_bl {b : Bool} {j : Nat} {pos : Pos} : DE X k .fz (.Constant (.bool b) j pos) (fC (.bool b)) := ⟨_, pe_bl, fun _ _ _ _ H _ _ _ hf w => w _ H (.bool b) (Stp.refl k H) rfl hf⟩
theorem de_non {j : Nat} {pos : Pos} : DE X k .fz (.Constant .none j pos) (fC .none) := ⟨_, pe_non, fun _ _ _ _ H _ _ _ hf w => w _ H (.none) (Stp.refl k H) rfl hf⟩
theorem de_str {x : Str} {j : Nat} {pos : Pos} : DE X k .fz (.Constant (.str x) j pos) (fC (.str x)) := ⟨_, pe_str, fun _ _ _ _ H _ _ _ hf w => w _ H (.str x) (Stp.refl k H) rfl hf⟩

/-! ### operations by values -/
/-- the reading of a two-place operation on data -/
def rD2 (m : Md) (o : D → D → (D → Prop) → Prop) : R2 := fun x y H Q => ∃ (Y Z : Addr → Prop) (d1 d2 : D) (P : D → Prop), (∀ a, Z a → Y a) ∧ (∀ a, Y a → H a ≠ none) ∧ IsTp Y Z H x d1 ∧ IsTp Y Z H y d2 ∧ o d1 d2 P ∧
  ∀ v H' d, Same H H' → Res Y Z H H' m v d → P d → Q v H'
def rD1 (m : Md) (o : D → (D → Prop) → Prop) : V → Hp → VK → Prop := fun x H Q => ∃ (Y Z : Addr → Prop) (d1 : D) (P : D → Prop), (∀ a, Z a → Y a) ∧ (∀ a, Y a → H a ≠ none) ∧ IsTp Y Z H x d1 ∧ o d1 P ∧
  ∀ v H' d, Same H H' → Res Y Z H H' m v d → P d → Q v H'
def rDC (m : Md) (o : List D → (D → Prop) → Prop) : List V → Hp → VK → Prop := fun xs H Q => ∃ (Y Z : Addr → Prop) (ds : List D) (P : D → Prop), (∀ a, Z a → Y a) ∧ (∀ a, Y a → H a ≠ none) ∧ IsTps Y Z H xs ds ∧ o ds P ∧
  ∀ v H' d, Same H H' → Res Y Z H H' m v d → P d → Q v H'
theorem Res.from {Y Z : Addr → Prop} {H H1 H' : Hp} (dm : ∀ a, H1 a = none → H a = none) {v : V} {d : D} : ∀ {m : Md}, Res Y Z H1 H' m v d → Res Y Z H H' m v d
  | .nw, ⟨a, xs, ds, e1, e2, n, h⟩ => ⟨a, xs, ds, e1, e2, dm a n, h⟩
  | .nd, ⟨a, es, e1, e2, n, h⟩ => ⟨a, es, e1, e2, dm a n, h⟩
  | .fz, h => h
  | .sh, h => h
def fOp (o : D → D → (D → Prop) → Prop) (fa fb : FE) : FE := fun ρ Q => fa ρ fun d1 => fb ρ fun d2 => o d1 d2 Q
def fUn (o : D → (D → Prop) → Prop) (fa : FE) : FE := fun ρ Q => fa ρ fun d1 => o d1 Q
def fCB (o : List D → (D → Prop) → Prop) (fa : FA) : FE := fun ρ Q => fa ρ fun ds => o ds Q
variable {a b e : Expr} {fa fb fc : FE} {m m1 m2 : Md} {pos : Pos}
theorem d2_of {t ta tb : TE} {o : D → D → (D → Prop) → Prop} {ta' : PE X a ta} {tb' : PE X b tb}
    (qa : ∀ (g : Gh k) (O : Op) (ρ : Ev) (σ : L2.St) (H : Hp) (Q : D → Prop) (R : VK), EnvOk g O ρ σ H → fa ρ Q → (∀ v H' d, Stp k H H' → Res (Yo g O) g.Z H H' .sh v d → Q d → R v H') → ta σ H R)
    (qb : ∀ (g : Gh k) (O : Op) (ρ : Ev) (σ : L2.St) (H : Hp) (Q : D → Prop) (R : VK), EnvOk g O ρ σ H → fb ρ Q → (∀ v H' d, Stp k H H' → Res (Yo g O) g.Z H H' .sh v d → Q d → R v H') → tb σ H R)
    {g : Gh k} {O : Op} {ρ : Ev} {σ : L2.St} {H : Hp} {Q : D → Prop} {R : VK} (I : EnvOk g O ρ σ H) (hf : fOp o fa fb ρ Q) (w : ∀ v H' d, Stp k H H' → Res (Yo g O) g.Z H H' m v d → Q d → R v H') : tOp (rD2 m o) ta tb σ H R := by
  refine qa g O ρ σ H _ _ I hf fun x H1 d1 s1 r1 h1 => ?_
  have I1 := I.step s1
  refine qb g O ρ σ H1 _ _ I1 h1 fun y H2 d2 s2 r2 h2 => ?_
  have I2 := I1.step s2
  refine ⟨Yo g O, g.Z, d1, d2, Q, yz g O, fun a => I2.ydom a, IsTp.mono (fun _ y => y) (s2.kps g O) (s2.kpsZ g) r1, r2, h2, fun v H' d sm r hq => ?_⟩
  exact w v H' d ((s1.trans s2).trans (Stp.same sm)) (Res.from (s1.trans s2).dm r) hq
theorem de_op {op : Operator} {o : D → D → (D → Prop) → Prop} (ho : OpR X (binaryOp op) (rD2 m o)) (ha : DE X k m1 a fa) (hb : DE X k m2 b fb) : DE X k m (.BinOp a op b pos) (fOp o fa fb) := by
  obtain ⟨ta, pa, qa⟩ := ha.sh
  obtain ⟨tb, pb, qb⟩ := hb.sh
  exact ⟨_, pe_op ho pa pb, fun g O ρ σ H Q R I hf w => d2_of (ta' := pa) (tb' := pb) (t := ta) qa qb I hf w⟩
theorem de_cmp {op : CmpOp} {o : D → D → (D → Prop) → Prop} (ho : OpR X (compareOp op) (rD2 m o)) (ha : DE X k m1 a fa) (hb : DE X k m2 b fb) (hm : behindInMarks op b = false) : DE X k m (.Compare a [op] [b] pos) (fOp o fa fb) := by
  obtain ⟨ta, pa, qa⟩ := ha.sh
  obtain ⟨tb, pb, qb⟩ := hb.sh
  exact ⟨_, pe_cmpR ho pa pb hm, fun g O ρ σ H Q R I hf w => d2_of (ta' := pa) (tb' := pb) (t := ta) qa qb I hf w⟩
theorem de_un {op : UnaryOp} {o : D → (D → Prop) → Prop} (ho : UnR X (unaryOp op) (rD1 m o)) (ha : DE X k m1 a fa) : DE X k m (.UnaryOp op a pos) (fUn o fa) := by
  obtain ⟨ta, pa, qa⟩ := ha.sh
  refine ⟨_, pe_un ho pa, fun g O ρ σ H Q R I hf w => ?_⟩
  refine qa g O ρ σ H _ _ I hf fun x H1 d1 s1 r1 h1 => ?_
  have I1 := I.step s1
  refine ⟨Yo g O, g.Z, d1, Q, yz g O, fun a => I1.ydom a, r1, h1, fun v H' d sm r hq => ?_⟩
  exact w v H' d (s1.trans (Stp.same sm)) (Res.from s1.dm r) hq
theorem de_ix {o : D → D → (D → Prop) → Prop} (ho : IxR X (rD2 m o)) (ha : DE X k m1 a fa) (hb : DE X k m2 b fb) (hs : PlainIx b) : DE X k m (.Subscript a b pos) (fOp o fa fb) := by
  obtain ⟨ta, pa, qa⟩ := ha.sh
  obtain ⟨tb, pb, qb⟩ := hb.sh
  exact ⟨_, pe_ix ho pa pb hs, fun g O ρ σ H Q R I hf w => d2_of (ta' := pa) (tb' := pb) (t := ta) qa qb I hf w⟩

/-! ### arguments -/
def fNil : FA := fun _ Q => Q []
def fCons (fa : FE) (fr : FA) : FA := fun ρ Q => fa ρ fun d => fr ρ fun ds => Q (d :: ds)
theorem da_nil {c : Bool} : DA X k c [] fNil := ⟨_, pa_nil, fun g O ρ σ H Q R I hf w => w [] H [] (Stp.refl k H) (by cases c <;> rfl) hf⟩
theorem da_cons {es : List Expr} {fr : FA} (ha : DE X k .fz e fa) (hr : DA X k true es fr) (hs : starEach (e :: es) X.env = (false, eval e X.env) :: starEach es X.env := by rfl) : DA X k true (e :: es) (fCons fa fr) := by
  obtain ⟨ta, pa, qa⟩ := ha
  obtain ⟨tr, pr, qr⟩ := hr
  refine ⟨_, pa_cons pa pr hs, fun g O ρ σ H Q R I hf w => ?_⟩
  refine qa g O ρ σ H _ _ I hf fun x H1 d1 s1 r1 h1 => ?_
  refine qr g O ρ σ H1 _ _ (I.step s1) h1 fun xs H2 ds s2 r2 h2 => ?_
  exact w _ H2 (d1 :: ds) (s1.trans s2) ⟨x, xs, rfl, Is.mono (fun _ y => y) (s2.kps g O) _ _ r1, r2⟩ h2
theorem da_consS {es : List Expr} {fr : FA} (ha : DE X k m e fa) (hr : DA X k false es fr) (hs : starEach (e :: es) X.env = (false, eval e X.env) :: starEach es X.env := by rfl) : DA X k false (e :: es) (fCons fa fr) := by
  obtain ⟨ta, pa, qa⟩ := ha.sh
  obtain ⟨tr, pr, qr⟩ := hr
  refine ⟨_, pa_cons pa pr hs, fun g O ρ σ H Q R I hf w => ?_⟩
  refine qa g O ρ σ H _ _ I hf fun x H1 d1 s1 r1 h1 => ?_
  refine qr g O ρ σ H1 _ _ (I.step s1) h1 fun xs H2 ds s2 r2 h2 => ?_
  exact w _ H2 (d1 :: ds) (s1.trans s2) ⟨x, xs, rfl, IsTp.mono (fun _ y => y) (s2.kps g O) (s2.kpsZ g) r1, r2⟩ h2

/-! ### displays -/
def fTup (fa : FA) : FE := fun ρ Q => fa ρ fun ds => ds.length ≤ sizeLine ∧ Q (.tuple ds)
def fLst (fa : FA) : FE := fun ρ Q => fa ρ fun ds => ds.length ≤ sizeLine ∧ Q (.list ds)
theorem de_tup {es : List Expr} {fr : FA} {x1 : Nat} (h : DA X k true es fr) : DE X k .fz (.Tuple es x1 pos) (fTup fr) := by
  obtain ⟨t, p, q⟩ := h
  refine ⟨_, pe_tup p, fun g O ρ σ H Q R I hf w => ?_⟩
  refine q g O ρ σ H _ _ I hf fun xs H1 ds s1 r1 ⟨hl, h1⟩ => ⟨by rw [IsAll.length r1]; exact hl, fun p hp => ?_⟩
  have I1 := I.step s1
  exact w _ _ (.tuple ds) (s1.trans (Stp.new hp)) ⟨p, xs, rfl, I1.fresh hp, upd_same, IsAll.mono (fun _ y => y) (Kps.same (same_new hp)) _ _ r1⟩ h1
theorem de_lst {es : List Expr} {fr : FA} (h : DA X k true es fr) : DE X k .nw (.List es pos) (fLst fr) := by
  obtain ⟨t, p, q⟩ := h
  refine ⟨_, pe_lst p, fun g O ρ σ H Q R I hf w => ?_⟩
  refine q g O ρ σ H _ _ I hf fun xs H1 ds s1 r1 ⟨hl, h1⟩ => ⟨by rw [IsAll.length r1]; exact hl, fun p hp => ?_⟩
  have I1 := I.step s1
  refine w _ _ _ (s1.trans (Stp.new hp)) ⟨p, xs, ds, rfl, rfl, s1.dm p hp, upd_same, ?_⟩ h1
  exact IsAll.mono (fun _ y => y) (Kps.same (same_new hp)) _ _ (IsAll.grow (fun a y => y.elim .inl fun e => .inr (e ▸ hp)) _ _ r1)

/-! ### calls of built-ins -/
theorem de_callB {x : Str} {id : String} {o : List D → (D → Prop) → Prop} {es : List Expr} {fr : FA} {c : Expr} {p : Pos} (hc : CallR X (.builtin id) (rDC m o)) (hm : X.mg x = none) (hg : Gl X x) (hv : bootBuiltins x = some (.builtin id)) (ha : DA X k false (c :: es) fr)
    (hn : x ≠ "__name__" := by decide) (hdb : (x == ("__debug__" : Str)) = false := by decide) (he : starEach (c :: es) X.env = (false, eval c X.env) :: starEach es X.env := by rfl) (hpl : (backTo pos (starEach es X.env)).any (·.1) = false := by rfl) :
    DE X k m (.Call (.Name x p) (c :: es) [] pos) (fCB o fr) := by
  obtain ⟨t, pa, q⟩ := ha
  refine ⟨_, pe_callB hc hg hm hv pa hn hdb he hpl, fun g O ρ σ H Q R I hf w => ?_⟩
  refine q g O ρ σ H _ _ I hf fun xs H1 ds s1 r1 h1 => ?_
  have I1 := I.step s1
  refine ⟨Yo g O, g.Z, ds, Q, yz g O, fun a => I1.ydom a, by simpa using r1, h1, fun v H' d sm r hq => ?_⟩
  exact w v H' d (s1.trans (Stp.same sm)) (Res.from s1.dm r) hq
theorem de_callTy {x : Str} {T : String} {o : List D → (D → Prop) → Prop} {es : List Expr} {fr : FA} {c : Expr} {p : Pos} (hc : CallR X (.type T) (rDC m o)) (hm : X.mg x = none) (hg : Gl X x) (hv : bootBuiltins x = some (.type T)) (ha : DA X k false (c :: es) fr)
    (hn : x ≠ "__name__" := by decide) (hdb : (x == ("__debug__" : Str)) = false := by decide) (he : starEach (c :: es) X.env = (false, eval c X.env) :: starEach es X.env := by rfl) (hpl : (backTo pos (starEach es X.env)).any (·.1) = false := by rfl) :
    DE X k m (.Call (.Name x p) (c :: es) [] pos) (fCB o fr) := by
  obtain ⟨t, pa, q⟩ := ha
  refine ⟨_, pe_callTy hc hg hm hv pa hn hdb he hpl, fun g O ρ σ H Q R I hf w => ?_⟩
  refine q g O ρ σ H _ _ I hf fun xs H1 ds s1 r1 h1 => ?_
  have I1 := I.step s1
  refine ⟨Yo g O, g.Z, ds, Q, yz g O, fun a => I1.ydom a, by simpa using r1, h1, fun v H' d sm r hq => ?_⟩
  exact w v H' d (s1.trans (Stp.same sm)) (Res.from s1.dm r) hq

/-! ### calls of the text's own defs -/
theorem de_call {f : Addr} {fd : FuncData} {ps : List Str} {n : Nat} {o : List D → (D → Prop) → Prop} {x : Str} {es : List Expr} {fr : FA} {c : Expr} {p : Pos} (F : FnOk X.prog X.w X.K X.mg X.base CX0 n f fd ps (spM m o)) (hr : Room n X.A) (hm : X.mg x = some (.ref f)) (hk : PySem.W.keepIn X.K (.ref f) = true) (hb : Binds X.K fd ps []) (hg : Gl X x)
    (ha : DA X k true (c :: es) fr) (hdb : (x == ("__debug__" : Str)) = false := by decide) (he : starEach (c :: es) X.env = (false, eval c X.env) :: starEach es X.env := by rfl) (hpl : (backTo pos (starEach es X.env)).any (·.1) = false := by rfl) :
    DE X k m (.Call (.Name x p) (c :: es) [] pos) (fCB o fr) := by
  obtain ⟨t, pa, q⟩ := ha
  refine ⟨_, pe_call F hr hg hm hk hb .nil pass0 pa hdb he hpl, fun g O ρ σ H Q R I hf w => ?_⟩
  refine q g O ρ σ H _ _ I hf fun xs H1 ds s1 r1 h1 => ?_
  have I1 := I.step s1
  rw [List.append_nil]
  refine ⟨Yo g O, ds, Q, fun a => I1.ydom a, by simpa using r1, h1, fun v H' d sm r hq => ?_⟩
  refine w v H' d (s1.trans (Stp.same sm)) ?_ hq
  have r' := Res.from s1.dm r
  cases m with
  | sh => exact IsTp.of (yz g O) (show Is (Yo g O) H' v d from IsTp.is (fun _ y => y) r')
  | nw => exact r'
  | nd => exact r'
  | fz => exact r'
/-- with views as arguments: an answer that is flat -/
def flat : D → Prop
  | .none => True
  | .bool _ => True
  | .int _ => True
  | .str _ => True
  | _ => False
theorem flat_is {Y Y' : Addr → Prop} {H H' : Hp} : ∀ {d : D} {v : V}, flat d → Is Y H v d → Is Y' H' v d
  | .none, _, _, h => h
  | .bool _, _, _, h => h
  | .int _, _, _, h => h
  | .str _, _, _, h => h
  | .list _, _, f, _ => f.elim
  | .tuple _, _, f, _ => f.elim
  | .dict _, _, f, _ => f.elim
def fCBf (o : List D → (D → Prop) → Prop) (fa : FA) : FE := fun ρ Q => fa ρ fun ds => o ds fun d => flat d ∧ Q d
theorem de_callV {f : Addr} {fd : FuncData} {ps : List Str} {n : Nat} {o : List D → (D → Prop) → Prop} {x : Str} {es : List Expr} {fr : FA} {c : Expr} {p : Pos} (F : FnOk X.prog X.w X.K X.mg X.base CX0 n f fd ps (spM m o)) (hr : Room n X.A) (hm : X.mg x = some (.ref f)) (hk : PySem.W.keepIn X.K (.ref f) = true) (hb : Binds X.K fd ps []) (hg : Gl X x)
    (ha : DA X k false (c :: es) fr) (hmd : m ≠ .sh := by intro z; cases z) (hdb : (x == ("__debug__" : Str)) = false := by decide) (he : starEach (c :: es) X.env = (false, eval c X.env) :: starEach es X.env := by rfl) (hpl : (backTo pos (starEach es X.env)).any (·.1) = false := by rfl) :
    DE X k .fz (.Call (.Name x p) (c :: es) [] pos) (fCBf o fr) := by
  obtain ⟨t, pa, q⟩ := ha
  refine ⟨_, pe_call F hr hg hm hk hb .nil pass0 pa hdb he hpl, fun g O ρ σ H Q R I hf w => ?_⟩
  refine q g O ρ σ H _ _ I hf fun xs H1 ds s1 r1 h1 => ?_
  have I1 := I.step s1
  rw [List.append_nil]
  refine ⟨g.Z, ds, _, fun a => I1.zdom a, IsTps.is (yz g O) (by simpa using r1), h1, fun v H' d sm r hq => ?_⟩
  exact w v H' d (s1.trans (Stp.same sm)) (flat_is hq.1 (Res.fz (fun a => I1.zdom a) hmd r)) hq.2
end
end L3

/-! L3d: operations on data. -/
namespace L3
open PySem PySem.Spec L2

/-- no dict within, depth at most n -/
def dp : Nat → D → Prop
  | _, .none => True
  | _, .bool _ => True
  | _, .int _ => True
  | _, .str _ => True
  | n + 1, .list ds => ∀ d ∈ ds, dp n d
  | n + 1, .tuple ds => ∀ d ∈ ds, dp n d
  | _, _ => False
theorem dp_map_l {α : Type} {n : Nat} {f : α → D} {xs : List α} : dp (n + 1) (.list (xs.map f)) ↔ ∀ x ∈ xs, dp n (f x) := by
  show (∀ d ∈ xs.map f, dp n d) ↔ _
  simp only [List.mem_map, forall_exists_index, and_imp, forall_apply_eq_imp_iff₂]
theorem dp_map_t {α : Type} {n : Nat} {f : α → D} {xs : List α} : dp (n + 1) (.tuple (xs.map f)) ↔ ∀ x ∈ xs, dp n (f x) := by
  show (∀ d ∈ xs.map f, dp n d) ↔ _
  simp only [List.mem_map, forall_exists_index, and_imp, forall_apply_eq_imp_iff₂]
mutual
theorem dp_plain : ∀ (d : D) (n : Nat), dp n d → d.plain = true ∧ d.depth ≤ n
  | .none, n, _ => ⟨rfl, Nat.zero_le _⟩
  | .bool _, n, _ => ⟨rfl, Nat.zero_le _⟩
  | .int _, n, _ => ⟨rfl, Nat.zero_le _⟩
  | .str _, n, _ => ⟨rfl, Nat.zero_le _⟩
  | .list ds, n, h => by
    cases n with
    | zero => exact (show False from h).elim
    | succ n =>
      obtain ⟨a, b⟩ := dp_plains ds n h
      refine ⟨by simpa only [PyData.plain] using a, ?_⟩
      simp only [PyData.depth]; omega
  | .tuple ds, n, h => by
    cases n with
    | zero => exact (show False from h).elim
    | succ n =>
      obtain ⟨a, b⟩ := dp_plains ds n h
      refine ⟨by simpa only [PyData.plain] using a, ?_⟩
      simp only [PyData.depth]; omega
  | .dict _, n, h => by cases n <;> exact (show False from h).elim
theorem dp_plains : ∀ (ds : List D) (n : Nat), (∀ d ∈ ds, dp n d) → PyData.plainAll ds = true ∧ PyData.depthAll ds ≤ n
  | [], n, _ => ⟨by simp only [PyData.plainAll], by simp only [PyData.depthAll]; omega⟩
  | d :: ds, n, h => by
    obtain ⟨a, b⟩ := dp_plain d n (h d List.mem_cons_self)
    obtain ⟨a', b'⟩ := dp_plains ds n fun x m => h x (List.mem_cons_of_mem _ m)
    refine ⟨by simp only [PyData.plainAll, a, a', Bool.and_self], ?_⟩
    simp only [PyData.depthAll]; omega
end
mutual
theorem Is.dpn {Y : Addr → Prop} {K : PySem.W.Frag} {H : Hp} : ∀ (d : D) (v : V), d.plain = true → Is Y H v d → Dp K H v d
  | .none, v, _, h => by cases (show v = _ from h); exact .non
  | .bool _, v, _, h => by cases (show v = _ from h); exact .bl _
  | .int _, v, _, h => by cases (show v = _ from h); exact .int _
  | .str _, v, _, h => by cases (show v = _ from h); exact .str _
  | .list ds, v, p, ⟨a, xs, e, n, ha, h⟩ => by subst e; exact .lst (SqL.of ha) (IsAll.dpn ds xs (by simpa only [PyData.plain] using p) h)
  | .tuple ds, v, p, ⟨a, xs, e, n, ha, h⟩ => by subst e; exact .tup (SqT.of ha) (IsAll.dpn ds xs (by simpa only [PyData.plain] using p) h)
  | .dict es, v, p, h => by simp only [PyData.plain] at p; cases p
theorem IsAll.dpn {Y : Addr → Prop} {K : PySem.W.Frag} {H : Hp} : ∀ (ds : List D) (vs : List V), PyData.plainAll ds = true → IsAll Y H vs ds → DpAll K H vs ds
  | [], vs, _, h => by cases (show vs = _ from h); exact .nil
  | d :: ds, vs, p, ⟨v, r, e, h1, h2⟩ => by
    simp only [PyData.plainAll, Bool.and_eq_true] at p
    subst e
    exact .cons (Is.dpn d v p.1 h1) (IsAll.dpn ds r p.2 h2)
end
section
variable {X : Cx} {k : Kd} {pins : List (Addr × Obj)} {σ : L2.St} {H : Hp} {s : Shared} {Y Z : Addr → Prop}
theorem IsTp.reads {n : Nat} {v : V} {d : D} {u : Value} (I : Inv X pins σ H s) (zy : ∀ a, Z a → Y a) (p : dp n d) (h : IsTp Y Z H v d) (r : RelV v u) : ∃ as, Reads s.heap u d as :=
  Dp.reads I d v u (Is.dpn d v (dp_plain d n p).1 (h.is zy)) r

/-! ### sums and the like -/
def oAdd : D → D → (D → Prop) → Prop
  | .int a, .int b, Q => Q (.int (a + b))
  | .str a, .str b, Q => a.length + b.length ≤ sizeLine ∧ Q (.str (a ++ b))
  | _, _, _ => False
def oAddL : D → D → (D → Prop) → Prop
  | .list a, .list b, Q => a.length + b.length ≤ sizeLine ∧ Q (.list (a ++ b))
  | _, _, _ => False
def oSub : D → D → (D → Prop) → Prop
  | .int a, .int b, Q => Q (.int (a - b))
  | _, _, _ => False
def mulOk (a b : Int) : Prop := CMul a b ∨ (a.natAbs < 2 ^ 4000 ∧ b.natAbs < 2 ^ 4000)
def oMul : D → D → (D → Prop) → Prop
  | .int a, .int b, Q => mulOk a b ∧ Q (.int (a * b))
  | _, _, _ => False
def oDiv : D → D → (D → Prop) → Prop
  | .int a, .int b, Q => (0 < b ∧ b.natAbs < 2 ^ 4000) ∧ Q (.int (a / b))
  | _, _, _ => False
def oMod : D → D → (D → Prop) → Prop
  | .int a, .int b, Q => 0 < b ∧ Q (.int (a % b))
  | _, _, _ => False
def oPow : D → D → (D → Prop) → Prop
  | .int a, .int b, Q => (0 ≤ b ∧ b ≤ 1000000 ∧ a.natAbs < 2 ^ 64) ∧ Q (.int (a ^ b.toNat))
  | _, _, _ => False
def oNeg : D → (D → Prop) → Prop
  | .int a, Q => Q (.int (-a))
  | _, _ => False
theorem opd_add : OpR X (binaryOp .Add) (rD2 .fz oAdd) := by
  intro pins s σ H x y v u Q I rx ry ⟨Y, Z, d1, d2, P, zy, dm, h1, h2, ho, w⟩
  cases d1 <;> cases d2 <;> try exact (show False from ho).elim
  · cases (show x = _ from h1); cases (show y = _ from h2)
    exact op_add pins s σ H _ _ v u Q I rx ry ⟨_, _, rfl, rfl, w _ _ (.int _) (Same.refl _) rfl ho⟩
  · cases (show x = _ from h1); cases (show y = _ from h2)
    exact op_add_str pins s σ H _ _ v u Q I rx ry ⟨_, _, rfl, rfl, ho.1, w _ _ (.str _) (Same.refl _) rfl ho.2⟩
theorem opd_addL : OpR X (binaryOp .Add) (rD2 .nw oAddL) := by
  intro pins s σ H x y v u Q I rx ry ⟨Y, Z, d1, d2, P, zy, dm, h1, h2, ho, w⟩
  cases d1 <;> cases d2 <;> try exact (show False from ho).elim
  obtain ⟨a, xs, rfl, na, ha, q1⟩ := h1
  obtain ⟨b, ys, rfl, nb, hb, q2⟩ := h2
  refine op_cat pins s σ H _ _ v u Q I rx ry ⟨_, _, _, _, rfl, rfl, ha, hb, by rw [q1.length, q2.length]; exact ho.1, fun p hp => ?_⟩
  refine w _ _ _ (same_new hp) ⟨p, _, _, rfl, rfl, hp, upd_same, ?_⟩ ho.2
  exact IsAll.mono (fun _ y => y) (Kps.same (same_new hp)) _ _ (IsAll.grow (fun a y => y.elim .inl fun e => .inr (e ▸ hp)) _ _ (q1.append q2))
theorem opd_sub : OpR X (binaryOp .Sub) (rD2 .fz oSub) := by
  intro pins s σ H x y v u Q I rx ry ⟨Y, Z, d1, d2, P, zy, dm, h1, h2, ho, w⟩
  cases d1 <;> cases d2 <;> try exact (show False from ho).elim
  cases (show x = _ from h1); cases (show y = _ from h2)
  exact op_sub pins s σ H _ _ v u Q I rx ry ⟨_, _, rfl, rfl, w _ _ (.int _) (Same.refl _) rfl ho⟩
theorem opd_mul : OpR X (binaryOp .Mult) (rD2 .fz oMul) := by
  intro pins s σ H x y v u Q I rx ry ⟨Y, Z, d1, d2, P, zy, dm, h1, h2, ho, w⟩
  cases d1 <;> cases d2 <;> try exact (show False from ho).elim
  cases (show x = _ from h1); cases (show y = _ from h2)
  rcases ho.1 with c | ⟨c1, c2⟩
  · exact op_mul pins s σ H _ _ v u Q I rx ry ⟨_, _, rfl, rfl, c, w _ _ (.int _) (Same.refl _) rfl ho.2⟩
  · exact op_mulW pins s σ H _ _ v u Q I rx ry ⟨_, _, rfl, rfl, wide_mul c1 c2 (by decide) (by decide) (by decide), w _ _ (.int _) (Same.refl _) rfl ho.2⟩
theorem opd_div : OpR X (binaryOp .FloorDiv) (rD2 .fz oDiv) := by
  intro pins s σ H x y v u Q I rx ry ⟨Y, Z, d1, d2, P, zy, dm, h1, h2, ho, w⟩
  cases d1 <;> cases d2 <;> try exact (show False from ho).elim
  cases (show x = _ from h1); cases (show y = _ from h2)
  exact op_fdivW pins s σ H _ _ v u Q I rx ry ⟨_, _, rfl, rfl, wide_div ho.1.1 ho.1.2 (by decide) (by decide), w _ _ (.int _) (Same.refl _) rfl ho.2⟩
theorem opd_mod : OpR X (binaryOp .Mod) (rD2 .fz oMod) := by
  intro pins s σ H x y v u Q I rx ry ⟨Y, Z, d1, d2, P, zy, dm, h1, h2, ho, w⟩
  cases d1 <;> cases d2 <;> try exact (show False from ho).elim
  cases (show x = _ from h1); cases (show y = _ from h2)
  exact op_mod pins s σ H _ _ v u Q I rx ry ⟨_, _, rfl, rfl, ho.1, w _ _ (.int _) (Same.refl _) rfl ho.2⟩
theorem opd_pow : OpR X (binaryOp .Pow) (rD2 .fz oPow) := by
  intro pins s σ H x y v u Q I rx ry ⟨Y, Z, d1, d2, P, zy, dm, h1, h2, ho, w⟩
  cases d1 <;> cases d2 <;> try exact (show False from ho).elim
  cases (show x = _ from h1); cases (show y = _ from h2)
  exact op_pow pins s σ H _ _ v u Q I rx ry ⟨_, _, rfl, rfl, ho.1, w _ _ (.int _) (Same.refl _) rfl ho.2⟩
theorem und_neg : UnR X (unaryOp .USub) (rD1 .fz oNeg) := by
  intro pins s σ H x v Q I rx ⟨Y, Z, d1, P, zy, dm, h1, ho, w⟩
  cases d1 <;> try exact (show False from ho).elim
  cases (show x = _ from h1)
  exact un_neg pins s σ H _ v Q I rx ⟨_, rfl, w _ _ (.int _) (Same.refl _) rfl ho⟩

/-! ### comparisons -/
def oEq (a b : D) (Q : D → Prop) : Prop := dp 12 a ∧ dp 12 b ∧ Q (.bool (PyData.eqv a b))
def oNe (a b : D) (Q : D → Prop) : Prop := dp 12 a ∧ dp 12 b ∧ Q (.bool (!PyData.eqv a b))
theorem opd_eq (hu : X.A.units + 64 < cLine) : OpR X (compareOp .Eq) (rD2 .fz oEq) := by
  intro pins s σ H x y v u Q I rx ry ⟨Y, Z, d1, d2, P, zy, dm, h1, h2, ⟨p1, p2, ho⟩, w⟩
  obtain ⟨as, r1⟩ := h1.reads I zy p1 rx
  obtain ⟨bs, r2⟩ := h2.reads I zy p2 ry
  have b1 := dp_plain _ _ p1
  have b2 := dp_plain _ _ p2
  refine PySem.SeqAt.eq_plain r1 r2 b1.1 b2.1 (by have := Nat.min_le_left d1.depth d2.depth; omega) ⟨.bl _, H, I, rfl, w _ _ (.bool _) (Same.refl _) rfl ho⟩
theorem opd_ne (hu : X.A.units + 64 < cLine) : OpR X (compareOp .NotEq) (rD2 .fz oNe) := by
  intro pins s σ H x y v u Q I rx ry ⟨Y, Z, d1, d2, P, zy, dm, h1, h2, ⟨p1, p2, ho⟩, w⟩
  obtain ⟨as, r1⟩ := h1.reads I zy p1 rx
  obtain ⟨bs, r2⟩ := h2.reads I zy p2 ry
  have b1 := dp_plain _ _ p1
  have b2 := dp_plain _ _ p2
  refine PySem.SeqAt.ne_plain r1 r2 b1.1 b2.1 (by have := Nat.min_le_left d1.depth d2.depth; omega) ⟨.bl _, H, I, rfl, w _ _ (.bool _) (Same.refl _) rfl ho⟩

theorem min_le64 {d1 d2 : D} {n : Nat} (h : d1.depth ≤ n) (hn : n ≤ 12) (hu : X.A.units + 64 < cLine) : X.A.units + min d1.depth d2.depth < cLine := by
  have := Nat.min_le_left d1.depth d2.depth
  omega
/-- order: ints, texts, data that are alike -/
def oRel (f : D → D → Bool) (a b : D) (Q : D → Prop) : Prop := dp 12 a ∧ dp 12 b ∧ PySem.W.alike a b = true ∧ a ≠ .none ∧ Q (.bool (f a b))
def oLt := oRel fun a b => PySem.W.dataLt a b
def oGt := oRel fun a b => PySem.W.dataLt b a
def oLe := oRel fun a b => !PySem.W.dataLt b a
def oGe := oRel fun a b => !PySem.W.dataLt a b
theorem opd_lt (hu : X.A.units + 64 < cLine) : OpR X (compareOp .Lt) (rD2 .fz oLt) := by
  intro pins s σ H x y v u Q I rx ry ⟨Y, Z, d1, d2, P, zy, dm, h1, h2, ⟨p1, p2, al, nn, ho⟩, w⟩
  obtain ⟨as, r1⟩ := h1.reads I zy p1 rx
  obtain ⟨bs, r2⟩ := h2.reads I zy p2 ry
  exact PySem.W.lt_data r1 r2 al nn (min_le64 (dp_plain _ _ p1).2 (by omega) hu) ⟨.bl _, H, I, rfl, w _ _ (.bool _) (Same.refl _) rfl ho⟩
theorem opd_gt (hu : X.A.units + 64 < cLine) : OpR X (compareOp .Gt) (rD2 .fz oGt) := by
  intro pins s σ H x y v u Q I rx ry ⟨Y, Z, d1, d2, P, zy, dm, h1, h2, ⟨p1, p2, al, nn, ho⟩, w⟩
  obtain ⟨as, r1⟩ := h1.reads I zy p1 rx
  obtain ⟨bs, r2⟩ := h2.reads I zy p2 ry
  exact PySem.W.gt_data r1 r2 al nn (min_le64 (dp_plain _ _ p1).2 (by omega) hu) ⟨.bl _, H, I, rfl, w _ _ (.bool _) (Same.refl _) rfl ho⟩
theorem opd_le (hu : X.A.units + 64 < cLine) : OpR X (compareOp .LtE) (rD2 .fz oLe) := by
  intro pins s σ H x y v u Q I rx ry ⟨Y, Z, d1, d2, P, zy, dm, h1, h2, ⟨p1, p2, al, nn, ho⟩, w⟩
  obtain ⟨as, r1⟩ := h1.reads I zy p1 rx
  obtain ⟨bs, r2⟩ := h2.reads I zy p2 ry
  exact PySem.W.le_data r1 r2 al nn (min_le64 (dp_plain _ _ p1).2 (by omega) hu) ⟨.bl _, H, I, rfl, w _ _ (.bool _) (Same.refl _) rfl ho⟩
theorem opd_ge (hu : X.A.units + 64 < cLine) : OpR X (compareOp .GtE) (rD2 .fz oGe) := by
  intro pins s σ H x y v u Q I rx ry ⟨Y, Z, d1, d2, P, zy, dm, h1, h2, ⟨p1, p2, al, nn, ho⟩, w⟩
  obtain ⟨as, r1⟩ := h1.reads I zy p1 rx
  obtain ⟨bs, r2⟩ := h2.reads I zy p2 ry
  exact PySem.W.ge_data r1 r2 al nn (min_le64 (dp_plain _ _ p1).2 (by omega) hu) ⟨.bl _, H, I, rfl, w _ _ (.bool _) (Same.refl _) rfl ho⟩
/-- ints, by numbers -/
theorem oLt_int {a b : Int} {Q : D → Prop} (h : Q (.bool (decide (a < b)))) : oLt (.int a) (.int b) Q := ⟨trivial, trivial, rfl, (by intro z; cases z), by show Q (.bool (PySem.W.dataLt _ _)); rw [PySem.W.dataLt_int]; exact h⟩
theorem oGt_int {a b : Int} {Q : D → Prop} (h : Q (.bool (decide (b < a)))) : oGt (.int a) (.int b) Q := ⟨trivial, trivial, rfl, (by intro z; cases z), by show Q (.bool (PySem.W.dataLt _ _)); rw [PySem.W.dataLt_int]; exact h⟩
theorem oLe_int {a b : Int} {Q : D → Prop} (h : Q (.bool (decide (a ≤ b)))) : oLe (.int a) (.int b) Q := ⟨trivial, trivial, rfl, (by intro z; cases z), by show Q (.bool (!PySem.W.dataLt _ _)); rw [PySem.W.dataLt_int, PySem.W.not_lt_int]; exact h⟩
theorem oGe_int {a b : Int} {Q : D → Prop} (h : Q (.bool (decide (b ≤ a)))) : oGe (.int a) (.int b) Q := ⟨trivial, trivial, rfl, (by intro z; cases z), by show Q (.bool (!PySem.W.dataLt _ _)); rw [PySem.W.dataLt_int, PySem.W.not_lt_int]; exact h⟩

/-! ### in -/
/-- an entry's value by its key, at the level of data -/
def lookD (es : List (D × D)) (d : D) : Option D := (es.find? fun p => PyData.eqv p.1 d).map (·.2)
/-- a key: an int, a text; a tuple of such -/
def isKey : D → Prop
  | .int _ => True
  | .str _ => True
  | _ => False
end
end L3

/-! L3e: dicts by data, in, subscripts, slices, built-ins. -/
namespace L3
open PySem PySem.Spec L2

/-! ### keys -/
theorem eqv_kD (a b : Key) : PyData.eqv (kD a) (kD b) = decide (a = b) := by
  cases a with
  | inl i =>
    cases b with
    | inl j =>
      show (i == j) = _
      by_cases e : i = j
      · subst e; simp
      · have h : ¬ (Sum.inl i : Key) = Sum.inl j := fun q => e (Sum.inl.inj q)
        rw [decide_eq_false h]; exact beq_eq_false_iff_ne.mpr e
    | inr y => rfl
  | inr x =>
    cases b with
    | inl j => rfl
    | inr y =>
      show (x == y) = _
      by_cases e : x = y
      · subst e; simp
      · have h : ¬ (Sum.inr x : Key) = Sum.inr y := fun q => e (Sum.inr.inj q)
        rw [decide_eq_false h]; exact beq_eq_false_iff_ne.mpr e
theorem kD_inj {a b : Key} (h : kD a = kD b) : a = b := by
  have e := eqv_kD a b
  rw [h, eqv_kD b b] at e
  simp at e
  exact e
theorem isKey_k {d : D} (h : isKey d) : ∃ k : Key, d = kD k := by
  cases d <;> first | exact h.elim | exact ⟨.inl _, rfl⟩ | exact ⟨.inr _, rfl⟩
theorem kD_v {Y : Addr → Prop} {H : Hp} {v : V} {k : Key} (h : Is Y H v (kD k)) : v = kV k := by
  cases k <;> exact h
def putD (es : List (D × D)) (k v : D) : List (D × D) := if (es.any fun p => PyData.eqv p.1 k) = true then es.map (fun p => if PyData.eqv p.1 k = true then (p.1, v) else p) else es ++ [(k, v)]
def dropD (es : List (D × D)) (k : D) : List (D × D) := es.filter fun p => !PyData.eqv p.1 k
def keysOk (es : List (D × D)) : Prop := ∀ p ∈ es, isKey p.1
section
variable {Y Z : Addr → Prop} {H : Hp}
theorem IsKV.look {j : Key} : ∀ {es : List (D × D)} {kvs : List (Key × V)}, IsKV Y H kvs es → (∀ d, lookD es (kD j) = some d → ∃ v, valV kvs j = some v ∧ Is Y H v d) ∧ (lookD es (kD j) = none → valV kvs j = none)
  | [], _, h => by cases (show _ = _ from h); exact ⟨fun d e => by (cases e), fun _ => rfl⟩
  | (k, d) :: es, _, ⟨k', v, r, e, ek, h1, h2⟩ => by
    subst e ek
    by_cases q : k' = j
    · subst q
      have e1 : lookD ((kD k', d) :: es) (kD k') = some d := by simp [lookD, List.find?_cons, eqv_kD]
      rw [e1, valV_pos (p := (k', v)) rfl]
      exact ⟨fun d' e => by (cases e; exact ⟨v, rfl, h1⟩), fun e => by (cases e)⟩
    · have e1 : lookD ((kD k', d) :: es) (kD j) = lookD es (kD j) := by simp [lookD, List.find?_cons, eqv_kD, q]
      rw [e1, valV_neg (p := (k', v)) q]
      exact IsKV.look h2
theorem IsKV.any {j : Key} : ∀ {es : List (D × D)} {kvs : List (Key × V)}, IsKV Y H kvs es → (es.any fun p => PyData.eqv p.1 (kD j)) = kvs.any fun kv => decide (kv.1 = j)
  | [], _, h => by cases (show _ = _ from h); rfl
  | (k, d) :: es, _, ⟨k', v, r, e, ek, h1, h2⟩ => by
    subst e ek
    rw [List.any_cons, List.any_cons, IsKV.any h2]
    show (PyData.eqv (kD k') (kD j) || _) = _
    rw [eqv_kD]
theorem IsKV.isSome {es : List (D × D)} {kvs : List (Key × V)} {j : Key} (h : IsKV Y H kvs es) : (valV kvs j).isSome = (lookD es (kD j)).isSome := by
  obtain ⟨a, b⟩ := h.look (j := j)
  cases e : lookD es (kD j) with
  | none => rw [b e]; rfl
  | some d => obtain ⟨v, q, _⟩ := a d e; rw [q]; rfl
theorem IsKV.length : ∀ {es : List (D × D)} {kvs : List (Key × V)}, IsKV Y H kvs es → kvs.length = es.length
  | [], _, h => by cases (show _ = _ from h); rfl
  | (k, d) :: es, _, ⟨k', v, r, e, ek, h1, h2⟩ => by subst e; simp only [List.length_cons]; rw [IsKV.length h2]
theorem IsKT.length : ∀ {es : List (D × D)} {kvs : List (List Key × V)}, IsKT Y H kvs es → kvs.length = es.length
  | [], _, h => by cases (show _ = _ from h); rfl
  | (k, d) :: es, _, ⟨k', v, r, e, ek, h1, h2⟩ => by subst e; simp only [List.length_cons]; rw [IsKT.length h2]
theorem IsKV.snoc {j : Key} {w : V} {d' : D} (hw : Is Y H w d') : ∀ {es : List (D × D)} {kvs : List (Key × V)}, IsKV Y H kvs es → IsKV Y H (kvs ++ [(j, w)]) (es ++ [(kD j, d')])
  | [], _, h => by cases (show _ = _ from h); exact ⟨j, w, [], rfl, rfl, hw, rfl⟩
  | (k, d) :: es, _, ⟨k', v, r, e, ek, h1, h2⟩ => by subst e; exact ⟨k', v, _, rfl, ek, h1, IsKV.snoc hw h2⟩
theorem IsKV.repl {j : Key} {w : V} {d' : D} (hw : Is Y H w d') : ∀ {es : List (D × D)} {kvs : List (Key × V)}, IsKV Y H kvs es → IsKV Y H (kvs.map fun kv => if kv.1 = j then (kv.1, w) else kv) (es.map fun p => if PyData.eqv p.1 (kD j) = true then (p.1, d') else p)
  | [], _, h => by cases (show _ = _ from h); rfl
  | (k, d) :: es, _, ⟨k', v, r, e, ek, h1, h2⟩ => by
    subst e ek
    have ih := IsKV.repl (j := j) hw h2
    rw [List.map_cons, List.map_cons]
    show IsKV Y H ((if k' = j then (k', w) else (k', v)) :: _) ((if PyData.eqv (kD k') (kD j) = true then (kD k', d') else (kD k', d)) :: _)
    rw [eqv_kD]
    by_cases q : k' = j
    · rw [if_pos q, if_pos (by simpa using q)]; exact ⟨k', w, _, rfl, rfl, hw, ih⟩
    · rw [if_neg q, if_neg (by simpa using q)]; exact ⟨k', v, _, rfl, rfl, h1, ih⟩
theorem IsKV.put {j : Key} {w : V} {d' : D} (hw : Is Y H w d') {es : List (D × D)} {kvs : List (Key × V)} (h : IsKV Y H kvs es) : IsKV Y H (putK kvs j w) (putD es (kD j) d') := by
  unfold putK putD
  rw [h.any (j := j)]
  by_cases e : (kvs.any fun kv => decide (kv.1 = j)) = true
  · rw [if_pos e, if_pos e]; exact h.repl hw
  · rw [if_neg e, if_neg e]; exact h.snoc hw
theorem IsKV.drop {j : Key} : ∀ {es : List (D × D)} {kvs : List (Key × V)}, IsKV Y H kvs es → IsKV Y H (dropK kvs j) (dropD es (kD j))
  | [], _, h => by cases (show _ = _ from h); rfl
  | (k, d) :: es, _, ⟨k', v, r, e, ek, h1, h2⟩ => by
    subst e ek
    have ih := IsKV.drop (j := j) h2
    unfold dropK dropD at ih ⊢
    rw [List.filter_cons, List.filter_cons]
    show IsKV Y H (if decide (k' ≠ j) = true then _ else _) (if (!PyData.eqv (kD k') (kD j)) = true then _ else _)
    rw [eqv_kD]
    by_cases q : k' = j
    · rw [if_neg (by simpa using q), if_neg (by simpa using q)]; exact ih
    · rw [if_pos (by simpa using q), if_pos (by simpa using q)]; exact ⟨k', v, _, rfl, rfl, h1, ih⟩
theorem IsKT.keys : ∀ {es : List (D × D)} {kvs : List (List Key × V)}, IsKT Y H kvs es → keysOk es → kvs = []
  | [], _, h, _ => h
  | (k, d) :: es, _, ⟨k', v, r, e, ek, h1, h2⟩, o => by subst ek; exact ((show False from o _ List.mem_cons_self)).elim
/-- a dict whose keys are ints and texts -/
theorem DcR.key {a : Addr} {es : List (D × D)} (h : DcR Y H a es) (o : keysOk es) : ∃ kvs, Rd H a (.dK kvs) ∧ IsKV Y H kvs es := by
  rcases h with h | ⟨kvs, ⟨n, _⟩, h⟩
  · exact h
  · exact (n (h.keys o)).elim
theorem DcO.key {a : Addr} {es : List (D × D)} (h : DcO Y H a es) (o : keysOk es) : ∃ kvs, H a = some (.dK kvs) ∧ IsKV Y H kvs es := by
  rcases h with h | ⟨kvs, ⟨n, _⟩, h⟩
  · exact h
  · exact (n (h.keys o)).elim
end

section
variable {X : Cx} {k : Kd}
/-! ### in -/
def oIn (neg : Bool) : D → D → (D → Prop) → Prop
  | d, .list ds, Q => dp 12 d ∧ dp 12 (.list ds) ∧ Q (.bool (if neg then !(ds.any fun y => PyData.eqv y d) else ds.any fun y => PyData.eqv y d))
  | d, .tuple ds, Q => dp 12 d ∧ dp 12 (.tuple ds) ∧ Q (.bool (if neg then !(ds.any fun y => PyData.eqv y d) else ds.any fun y => PyData.eqv y d))
  | d, .dict es, Q => isKey d ∧ keysOk es ∧ Q (.bool (if neg then !(lookD es d).isSome else (lookD es d).isSome))
  | _, _, _ => False
theorem min_in {a b n : Nat} (h : b ≤ n) (hn : n ≤ 12) (hu : X.A.units + 64 < cLine) : X.A.units + 1 + min a b < cLine := by
  have := Nat.min_le_right a b
  omega
theorem opd_in (hu : X.A.units + 64 < cLine) : OpR X (compareOp .In) (rD2 .fz (oIn false)) := by
  intro pins s σ H x y v u Q I rx ry ⟨Y, Z, d1, d2, P, zy, dm, h1, h2, ho, w⟩
  cases d2 with
  | list ds =>
    obtain ⟨p1, p2, ho⟩ := ho
    obtain ⟨as, r1⟩ := h1.reads I zy p1 rx
    obtain ⟨bs, r2⟩ := IsTp.reads (d := .list ds) I zy p2 h2 ry
    have b1 := dp_plain _ _ p1
    have b2 := dp_plain _ _ p2
    exact PySem.SeqAt.in_list_data r2 r1 (by simpa only [PyData.plain] using b2.1) b1.1 (min_in b1.2 (by omega) hu) ⟨.bl _, H, I, rfl, w _ _ (.bool _) (Same.refl _) rfl ho⟩
  | tuple ds =>
    obtain ⟨p1, p2, ho⟩ := ho
    obtain ⟨as, r1⟩ := h1.reads I zy p1 rx
    obtain ⟨bs, r2⟩ := IsTp.reads (d := .tuple ds) I zy p2 h2 ry
    have b1 := dp_plain _ _ p1
    have b2 := dp_plain _ _ p2
    exact PySem.SeqAt.in_tuple_data r2 r1 (by simpa only [PyData.plain] using b2.1) b1.1 (min_in b1.2 (by omega) hu) ⟨.bl _, H, I, rfl, w _ _ (.bool _) (Same.refl _) rfl ho⟩
  | dict es =>
    obtain ⟨p1, p2, ho⟩ := ho
    obtain ⟨j, rfl⟩ := isKey_k p1
    obtain ⟨a, rfl, n, h2⟩ := h2
    obtain ⟨kvs, rd, kv⟩ := h2.key p2
    have ex : x = kV j := by cases j <;> exact h1
    subst ex
    cases (show u = Value.ref a from ry)
    refine d_in (by omega) I (.inl ⟨kvs, j, rd, rfl, rfl⟩) rx fun s' I' => ⟨.bl _, H, I', ?_, w _ _ (.bool _) (Same.refl _) rfl ho⟩
    rw [← kv.isSome]; rfl
  | _ => cases d1 <;> exact (show False from ho).elim
theorem opd_notIn (hu : X.A.units + 64 < cLine) : OpR X (compareOp .NotIn) (rD2 .fz (oIn true)) := by
  intro pins s σ H x y v u Q I rx ry ⟨Y, Z, d1, d2, P, zy, dm, h1, h2, ho, w⟩
  cases d2 with
  | list ds =>
    obtain ⟨p1, p2, ho⟩ := ho
    obtain ⟨as, r1⟩ := h1.reads I zy p1 rx
    obtain ⟨bs, r2⟩ := IsTp.reads (d := .list ds) I zy p2 h2 ry
    have b1 := dp_plain _ _ p1
    have b2 := dp_plain _ _ p2
    exact PySem.SeqAt.notIn_list_data r2 r1 (by simpa only [PyData.plain] using b2.1) b1.1 (min_in b1.2 (by omega) hu) ⟨.bl _, H, I, rfl, w _ _ (.bool _) (Same.refl _) rfl ho⟩
  | tuple ds =>
    obtain ⟨p1, p2, ho⟩ := ho
    obtain ⟨as, r1⟩ := h1.reads I zy p1 rx
    obtain ⟨bs, r2⟩ := IsTp.reads (d := .tuple ds) I zy p2 h2 ry
    have b1 := dp_plain _ _ p1
    have b2 := dp_plain _ _ p2
    exact PySem.SeqAt.notIn_tuple_data r2 r1 (by simpa only [PyData.plain] using b2.1) b1.1 (min_in b1.2 (by omega) hu) ⟨.bl _, H, I, rfl, w _ _ (.bool _) (Same.refl _) rfl ho⟩
  | dict es =>
    obtain ⟨p1, p2, ho⟩ := ho
    obtain ⟨j, rfl⟩ := isKey_k p1
    obtain ⟨a, rfl, n, h2⟩ := h2
    obtain ⟨kvs, rd, kv⟩ := h2.key p2
    have ex : x = kV j := by cases j <;> exact h1
    subst ex
    cases (show u = Value.ref a from ry)
    refine d_notIn (by omega) I (.inl ⟨kvs, j, rd, rfl, rfl⟩) rx fun s' I' => ⟨.bl _, H, I', ?_, w _ _ (.bool _) (Same.refl _) rfl ho⟩
    rw [← kv.isSome]; rfl
  | _ => cases d1 <;> exact (show False from ho).elim

/-! ### is None -/
def isNb (neg : Bool) : D → Bool
  | .none => !neg
  | _ => neg
def oIsN (neg : Bool) : D → D → (D → Prop) → Prop
  | d, .none, Q => Q (.bool (isNb neg d))
  | _, _, _ => False
theorem opd_is : OpR X (compareOp .Is) (rD2 .fz (oIsN false)) := by
  intro pins s σ H x y v u Q I rx ry ⟨Y, Z, d1, d2, P, zy, dm, h1, h2, ho, w⟩
  cases d2 with
  | none =>
    cases (show y = _ from h2)
    refine op_isN pins s σ H x _ v u Q I rx ry ⟨rfl, ?_⟩
    have q := w (.bl (decide (x = .non))) H (.bool (decide (x = .non))) (Same.refl _) rfl
    refine q ?_
    cases d1 with
    | none => cases (show x = _ from h1); exact ho
    | bool b => cases (show x = _ from h1); exact ho
    | int b => cases (show x = _ from h1); exact ho
    | str b => cases (show x = _ from h1); exact ho
    | list ds => obtain ⟨a, xs, rfl, _⟩ := h1; exact ho
    | tuple ds => obtain ⟨a, xs, rfl, _⟩ := h1; exact ho
    | dict ds => obtain ⟨a, rfl, _⟩ := h1; exact ho
  | _ => cases d1 <;> exact (show False from ho).elim
theorem opd_isNot : OpR X (compareOp .IsNot) (rD2 .fz (oIsN true)) := by
  intro pins s σ H x y v u Q I rx ry ⟨Y, Z, d1, d2, P, zy, dm, h1, h2, ho, w⟩
  cases d2 with
  | none =>
    cases (show y = _ from h2)
    refine op_notN pins s σ H x _ v u Q I rx ry ⟨rfl, ?_⟩
    have q := w (.bl (!decide (x = .non))) H (.bool (!decide (x = .non))) (Same.refl _) rfl
    refine q ?_
    cases d1 with
    | none => cases (show x = _ from h1); exact ho
    | bool b => cases (show x = _ from h1); exact ho
    | int b => cases (show x = _ from h1); exact ho
    | str b => cases (show x = _ from h1); exact ho
    | list ds => obtain ⟨a, xs, rfl, _⟩ := h1; exact ho
    | tuple ds => obtain ⟨a, xs, rfl, _⟩ := h1; exact ho
    | dict ds => obtain ⟨a, rfl, _⟩ := h1; exact ho
  | _ => cases d1 <;> exact (show False from ho).elim

/-! ### subscripts -/
theorem IsAll.at {Y : Addr → Prop} {H : Hp} {ds : List D} {vs : List V} {i : Int} {d : D} (h : IsAll Y H vs ds) (e : atI ds i = some d) : ∃ v, atI vs i = some v ∧ Is Y H v d := by
  unfold atI at e ⊢
  rw [h.length]
  cases q : ixN ds.length i with
  | none => rw [q] at e; cases e
  | some j =>
    rw [q] at e
    exact h.get e
def oIx : D → D → (D → Prop) → Prop
  | .list ds, .int i, Q => ∃ d, atI ds i = some d ∧ Q d
  | .tuple ds, .int i, Q => ∃ d, atI ds i = some d ∧ Q d
  | .str z, .int i, Q => z.length ≤ sizeLine ∧ ∃ c, atI z.cps.toList i = some c ∧ Q (.str ⟨#[c]⟩)
  | .dict es, d, Q => isKey d ∧ keysOk es ∧ ∃ v, lookD es d = some v ∧ Q v
  | _, _, _ => False
theorem ixd (hu : X.A.units + 64 < cLine) : IxR X (rD2 .fz oIx) := by
  intro value slice pins s σ H x y v u Q I rx ry ⟨Y, Z, d1, d2, P, zy, dm, h1, h2, ho, w⟩ hs
  cases d1 with
  | list ds =>
    cases d2 <;> try exact (show False from ho).elim
    obtain ⟨a, xs, rfl, n, ha, q⟩ := h1
    cases (show y = _ from h2)
    obtain ⟨d, e, ho⟩ := ho
    obtain ⟨z, e', hz⟩ := q.at e
    exact ix_list value slice pins s σ H _ _ v u Q I rx ry ⟨_, _, _, z, rfl, rfl, SqL.of ha, e', w _ _ d (Same.refl _) hz ho⟩ hs
  | tuple ds =>
    cases d2 <;> try exact (show False from ho).elim
    obtain ⟨a, xs, rfl, n, ha, q⟩ := h1
    cases (show y = _ from h2)
    obtain ⟨d, e, ho⟩ := ho
    obtain ⟨z, e', hz⟩ := q.at e
    exact ix_tup value slice pins s σ H _ _ v u Q I rx ry ⟨_, _, _, z, rfl, rfl, SqT.of ha, e', w _ _ d (Same.refl _) hz ho⟩ hs
  | str z =>
    cases d2 <;> try exact (show False from ho).elim
    cases (show x = _ from h1)
    cases (show y = _ from h2)
    obtain ⟨hl, c, e, ho⟩ := ho
    exact ix_str value slice pins s σ H _ _ v u Q I rx ry ⟨_, _, c, rfl, rfl, hl, e, w _ _ (.str _) (Same.refl _) rfl ho⟩ hs
  | dict es =>
    obtain ⟨p1, p2, d, e, hq⟩ : isKey d2 ∧ keysOk es ∧ ∃ v, lookD es d2 = some v ∧ P v := by cases d2 <;> exact ho
    obtain ⟨j, rfl⟩ := isKey_k p1
    obtain ⟨a, rfl, n, h1⟩ := h1
    obtain ⟨kvs, rd, kv⟩ := h1.key p2
    have ey : y = kV j := by cases j <;> exact h2
    subst ey
    cases (show v = Value.ref a from rx)
    obtain ⟨z, ez, hz⟩ := (kv.look (j := j)).1 d e
    have g : DGet H a (kV j) (some z) := .inl ⟨kvs, j, rd, rfl, ez.symm⟩
    exact PyProof.Rows.tail_any (dict_typeIs I g) PySem.F.slot_dict_getitem.lookup (d_getItem (by omega) I g ry fun w' s3 I3 rw' => ⟨z, H, I3, rw', w _ _ d (Same.refl _) hz hq⟩) hs
  | _ => cases d2 <;> exact (show False from ho).elim
end
end L3

/-! L3f: slices, built-ins. -/
namespace L3
open PySem PySem.Spec L2
section
variable {X : Cx} {k : Kd} {e : Expr} {fa : FE} {m m1 : Md} {pos p2 : Pos}

/-! ### slices -/
abbrev FO := Ev → (Option Int → Prop) → Prop
def DO (X : Cx) (k : Kd) (e : Option Expr) (f : FO) : Prop := ∃ t : TO, PO X e t ∧ ∀ (g : Gh k) (O : Op) (ρ : Ev) (σ : L2.St) (H : Hp) (Q : Option Int → Prop) (R : Option Int → Hp → Prop), EnvOk g O ρ σ H → f ρ Q →
  (∀ i H', Stp k H H' → Q i → R i H') → t σ H R
def fOn : FO := fun _ Q => Q none
def oPart : D → (Option Int → Prop) → Prop
  | .int i, Q => Q (some i)
  | _, _ => False
def fOs (fa : FE) : FO := fun ρ Q => fa ρ fun d => oPart d Q
theorem do_n : DO X k none fOn := ⟨_, po_none, fun g O ρ σ H Q R I hf w => w none H (Stp.refl k H) hf⟩
theorem do_s (ha : DE X k m e fa) : DO X k (some e) (fOs fa) := by
  obtain ⟨t, p, q⟩ := ha.sh
  refine ⟨_, po_some p, fun g O ρ σ H Q R I hf w => ?_⟩
  refine q g O ρ σ H _ _ I hf fun v H' d s r hq => ?_
  cases d <;> try exact (show False from hq).elim
  cases (show v = _ from r)
  exact ⟨_, rfl, w _ H' s hq⟩
def cut {α : Type} (xs : List α) (lo hi : Option Int) : List α := (xs.drop (HT.sIx xs.length 0 lo)).take (HT.sIx xs.length xs.length hi - HT.sIx xs.length 0 lo)
theorem IsAll.cut {Y : Addr → Prop} {H : Hp} {ds : List D} {vs : List V} (h : IsAll Y H vs ds) (lo hi : Option Int) : IsAll Y H (cutV vs lo hi) (cut ds lo hi) := by
  unfold cutV L3.cut
  rw [h.length]
  exact IsAll.take _ (IsAll.drop _ h)
def oSl (lo hi : Option Int) : D → (D → Prop) → Prop
  | .tuple ds, Q => Q (.tuple (cut ds lo hi))
  | .str z, Q => z.length ≤ sizeLine ∧ Q (.str (cutS z lo hi))
  | _, _ => False
def oSlL (lo hi : Option Int) : D → (D → Prop) → Prop
  | .list ds, Q => Q (.list (cut ds lo hi))
  | _, _ => False
def fSl (o : Option Int → Option Int → D → (D → Prop) → Prop) (fa : FE) (fl fh : FO) : FE := fun ρ Q => fa ρ fun d => fl ρ fun l => fh ρ fun h => o l h d Q
def rSlD (m : Md) (o : Option Int → Option Int → D → (D → Prop) → Prop) : V → Option Int → Option Int → Hp → VK → Prop := fun x lo hi H Q => ∃ (Y Z : Addr → Prop) (d1 : D) (P : D → Prop), (∀ a, Z a → Y a) ∧ (∀ a, Y a → H a ≠ none) ∧ IsTp Y Z H x d1 ∧ o lo hi d1 P ∧
  ∀ v H' d, Same H H' → Res Y Z H H' m v d → P d → Q v H'
theorem sld : SlR X (rSlD .fz oSl) := by
  intro pins s σ H x v vl vu lo hi sl Q I rx hs pl pu ⟨Y, Z, d1, P, zy, dm, h1, ho, w⟩
  cases d1 <;> try exact (show False from ho).elim
  · rename_i z
    cases (show x = _ from h1)
    exact sl_str pins s σ H _ v vl vu lo hi sl Q I rx hs pl pu ⟨z, rfl, ho.1, w _ _ (.str _) (Same.refl _) rfl ho.2⟩
  · rename_i ds
    obtain ⟨a, xs, rfl, n, ha, q⟩ := h1
    refine sl_tupA pins s σ H _ v vl vu lo hi sl Q I rx hs pl pu ⟨a, xs, rfl, SqT.of ha, fun hw => ?_, fun _ p hp => ?_⟩
    · have e : cut ds lo hi = ds := by
        unfold cut
        rw [← q.length, hw.1, hw.2, q.length]
        simp
      refine w _ _ (.tuple (cut ds lo hi)) (Same.refl _) ?_ ho
      rw [e]
      exact ⟨a, xs, rfl, n, ha, q⟩
    · exact w _ _ (.tuple (cut ds lo hi)) (same_new hp) ⟨p, _, rfl, fun y => dm p y hp, upd_same, IsAll.mono (fun _ y => y) (Kps.same (same_new hp)) _ _ (q.cut lo hi)⟩ ho
theorem sldL : SlR X (rSlD .nw oSlL) := by
  intro pins s σ H x v vl vu lo hi sl Q I rx hs pl pu ⟨Y, Z, d1, P, zy, dm, h1, ho, w⟩
  cases d1 <;> try exact (show False from ho).elim
  rename_i ds
  obtain ⟨a, xs, rfl, n, ha, q⟩ := h1
  refine sl_list pins s σ H _ v vl vu lo hi sl Q I rx hs pl pu ⟨a, xs, rfl, SqL.of ha, fun p hp => ?_⟩
  refine w _ _ (.list (cut ds lo hi)) (same_new hp) ⟨p, _, _, rfl, rfl, hp, upd_same, ?_⟩ ho
  exact IsAll.mono (fun _ y => y) (Kps.same (same_new hp)) _ _ (IsAll.grow (fun a y => y.elim .inl fun e => .inr (e ▸ hp)) _ _ (q.cut lo hi))
theorem de_slice {o : Option Int → Option Int → D → (D → Prop) → Prop} {lo hi : Option Expr} {fl fh : FO} (ho : SlR X (rSlD m o)) (ha : DE X k m1 e fa) (hl : DO X k lo fl) (hh : DO X k hi fh) : DE X k m (.Subscript e (.Slice lo hi none p2) pos) (fSl o fa fl fh) := by
  obtain ⟨ta, pa, qa⟩ := ha.sh
  obtain ⟨tl, pl, ql⟩ := hl
  obtain ⟨th, ph, qh⟩ := hh
  refine ⟨_, pe_slice ho pa pl ph, fun g O ρ σ H Q R I hf w => ?_⟩
  refine qa g O ρ σ H _ _ I hf fun x H1 d1 s1 r1 h1 => ?_
  have I1 := I.step s1
  refine ql g O ρ σ H1 _ _ I1 h1 fun l H2 s2 h2 => ?_
  have I2 := I1.step s2
  refine qh g O ρ σ H2 _ _ I2 h2 fun u H3 s3 h3 => ?_
  have I3 := I2.step s3
  have s23 := s2.trans s3
  refine ⟨Yo g O, g.Z, d1, Q, yz g O, fun a => I3.ydom a, IsTp.mono (fun _ y => y) (s23.kps g O) (s23.kpsZ g) r1, h3, fun v H' d sm r hq => ?_⟩
  exact w v H' d ((s1.trans s23).trans (Stp.same sm)) (Res.from (s1.trans s23).dm r) hq
/-- xs[::-1] -/
def oRev : D → (D → Prop) → Prop
  | .list ds, Q => Q (.list ds.reverse)
  | _, _ => False
theorem de_rev {kk : Nat} {p1 p3 : Pos} (ha : DE X k m1 e fa) : DE X k .nw (.Subscript e (.Slice none none (some (.UnaryOp .USub (.Constant (.int 1) kk p1) p2)) p3) pos) (fUn oRev fa) := by
  obtain ⟨ta, pa, qa⟩ := ha.sh
  refine ⟨_, pe_revL pa, fun g O ρ σ H Q R I hf w => ?_⟩
  refine qa g O ρ σ H _ _ I hf fun x H1 d1 s1 r1 h1 => ?_
  have I1 := I.step s1
  cases d1 <;> try exact (show False from h1).elim
  rename_i ds
  obtain ⟨a, xs, rfl, n, ha, q⟩ := r1
  refine ⟨a, xs, rfl, SqL.of ha, fun p hp => ?_⟩
  refine w _ _ (.list ds.reverse) (s1.trans (Stp.new hp)) ⟨p, _, _, rfl, rfl, s1.dm p hp, upd_same, ?_⟩ h1
  exact IsAll.mono (fun _ y => y) (Kps.same (same_new hp)) _ _ (IsAll.grow (fun a y => y.elim .inl fun e => .inr (e ▸ hp)) _ _ q.reverse)

/-! ### built-ins -/
theorem tps1 {Y Z : Addr → Prop} {H : Hp} {vs : List V} {d : D} (h : IsTps Y Z H vs [d]) : ∃ v, vs = [v] ∧ IsTp Y Z H v d := by
  obtain ⟨v, r, e, h1, h2⟩ := h
  cases (show r = _ from h2)
  exact ⟨v, e, h1⟩
theorem tps2 {Y Z : Addr → Prop} {H : Hp} {vs : List V} {d d' : D} (h : IsTps Y Z H vs [d, d']) : ∃ v w, vs = [v, w] ∧ IsTp Y Z H v d ∧ IsTp Y Z H w d' := by
  obtain ⟨v, r, e, h1, h2⟩ := h
  obtain ⟨w, e', h3⟩ := tps1 h2
  subst e'
  exact ⟨v, w, e, h1, h3⟩
/-- one argument, two, three -/
def o1 (f : D → (D → Prop) → Prop) : List D → (D → Prop) → Prop
  | [d], Q => f d Q
  | _, _ => False
def o2 (f : D → D → (D → Prop) → Prop) : List D → (D → Prop) → Prop
  | [d, e], Q => f d e Q
  | _, _ => False
theorem o1_of {f : D → (D → Prop) → Prop} {ds : List D} {Q : D → Prop} (h : o1 f ds Q) : ∃ d, ds = [d] ∧ f d Q := by
  cases ds with
  | nil => exact (show False from h).elim
  | cons d r => cases r with
    | nil => exact ⟨d, rfl, h⟩
    | cons _ _ => exact (show False from h).elim
theorem o2_of {f : D → D → (D → Prop) → Prop} {ds : List D} {Q : D → Prop} (h : o2 f ds Q) : ∃ d e, ds = [d, e] ∧ f d e Q := by
  cases ds with
  | nil => exact (show False from h).elim
  | cons d r => cases r with
    | nil => exact (show False from h).elim
    | cons e r => cases r with
      | nil => exact ⟨d, e, rfl, h⟩
      | cons _ _ => exact (show False from h).elim
/-- rules of one argument -/
theorem cr1 {f : Value} {o : D → (D → Prop) → Prop} (h : ∀ (pins : List (Addr × Obj)) (s : Shared) (σ : L2.St) (H : Hp) (x : V) (us : List Value) (Q : VK) (Y Z : Addr → Prop) (d : D) (P : D → Prop), Inv X pins σ H s → Vals [x] us → (∀ a, Z a → Y a) → (∀ a, Y a → H a ≠ none) → IsTp Y Z H x d → o d P →
    (∀ v H' d, Same H H' → Res Y Z H H' m v d → P d → Q v H') → wpAny (model X.prog X.w) X.A (call f us) (EP X pins σ Q) X.xe s) : CallR X f (rDC m (o1 o)) := by
  intro pins s σ H xs us Q I r ⟨Y, Z, ds, P, zy, dm, h1, ho, w⟩
  obtain ⟨d, rfl, ho⟩ := o1_of ho
  obtain ⟨v, rfl, hv⟩ := tps1 h1
  exact h pins s σ H v us Q Y Z d P I r zy dm hv ho w
theorem cr2 {f : Value} {o : D → D → (D → Prop) → Prop} (h : ∀ (pins : List (Addr × Obj)) (s : Shared) (σ : L2.St) (H : Hp) (x y : V) (us : List Value) (Q : VK) (Y Z : Addr → Prop) (d d' : D) (P : D → Prop), Inv X pins σ H s → Vals [x, y] us → (∀ a, Z a → Y a) → (∀ a, Y a → H a ≠ none) → IsTp Y Z H x d → IsTp Y Z H y d' → o d d' P →
    (∀ v H' d, Same H H' → Res Y Z H H' m v d → P d → Q v H') → wpAny (model X.prog X.w) X.A (call f us) (EP X pins σ Q) X.xe s) : CallR X f (rDC m (o2 o)) := by
  intro pins s σ H xs us Q I r ⟨Y, Z, ds, P, zy, dm, h1, ho, w⟩
  obtain ⟨d, d', rfl, ho⟩ := o2_of ho
  obtain ⟨v, v', rfl, hv, hv'⟩ := tps2 h1
  exact h pins s σ H v v' us Q Y Z d d' P I r zy dm hv hv' ho w
def oLen : D → (D → Prop) → Prop
  | .list ds, Q => Q (.int ds.length)
  | .tuple ds, Q => Q (.int ds.length)
  | .str z, Q => z.length ≤ sizeLine ∧ Q (.int z.length)
  | .dict es, Q => keysOk es ∧ Q (.int es.length)
  | _, _ => False
theorem cr_len : CallR X (.builtin "len") (rDC .fz (o1 oLen)) := cr1 fun pins s σ H x us Q Y Z d P I r zy dm h ho w => by
  cases d with
  | list ds =>
    obtain ⟨a, ys, rfl, n, ha, q⟩ := h
    refine call_len_seq pins s σ H _ us Q I r ⟨a, ys, rfl, .inl (SqL.of ha), ?_⟩
    rw [q.length]
    exact w _ _ (.int _) (Same.refl _) rfl ho
  | tuple ds =>
    obtain ⟨a, ys, rfl, n, ha, q⟩ := h
    refine call_len_seq pins s σ H _ us Q I r ⟨a, ys, rfl, .inr (SqT.of ha), ?_⟩
    rw [q.length]
    exact w _ _ (.int _) (Same.refl _) rfl ho
  | str z =>
    cases (show x = _ from h)
    exact call_len_str pins s σ H _ us Q I r ⟨z, rfl, ho.1, w _ _ (.int _) (Same.refl _) rfl ho.2⟩
  | dict es =>
    obtain ⟨a, rfl, n, h⟩ := h
    obtain ⟨kvs, rd, kv⟩ := h.key ho.1
    obtain ⟨u, rfl, ru⟩ := vals1 r
    cases (show u = Value.ref a from ru)
    refine d_len I rd fun t s' I' => ⟨.int kvs.length, H, I', ⟨t, rfl⟩, ?_⟩
    rw [kv.length]
    exact w _ _ (.int _) (Same.refl _) rfl ho.2
  | _ => exact (show False from ho).elim
def oInt : D → (D → Prop) → Prop
  | .int i, Q => Q (.int i)
  | .bool b, Q => Q (.int (if b then 1 else 0))
  | _, _ => False
theorem cr_int : CallR X (.type "int") (rDC .fz (o1 oInt)) := cr1 fun pins s σ H x us Q Y Z d P I r zy dm h ho w => by
  cases d <;> try exact (show False from ho).elim
  · cases (show x = _ from h)
    exact call_int1 pins s σ H _ us Q I r (.inr ⟨_, rfl, w _ _ (.int _) (Same.refl _) rfl ho⟩)
  · cases (show x = _ from h)
    exact call_int1 pins s σ H _ us Q I r (.inl ⟨_, rfl, w _ _ (.int _) (Same.refl _) rfl ho⟩)
def oStr : D → (D → Prop) → Prop
  | .int i, Q => i.natAbs.log2 < 1920 ∧ Q (.str (toString i))
  | _, _ => False
theorem cr_str : CallR X (.type "str") (rDC .fz (o1 oStr)) := cr1 fun pins s σ H x us Q Y Z d P I r zy dm h ho w => by
  cases d <;> try exact (show False from ho).elim
  cases (show x = _ from h)
  exact call_str_int pins s σ H _ us Q I r ⟨_, rfl, ho.1, w _ _ (.str _) (Same.refl _) rfl ho.2⟩
def oAbs : D → (D → Prop) → Prop
  | .int i, Q => Q (.int (if i < 0 then -i else i))
  | _, _ => False
theorem cr_abs : CallR X (.builtin "abs") (rDC .fz (o1 oAbs)) := cr1 fun pins s σ H x us Q Y Z d P I r zy dm h ho w => by
  cases d <;> try exact (show False from ho).elim
  cases (show x = _ from h)
  exact call_abs pins s σ H _ us Q I r ⟨_, rfl, w _ _ (.int _) (Same.refl _) rfl ho⟩
def oMax2 : D → D → (D → Prop) → Prop
  | .int i, .int j, Q => Q (.int (max i j))
  | _, _, _ => False
def oMin2 : D → D → (D → Prop) → Prop
  | .int i, .int j, Q => Q (.int (min i j))
  | _, _, _ => False
theorem cr_max2 (hc : X.calm = true) : CallR X (.builtin "max") (rDC .fz (o2 oMax2)) := cr2 fun pins s σ H x y us Q Y Z d d' P I r zy dm h h' ho w => by
  cases d <;> cases d' <;> try exact (show False from ho).elim
  rename_i i j
  cases (show x = _ from h); cases (show y = _ from h')
  refine call_max2 hc pins s σ H _ us Q I r ⟨i, j, rfl, ?_⟩
  have e : (if j > i then j else i) = max i j := by omega
  rw [e]
  exact w _ _ (.int _) (Same.refl _) rfl ho
theorem cr_min2 (hc : X.calm = true) : CallR X (.builtin "min") (rDC .fz (o2 oMin2)) := cr2 fun pins s σ H x y us Q Y Z d d' P I r zy dm h h' ho w => by
  cases d <;> cases d' <;> try exact (show False from ho).elim
  rename_i i j
  cases (show x = _ from h); cases (show y = _ from h')
  refine call_min2 hc pins s σ H _ us Q I r ⟨i, j, rfl, ?_⟩
  have e : (if j < i then j else i) = min i j := by omega
  rw [e]
  exact w _ _ (.int _) (Same.refl _) rfl ho
theorem IsAll.ints {Y : Addr → Prop} {H : Hp} : ∀ {ns : List Int} {vs : List V}, IsAll Y H vs (ns.map .int) → vs = ns.map .int
  | [], _, h => h
  | n :: ns, _, ⟨v, r, e, h1, h2⟩ => by subst e; rw [show v = _ from h1, IsAll.ints h2]; rfl
theorem IsAll.bools {Y : Addr → Prop} {H : Hp} : ∀ {ns : List Bool} {vs : List V}, IsAll Y H vs (ns.map .bool) → vs = ns.map .bl
  | [], _, h => h
  | n :: ns, _, ⟨v, r, e, h1, h2⟩ => by subst e; rw [show v = _ from h1, IsAll.bools h2]; rfl
def oSum : D → (D → Prop) → Prop
  | .list ds, Q => ∃ ns : List Int, ds = ns.map .int ∧ Q (.int ns.sum)
  | _, _ => False
theorem cr_sum' (hc : X.calm = true) : CallR X (.builtin "sum") (rDC .fz (o1 oSum)) := cr1 fun pins s σ H x us Q Y Z d P I r zy dm h ho w => by
  cases d <;> try exact (show False from ho).elim
  obtain ⟨ns, rfl, ho⟩ := ho
  obtain ⟨a, xs, rfl, n, ha, q⟩ := h
  rw [q.ints] at ha
  exact cr_sum hc pins s σ H _ us Q I r ⟨a, ns, rfl, SqL.of ha, w _ _ (.int _) (Same.refl _) rfl ho⟩
def oAny : D → (D → Prop) → Prop
  | .list ds, Q => ∃ bs : List Bool, ds = bs.map .bool ∧ Q (.bool (bs.any id))
  | _, _ => False
def oAll : D → (D → Prop) → Prop
  | .list ds, Q => ∃ bs : List Bool, ds = bs.map .bool ∧ Q (.bool (bs.all id))
  | _, _ => False
theorem cr_any' (hc : X.calm = true) : CallR X (.builtin "any") (rDC .fz (o1 oAny)) := cr1 fun pins s σ H x us Q Y Z d P I r zy dm h ho w => by
  cases d <;> try exact (show False from ho).elim
  obtain ⟨ns, rfl, ho⟩ := ho
  obtain ⟨a, xs, rfl, n, ha, q⟩ := h
  rw [q.bools] at ha
  exact cr_any hc pins s σ H _ us Q I r ⟨a, ns, rfl, SqL.of ha, w _ _ (.bool _) (Same.refl _) rfl ho⟩
theorem cr_all' (hc : X.calm = true) : CallR X (.builtin "all") (rDC .fz (o1 oAll)) := cr1 fun pins s σ H x us Q Y Z d P I r zy dm h ho w => by
  cases d <;> try exact (show False from ho).elim
  obtain ⟨ns, rfl, ho⟩ := ho
  obtain ⟨a, xs, rfl, n, ha, q⟩ := h
  rw [q.bools] at ha
  exact cr_all hc pins s σ H _ us Q I r ⟨a, ns, rfl, SqL.of ha, w _ _ (.bool _) (Same.refl _) rfl ho⟩
def oListOf : D → (D → Prop) → Prop
  | .list ds, Q => Q (.list ds)
  | .tuple ds, Q => Q (.list ds)
  | _, _ => False
theorem cr_list : CallR X (.type "list") (rDC .nw (o1 oListOf)) := cr1 fun pins s σ H x us Q Y Z d P I r zy dm h ho w => by
  have fin : ∀ (ds : List D) (xs : List V), P (.list ds) → IsAll Y H xs ds → ∀ l, H l = none → Q (.ref l) (upd H l (.lst xs)) := fun ds xs hq q p hp => by
    refine w _ _ (.list ds) (same_new hp) ⟨p, _, _, rfl, rfl, hp, upd_same, ?_⟩ hq
    exact IsAll.mono (fun _ y => y) (Kps.same (same_new hp)) _ _ (IsAll.grow (fun a y => y.elim .inl fun e => .inr (e ▸ hp)) _ _ q)
  cases d <;> try exact (show False from ho).elim
  · obtain ⟨a, xs, rfl, n, ha, q⟩ := h
    exact call_list_of pins s σ H _ us Q I r ⟨a, xs, rfl, .inl (SqL.of ha), fin _ _ ho q⟩
  · obtain ⟨a, xs, rfl, n, ha, q⟩ := h
    exact call_list_of pins s σ H _ us Q I r ⟨a, xs, rfl, .inr (SqT.of ha), fin _ _ ho q⟩
def oTupOf : D → (D → Prop) → Prop
  | .list ds, Q => Q (.tuple ds)
  | .tuple ds, Q => Q (.tuple ds)
  | _, _ => False
theorem cr_tup : CallR X (.type "tuple") (rDC .fz (o1 oTupOf)) := cr1 fun pins s σ H x us Q Y Z d P I r zy dm h ho w => by
  cases d <;> try exact (show False from ho).elim
  · obtain ⟨a, xs, rfl, n, ha, q⟩ := h
    refine call_tuple_of pins s σ H _ us Q I r ⟨a, xs, rfl, .inl ⟨SqL.of ha, fun p hp => ?_⟩⟩
    exact w _ _ (.tuple _) (same_new hp) ⟨p, xs, rfl, fun y => dm p y hp, upd_same, IsAll.mono (fun _ y => y) (Kps.same (same_new hp)) _ _ q⟩ ho
  · obtain ⟨a, xs, rfl, n, ha, q⟩ := h
    exact call_tuple_of pins s σ H _ us Q I r ⟨a, xs, rfl, .inr ⟨SqT.of ha, w _ _ (.tuple _) (Same.refl _) ⟨a, xs, rfl, n, ha, q⟩ ho⟩⟩

/-! ### sorted, min, max of data -/
theorem each_out {Y : Addr → Prop} {H : Hp} : ∀ {ds : List D} {us : List Value}, PySem.W.EachIs (fun u d => ∃ v, RelV v u ∧ Is Y H v d) us ds → ∃ vs, Vals vs us ∧ IsAll Y H vs ds
  | _, _, .nil => ⟨[], .nil, rfl⟩
  | _, _, .cons ⟨v, r, i⟩ t => by
    obtain ⟨vs, rs, is⟩ := each_out t
    exact ⟨v :: vs, .cons r rs, v, vs, rfl, i, is⟩
theorem each_in {Y : Addr → Prop} {H : Hp} : ∀ {ds : List D} {vs : List V} {us : List Value}, IsAll Y H vs ds → Vals vs us → PySem.W.EachIs (fun u d => ∃ v, RelV v u ∧ Is Y H v d) us ds
  | [], vs, us, h, r => by cases (show vs = _ from h); cases r; exact .nil
  | d :: ds, _, _, ⟨v, t, e, h1, h2⟩, r => by
    subst e
    cases r with
    | cons r1 r2 => exact .cons ⟨v, r1, h1⟩ (each_in h2 r2)
def sortD (ds : List D) : List D := ds.mergeSort (PySem.W.dataLe false id)
def oSorted : D → (D → Prop) → Prop
  | .list ds, Q => dp 12 (.list ds) ∧ PySem.W.AllAlike ds ∧ PySem.W.Sortable ds ∧ ds.length ≤ sizeLine ∧ Q (.list (sortD ds))
  | _, _ => False
theorem cr_sortedD (hu : X.A.units + 64 < cLine) : CallR X (.builtin "sorted") (rDC .nw (o1 oSorted)) := cr1 fun pins s σ H x us Q Y Z d P I r zy dm h ho w => by
  cases d <;> try exact (show False from ho).elim
  rename_i ds
  obtain ⟨hd, al, so, hl, ho⟩ := ho
  obtain ⟨a, xs, rfl, n, ha, q⟩ := h
  obtain ⟨its, rv, pl, _⟩ := I.list (SqL.of ha)
  have b := dp_plain _ _ hd
  rw [PyData.plain] at b
  obtain ⟨as, rs⟩ := Dp.readsAll I ds xs its (IsAll.dpn ds xs b.1 q) rv
  rw [Vals.ref1 r]
  have hdep : ∀ d ∈ ds, d.depth ≤ 11 := fun d m => (dp_plain d 11 ((show ∀ d ∈ ds, dp 11 d from hd) d m)).2
  have e1 : PySem.W.EachIs (fun v b => ∃ as, Reads s.heap v (id b) as) its ds := PySem.W.readsAll_each id (by rw [List.map_id]; exact rs)
  refine PySem.W.sorted_data (enc := id) (bs := ds) (R := fun u d => ∃ v, RelV v u ∧ Is Y H v d) pl.isList (each_in q rv) e1 (by rw [List.map_id]; exact al) (by rw [List.map_id]; exact so) hl
    (fun d m => by have := hdep d m; show X.A.units + 2 + d.depth < cLine; omega) fun out hlen eo => ?_
  obtain ⟨vs, rvs, is⟩ := each_out eo
  obtain ⟨ep, he'⟩ := PyProof.Rows.sortedAll_at s.heap its out.toArray
  have hn : H (s.heap.objs.size + 1) = none := I.hok.fresh (Nat.le_succ _)
  have lv : vs.length ≤ sizeLine := by rw [rvs.length, hlen]; exact hl
  refine ⟨.ref (s.heap.objs.size + 1), upd H (s.heap.objs.size + 1) (.lst vs), I.laid (t' := s.toks) (fun _ _ => PyProof.Rows.sortedAll_old) (Nat.le_succ _) ⟨lv, out, ep, rvs, he'⟩, rfl, ?_⟩
  refine w _ _ (.list (sortD ds)) (same_new hn) ⟨_, _, _, rfl, rfl, hn, upd_same, ?_⟩ ho
  exact IsAll.mono (fun _ y => y) (Kps.same (same_new hn)) _ _ (IsAll.grow (fun a y => y.elim .inl fun e => .inr (e ▸ hn)) _ _ is)
theorem Vals.at {vs : List V} {us : List Value} {i : Nat} {u : Value} (r : Vals vs us) (e : us[i]? = some u) : ∃ v, vs[i]? = some v ∧ RelV v u := by
  cases q : vs[i]? with
  | none => rw [r.none_of q] at e; cases e
  | some v =>
    obtain ⟨u', e', r'⟩ := r.get q
    rw [e] at e'
    cases e'
    exact ⟨v, rfl, r'⟩
def oMin : D → (D → Prop) → Prop
  | .list ds, Q => dp 12 (.list ds) ∧ PySem.W.AlikeAll ds ∧ ∃ d r, ds = d :: r ∧ Q (PySem.W.minD d r)
  | _, _ => False
def oMax : D → (D → Prop) → Prop
  | .list ds, Q => dp 12 (.list ds) ∧ PySem.W.AlikeAll ds ∧ ∃ d r, ds = d :: r ∧ Q (PySem.W.maxD d r)
  | _, _ => False
theorem IsAll.at' {Y : Addr → Prop} {H : Hp} {ds : List D} {vs : List V} {i : Nat} {v : V} (h : IsAll Y H vs ds) (e : vs[i]? = some v) : ∃ d, ds[i]? = some d ∧ Is Y H v d := by
  cases q : ds[i]? with
  | none => rw [h.none_of q] at e; cases e
  | some d =>
    obtain ⟨v', e', h'⟩ := h.get q
    rw [e] at e'
    cases e'
    exact ⟨d, rfl, h'⟩
/-- the value that reads as a datum bears it -/
theorem picked {Y : Addr → Prop} {H : Hp} {pins : List (Addr × Obj)} {σ : L2.St} {s : Shared} {h' : Heap} {ds : List D} {xs : List V} {its : List Value} {i : Nat} {u : Value} {d : D} {bs : List Addr} (I : Inv X pins σ H s) (hd : dp 12 (.list ds)) (q : IsAll Y H xs ds) (rv : Vals xs its)
    (e : its[i]? = some u) (r : Reads h' u d bs) (kp : ∀ b o, s.heap.get? b = some o → h'.get? b = some o) : ∃ v, RelV v u ∧ Is Y H v d := by
  obtain ⟨v, ev, rvu⟩ := Vals.at rv e
  obtain ⟨d', ed, hv⟩ := q.at' ev
  have pd := dp_plain d' 11 ((show ∀ d ∈ ds, dp 11 d from hd) d' (List.mem_of_getElem? ed))
  obtain ⟨as, r'⟩ := Dp.reads I d' v u (Is.dpn d' v pd.1 hv) rvu
  have := PySem.SeqAt.plain_unique d' d u as bs pd.1 (PyProof.Rows.Reads.keeps kp r') r
  subst this
  exact ⟨v, rvu, hv⟩
theorem cr_minD (hc : X.calm = true) (hu : X.A.units + 64 < cLine) : CallR X (.builtin "min") (rDC .fz (o1 oMin)) := cr1 fun pins s σ H x us Q Y Z d P I r zy dm h ho w => by
  cases d <;> try exact (show False from ho).elim
  obtain ⟨hd, al, d0, rr, rfl, ho⟩ := ho
  obtain ⟨a, xs, rfl, n, ha, q⟩ := h
  obtain ⟨its, rv, pl, _⟩ := I.list (SqL.of ha)
  have b := dp_plain _ _ hd
  rw [PyData.plain] at b
  obtain ⟨as, rs⟩ := Dp.readsAll I (d0 :: rr) xs its (IsAll.dpn (d0 :: rr) xs b.1 q) rv
  rw [Vals.ref1 r]
  refine PySem.W.min_list_data (I.ok.hd hc) pl.isList rs al (by have := b.2; simp only [PyData.depth] at this; omega) fun i u h' tk bs e r' kp => ?_
  obtain ⟨v, rvu, hv⟩ := picked I hd q rv (by simpa using e) r' kp
  exact ⟨v, H, I.kept kp, rvu, w _ _ _ (Same.refl _) hv ho⟩
theorem cr_maxD (hc : X.calm = true) (hu : X.A.units + 64 < cLine) : CallR X (.builtin "max") (rDC .fz (o1 oMax)) := cr1 fun pins s σ H x us Q Y Z d P I r zy dm h ho w => by
  cases d <;> try exact (show False from ho).elim
  obtain ⟨hd, al, d0, rr, rfl, ho⟩ := ho
  obtain ⟨a, xs, rfl, n, ha, q⟩ := h
  obtain ⟨its, rv, pl, _⟩ := I.list (SqL.of ha)
  have b := dp_plain _ _ hd
  rw [PyData.plain] at b
  obtain ⟨as, rs⟩ := Dp.readsAll I (d0 :: rr) xs its (IsAll.dpn (d0 :: rr) xs b.1 q) rv
  rw [Vals.ref1 r]
  refine PySem.W.max_list_data (I.ok.hd hc) pl.isList rs al (by have := b.2; simp only [PyData.depth] at this; omega) fun i u h' tk bs e r' kp => ?_
  obtain ⟨v, rvu, hv⟩ := picked I hd q rv (by simpa using e) r' kp
  exact ⟨v, H, I.kept kp, rvu, w _ _ _ (Same.refl _) hv ho⟩
/-- of ints, by numbers -/
theorem alike_int (ns : List Int) : PySem.W.AlikeAll (ns.map .int) := by
  refine ⟨fun x hx y hy => ?_, fun x hx e => ?_⟩
  · obtain ⟨a, _, rfl⟩ := List.mem_map.mp hx
    obtain ⟨b, _, rfl⟩ := List.mem_map.mp hy
    rfl
  · obtain ⟨a, _, rfl⟩ := List.mem_map.mp hx
    cases e
theorem oMin_int {n : Int} {ns : List Int} {Q : D → Prop} (h : Q (.int (ns.foldl min n))) : oMin (.list ((n :: ns).map .int)) Q :=
  ⟨dp_map_l.mpr fun _ _ => trivial, alike_int _, .int n, ns.map .int, rfl, by rw [PySem.W.minD_ints]; exact h⟩
theorem oMax_int {n : Int} {ns : List Int} {Q : D → Prop} (h : Q (.int (ns.foldl max n))) : oMax (.list ((n :: ns).map .int)) Q :=
  ⟨dp_map_l.mpr fun _ _ => trivial, alike_int _, .int n, ns.map .int, rfl, by rw [PySem.W.maxD_ints]; exact h⟩
end
end L3

/-! L3g: tests, simple statements. -/
namespace L3
open PySem PySem.Spec L2
section
variable {X : Cx} {k : Kd} {a b c e : Expr} {fa fb fc : FE} {ga gb : FT} {m m1 m2 m3 : Md} {pos : Pos} {E : XK}

/-! ### tests -/
def oBool : D → (Bool → Prop) → Prop
  | .bool b, Q => Q b
  | _, _ => False
def fTst (fa : FE) : FT := fun ρ Q => fa ρ fun d => oBool d Q
theorem dt_of {t : TE} (p : PT X e (tTest t)) (q : ∀ (g : Gh k) (O : Op) (ρ : Ev) (σ : L2.St) (H : Hp) (Q : D → Prop) (R : VK), EnvOk g O ρ σ H → fa ρ Q → (∀ v H' d, Stp k H H' → Res (Yo g O) g.Z H H' .fz v d → Q d → R v H') → t σ H R) : DT X k e (fTst fa) := by
  refine ⟨_, p, fun g O ρ σ H Q R I hf w => ?_⟩
  refine q g O ρ σ H _ _ I hf fun v H' d s r hq => ?_
  cases d <;> try exact (show False from hq).elim
  cases (show v = _ from r)
  exact ⟨_, rfl, w _ H' s hq⟩
theorem dt_cmp {op : CmpOp} {o : D → D → (D → Prop) → Prop} (ho : OpR X (compareOp op) (rD2 .fz o)) (ha : DE X k m1 a fa) (hb : DE X k m2 b fb) (hm : behindInMarks op b = false) : DT X k (.Compare a [op] [b] pos) (fTst (fOp o fa fb)) := by
  obtain ⟨ta, pa, qa⟩ := ha.sh
  obtain ⟨tb, pb, qb⟩ := hb.sh
  exact dt_of (pt_cmpR ho pa pb hm) fun g O ρ σ H Q R I hf w => d2_of (ta' := pa) (tb' := pb) (t := ta) qa qb I hf w
/-- a < b < c -/
def fChain (o o' : D → D → (D → Prop) → Prop) (fa fb fc : FE) : FE := fun ρ Q => fa ρ fun d1 => fb ρ fun d2 => o d1 d2 fun r => oBool r fun t => if t = true then fc ρ fun d3 => o' d2 d3 Q else Q (.bool false)
theorem chain_of {op op' : CmpOp} {o o' : D → D → (D → Prop) → Prop} {ta tb tc : TE}
    (qa : ∀ (g : Gh k) (O : Op) (ρ : Ev) (σ : L2.St) (H : Hp) (Q : D → Prop) (R : VK), EnvOk g O ρ σ H → fa ρ Q → (∀ v H' d, Stp k H H' → Res (Yo g O) g.Z H H' .sh v d → Q d → R v H') → ta σ H R)
    (qb : ∀ (g : Gh k) (O : Op) (ρ : Ev) (σ : L2.St) (H : Hp) (Q : D → Prop) (R : VK), EnvOk g O ρ σ H → fb ρ Q → (∀ v H' d, Stp k H H' → Res (Yo g O) g.Z H H' .sh v d → Q d → R v H') → tb σ H R)
    (qc : ∀ (g : Gh k) (O : Op) (ρ : Ev) (σ : L2.St) (H : Hp) (Q : D → Prop) (R : VK), EnvOk g O ρ σ H → fc ρ Q → (∀ v H' d, Stp k H H' → Res (Yo g O) g.Z H H' .sh v d → Q d → R v H') → tc σ H R)
    (g : Gh k) (O : Op) (ρ : Ev) (σ : L2.St) (H : Hp) (Q : D → Prop) (R : VK) (I : EnvOk g O ρ σ H) (hf : fChain o o' fa fb fc ρ Q) (w : ∀ v H' d, Stp k H H' → Res (Yo g O) g.Z H H' .fz v d → Q d → R v H') :
    tChain (rD2 .fz o) (rD2 .fz o') ta tb tc σ H R := by
  refine qa g O ρ σ H _ _ I hf fun x H1 d1 s1 r1 h1 => ?_
  have I1 := I.step s1
  refine qb g O ρ σ H1 _ _ I1 h1 fun y H2 d2 s2 r2 h2 => ?_
  have I2 := I1.step s2
  refine ⟨Yo g O, g.Z, d1, d2, _, yz g O, fun a => I2.ydom a, IsTp.mono (fun _ y => y) (s2.kps g O) (s2.kpsZ g) r1, r2, h2, fun v H3 d sm r hq => ?_⟩
  cases d <;> try exact (show False from hq).elim
  rename_i t
  cases (show v = _ from r)
  refine ⟨t, rfl, ?_⟩
  have I3 := I2.step (Stp.same (k := k) sm)
  have s13 := (s1.trans s2).trans (Stp.same sm)
  cases t with
  | false => exact iteF (w _ H3 (.bool false) s13 rfl (by simpa [oBool] using hq))
  | true =>
    have hq' : fc ρ fun d3 => o' d2 d3 Q := by simpa [oBool] using hq
    refine iteT (qc g O ρ σ H3 _ _ I3 hq' fun z H4 d3 s4 r4 h4 => ?_)
    have I4 := I3.step s4
    have s34 := (Stp.same (k := k) sm).trans s4
    refine ⟨Yo g O, g.Z, d2, d3, Q, yz g O, fun a => I4.ydom a, IsTp.mono (fun _ y => y) (s34.kps g O) (s34.kpsZ g) r2, r4, h4, fun v H5 d sm' r hq => ?_⟩
    exact w v H5 d ((s13.trans s4).trans (Stp.same sm')) r hq
theorem dt_chain {op op' : CmpOp} {o o' : D → D → (D → Prop) → Prop} (ho : OpR X (compareOp op) (rD2 .fz o)) (ho' : OpR X (compareOp op') (rD2 .fz o')) (ha : DE X k m1 a fa) (hb : DE X k m2 b fb) (hc : DE X k m3 c fc) (hm : lastMarks [op, op'] [b, c] = false := by with_unfolding_all rfl) :
    DT X k (.Compare a [op, op'] [b, c] pos) (fTst (fChain o o' fa fb fc)) := by
  obtain ⟨ta, pa, qa⟩ := ha.sh
  obtain ⟨tb, pb, qb⟩ := hb.sh
  obtain ⟨tc, pc, qc⟩ := hc.sh
  exact dt_of (pt_chain ho ho' pa pb pc hm) (chain_of (op := op) (op' := op') qa qb qc)
theorem de_chain {op op' : CmpOp} {o o' : D → D → (D → Prop) → Prop} (ho : OpR X (compareOp op) (rD2 .fz o)) (ho' : OpR X (compareOp op') (rD2 .fz o')) (ha : DE X k m1 a fa) (hb : DE X k m2 b fb) (hc : DE X k m3 c fc) (hm : lastMarks [op, op'] [b, c] = false := by with_unfolding_all rfl) :
    DE X k .fz (.Compare a [op, op'] [b, c] pos) (fChain o o' fa fb fc) := by
  obtain ⟨ta, pa, qa⟩ := ha.sh
  obtain ⟨tb, pb, qb⟩ := hb.sh
  obtain ⟨tc, pc, qc⟩ := hc.sh
  exact ⟨_, pe_chain ho ho' pa pb pc hm, chain_of (op := op) (op' := op') qa qb qc⟩
/-- by truth -/
def oTru : D → (Bool → Prop) → Prop
  | .none, Q => Q false
  | .bool b, Q => Q b
  | .int i, Q => Q (i != 0)
  | .str y, Q => y.length ≤ sizeLine ∧ Q ((y.length : Int) != 0)
  | .list ds, Q => Q (!ds.isEmpty)
  | .tuple ds, Q => Q (!ds.isEmpty)
  | .dict es, Q => keysOk es ∧ Q (!es.isEmpty)
theorem isEmpty_len {α β : Type} {xs : List α} {ys : List β} (h : xs.length = ys.length) : xs.isEmpty = ys.isEmpty := by
  cases xs <;> cases ys <;> simp at h ⊢
theorem tru_of {Y Z : Addr → Prop} {H : Hp} {v : V} {d : D} {Q : Bool → Prop} (nf : ∀ p o u, H p ≠ some (.frz o u)) (h : IsTp Y Z H v d) (ho : oTru d Q) : ∃ b, TruV X.K v H b ∧ Q b := by
  cases d with
  | none => cases (show v = _ from h); exact ⟨_, rfl, ho⟩
  | bool b => cases (show v = _ from h); exact ⟨_, rfl, ho⟩
  | int b => cases (show v = _ from h); exact ⟨_, rfl, ho⟩
  | str b => cases (show v = _ from h); exact ⟨_, ⟨ho.1, rfl⟩, ho.2⟩
  | list ds =>
    obtain ⟨p, xs, rfl, n, hp, q⟩ := h
    exact ⟨_, .inl ⟨xs, SqL.of hp, rfl⟩, by rw [isEmpty_len q.length]; exact ho⟩
  | tuple ds =>
    obtain ⟨p, xs, rfl, n, hp, q⟩ := h
    exact ⟨_, .inr (.inl ⟨xs, SqT.of hp, rfl⟩), by rw [isEmpty_len q.length]; exact ho⟩
  | dict es =>
    obtain ⟨p, rfl, n, h⟩ := h
    obtain ⟨kvs, rd, kv⟩ := h.key ho.1
    rcases rd with rd | ⟨o, rd⟩
    · exact ⟨_, .inr (.inr ⟨kvs, rd, rfl⟩), by rw [isEmpty_len kv.length]; exact ho.2⟩
    · exact (nf _ _ _ rd).elim
/-- truth of data without dicts, or of a dict that is not walked -/
def oTruP : D → (Bool → Prop) → Prop
  | .dict _, _ => False
  | d, Q => oTru d Q
theorem truP_of {Y Z : Addr → Prop} {H : Hp} {v : V} {d : D} {Q : Bool → Prop} (h : IsTp Y Z H v d) (ho : oTruP d Q) : ∃ b, TruV X.K v H b ∧ Q b := by
  cases d with
  | none => cases (show v = _ from h); exact ⟨_, rfl, ho⟩
  | bool b => cases (show v = _ from h); exact ⟨_, rfl, ho⟩
  | int b => cases (show v = _ from h); exact ⟨_, rfl, ho⟩
  | str b =>
    have ho : b.length ≤ sizeLine ∧ Q ((b.length : Int) != 0) := ho
    cases (show v = _ from h); exact ⟨_, ⟨ho.1, rfl⟩, ho.2⟩
  | list ds =>
    obtain ⟨p, xs, rfl, n, hp, q⟩ := h
    exact ⟨_, .inl ⟨xs, SqL.of hp, rfl⟩, by rw [isEmpty_len q.length]; exact ho⟩
  | tuple ds =>
    obtain ⟨p, xs, rfl, n, hp, q⟩ := h
    exact ⟨_, .inr (.inl ⟨xs, SqT.of hp, rfl⟩), by rw [isEmpty_len q.length]; exact ho⟩
  | dict es => exact (show False from ho).elim
def fTru (fa : FE) : FT := fun ρ Q => fa ρ fun d => oTruP d Q
theorem dt_tru (ha : DE X k m a fa) (he : ∀ whole, isTrue a X.env whole = (do let v ← whole; standAt a.pos; holding [v] (truthy v)) := by intro _; rfl) : DT X k a (fTru fa) := by
  obtain ⟨ta, pa, qa⟩ := ha.sh
  refine ⟨_, pt_truth pa he, fun g O ρ σ H Q R I hf w => ?_⟩
  refine qa g O ρ σ H _ _ I hf fun v H' d s r hq => ?_
  obtain ⟨t, ht, hq⟩ := truP_of (X := X) r hq
  exact ⟨t, ht, w t H' s hq⟩
/-- an open dict at a slot, by truth -/
def fTruD (i : Nat) : FT := fun ρ Q => match ρ[i]? with
  | some (.opd es) => keysOk es ∧ Q (!es.isEmpty)
  | _ => False
theorem dt_truD {i : Nat} (h : PE X a (tVar i)) (he : ∀ whole, isTrue a X.env whole = (do let v ← whole; standAt a.pos; holding [v] (truthy v)) := by intro _; rfl) : DT X k a (fTruD i) := by
  refine ⟨_, pt_truth h he, fun g O ρ σ H Q R I hf w => ?_⟩
  unfold fTruD at hf
  split at hf
  · rename_i es q
    obtain ⟨p, e1, e2, e3⟩ := I.sl i _ q
    obtain ⟨kvs, hp, kv⟩ := e3.key hf.1
    refine ⟨_, e2, !kvs.isEmpty, .inr (.inr ⟨kvs, hp, rfl⟩), w _ H (Stp.refl k H) ?_⟩
    rw [isEmpty_len kv.length]
    exact hf.2
  · exact hf.elim
def fNotT (ga : FT) : FT := fun ρ Q => ga ρ fun t => Q (!t)
theorem dt_not (ha : DT X k a ga) : DT X k (.UnaryOp .Not a pos) (fNotT ga) := by
  obtain ⟨t, p, q⟩ := ha
  exact ⟨_, pt_not p, fun g O ρ σ H Q R I hf w => q g O ρ σ H _ _ I hf fun b H' s h => w (!b) H' s h⟩
def DW (X : Cx) (k : Kd) (e : Expr) (f : FT) : Prop := ∃ t : TT, PW X e t ∧ ∀ (g : Gh k) (O : Op) (ρ : Ev) (σ : L2.St) (H : Hp) (Q : Bool → Prop) (R : Bool → Hp → Prop), EnvOk g O ρ σ H → f ρ Q →
  (∀ b H', Stp k H H' → Q b → R b H') → t σ H R
theorem DW.t (h : DW X k e ga) : DT X k e ga := by
  obtain ⟨t, p, q⟩ := h
  exact ⟨t, p.pt, q⟩
def fAndT (ga gb : FT) : FT := fun ρ Q => ga ρ fun t => if t = true then gb ρ Q else Q false
def fOrT (ga gb : FT) : FT := fun ρ Q => ga ρ fun t => if t = true then Q true else gb ρ Q
theorem dw_and1 (ha : DT X k a ga) : DW X k (.BoolOp .And [a] pos) ga := by
  obtain ⟨t, p, q⟩ := ha
  exact ⟨t, pw_and1 p, q⟩
theorem dw_or1 (ha : DT X k a ga) : DW X k (.BoolOp .Or [a] pos) ga := by
  obtain ⟨t, p, q⟩ := ha
  exact ⟨t, pw_or1 p, q⟩
theorem dw_and {r : List Expr} (ha : DT X k a ga) (hb : DW X k (.BoolOp .And (b :: r) pos) gb) : DW X k (.BoolOp .And (a :: b :: r) pos) (fAndT ga gb) := by
  obtain ⟨t, p, q⟩ := ha
  obtain ⟨u, p2, q2⟩ := hb
  refine ⟨_, pw_and p p2, fun g O ρ σ H Q R I hf w => ?_⟩
  refine q g O ρ σ H _ _ I hf fun t H1 s h1 => ?_
  cases t with
  | true => exact iteT (q2 g O ρ σ H1 Q R (I.step s) (by simpa using h1) fun b H' s' => w b H' (s.trans s'))
  | false => exact iteF (w false H1 s (by simpa using h1))
theorem dw_or {r : List Expr} (ha : DT X k a ga) (hb : DW X k (.BoolOp .Or (b :: r) pos) gb) : DW X k (.BoolOp .Or (a :: b :: r) pos) (fOrT ga gb) := by
  obtain ⟨t, p, q⟩ := ha
  obtain ⟨u, p2, q2⟩ := hb
  refine ⟨_, pw_or p p2, fun g O ρ σ H Q R I hf w => ?_⟩
  refine q g O ρ σ H _ _ I hf fun t H1 s h1 => ?_
  cases t with
  | false => exact iteF (q2 g O ρ σ H1 Q R (I.step s) (by simpa using h1) fun b H' s' => w b H' (s.trans s'))
  | true => exact iteT (w true H1 s (by simpa using h1))

/-! ### the same as values -/
def fAndV (fa fb : FE) : FE := fun ρ Q => fa ρ fun d => oBool d fun t => if t = true then fb ρ Q else Q (.bool false)
def fOrV (fa fb : FE) : FE := fun ρ Q => fa ρ fun d => oBool d fun t => if t = true then Q (.bool true) else fb ρ Q
theorem de_one {op : BoolOp} (h : DE X k m a fa) : DE X k m (.BoolOp op [a] pos) fa := by
  obtain ⟨t, p, q⟩ := h
  exact ⟨t, pe_one p, q⟩
theorem de_and {r : List Expr} (ha : DE X k .fz a fa) (hb : DE X k .fz (.BoolOp .And (b :: r) pos) fb) : DE X k .fz (.BoolOp .And (a :: b :: r) pos) (fAndV fa fb) := by
  obtain ⟨t, p, q⟩ := ha
  obtain ⟨u, p2, q2⟩ := hb
  refine ⟨_, pe_and p p2, fun g O ρ σ H Q R I hf w => ?_⟩
  refine q g O ρ σ H _ _ I hf fun v H1 d s r1 h1 => ?_
  cases d <;> try exact (show False from h1).elim
  rename_i t
  cases (show v = _ from r1)
  refine ⟨t, rfl, ?_⟩
  cases t with
  | true => exact iteT (q2 g O ρ σ H1 Q R (I.step s) (by simpa [oBool] using h1) fun v H' d s' r => w v H' d (s.trans s') r)
  | false => exact iteF (w _ H1 (.bool false) s rfl (by simpa [oBool] using h1))
theorem de_or {r : List Expr} (ha : DE X k .fz a fa) (hb : DE X k .fz (.BoolOp .Or (b :: r) pos) fb) : DE X k .fz (.BoolOp .Or (a :: b :: r) pos) (fOrV fa fb) := by
  obtain ⟨t, p, q⟩ := ha
  obtain ⟨u, p2, q2⟩ := hb
  refine ⟨_, pe_or p p2, fun g O ρ σ H Q R I hf w => ?_⟩
  refine q g O ρ σ H _ _ I hf fun v H1 d s r1 h1 => ?_
  cases d <;> try exact (show False from h1).elim
  rename_i t
  cases (show v = _ from r1)
  refine ⟨t, rfl, ?_⟩
  cases t with
  | false => exact iteF (q2 g O ρ σ H1 Q R (I.step s) (by simpa [oBool] using h1) fun v H' d s' r => w v H' d (s.trans s') r)
  | true => exact iteT (w _ H1 (.bool true) s rfl (by simpa [oBool] using h1))
def fNotV (fa : FE) : FE := fun ρ Q => fa ρ fun d => oTruP d fun t => Q (.bool (!t))
theorem de_not (ha : DE X k m a fa) : DE X k .fz (.UnaryOp .Not a pos) (fNotV fa) := by
  obtain ⟨t, p, q⟩ := ha.sh
  refine ⟨_, pe_notT p, fun g O ρ σ H Q R I hf w => ?_⟩
  refine q g O ρ σ H _ _ I hf fun v H1 d s r1 h1 => ?_
  obtain ⟨t, ht, hq⟩ := truP_of (X := X) r1 h1
  exact ⟨t, ht, w _ H1 (.bool (!t)) s rfl hq⟩
def fIfE (gc : FT) (fa fb : FE) : FE := fun ρ Q => gc ρ fun t => if t = true then fa ρ Q else fb ρ Q
theorem de_if {gc : FT} (hc : DT X k c gc) (ha : DE X k m a fa) (hb : DE X k m b fb) : DE X k m (.IfExp c a b pos) (fIfE gc fa fb) := by
  obtain ⟨t, p, q⟩ := hc
  obtain ⟨ta, pa, qa⟩ := ha
  obtain ⟨tb, pb, qb⟩ := hb
  refine ⟨_, pe_ifExp p pa pb, fun g O ρ σ H Q R I hf w => ?_⟩
  refine q g O ρ σ H _ _ I hf fun t H1 s h1 => ?_
  cases t with
  | true => exact iteT (qa g O ρ σ H1 Q R (I.step s) (by simpa using h1) fun v H' d s' r => w v H' d (s.trans s') (Res.from s.dm r))
  | false => exact iteF (qb g O ρ σ H1 Q R (I.step s) (by simpa using h1) fun v H' d s' r => w v H' d (s.trans s') (Res.from s.dm r))
end
end L3

/-! L3h: statements. -/
namespace L3
open PySem PySem.Spec L2
section
variable {k : Kd} {g : Gh k} {O : Op} {ρ : Ev} {σ : L2.St} {H H' : Hp} {i : Nat}
/-! ### slots -/
theorem EnvOk.put (I : EnvOk g O ρ σ H) (s : Sl) (sv : Option V) (h : i < ρ.length → SlOk (Yo g O) H (O i) s (some sv)) : EnvOk g O (ρ.set i s) (σ.set i sv) H where
  len := by rw [List.length_set, List.length_set]; exact I.len
  inj := I.inj
  opn := I.opn
  zdom := I.zdom
  dom := I.dom
  base := I.base
  pl := I.pl
  bnd := I.bnd
  sl := fun j t e => by
    by_cases hj : i = j
    · subst hj
      by_cases hl : i < ρ.length
      · rw [List.getElem?_set_self hl] at e
        cases e
        rw [List.getElem?_set_self (by rw [I.len]; exact hl)]
        exact h hl
      · rw [List.getElem?_eq_none (by rw [List.length_set]; omega)] at e; cases e
    · rw [List.getElem?_set_ne hj] at e
      rw [List.getElem?_set_ne hj]
      exact I.sl j t e
theorem EnvOk.putDat (I : EnvOk g O ρ σ H) {v : V} {d : D} (h : Is (Yo g O) H v d) : EnvOk g O (ρ.set i (.dat d)) (σ.set i (some v)) H := I.put _ _ fun _ => ⟨v, rfl, h⟩
theorem EnvOk.putRaw (I : EnvOk g O ρ σ H) (v : V) : EnvOk g O (ρ.set i (.raw v)) (σ.set i (some v)) H := I.put _ _ fun _ => rfl
theorem EnvOk.putUn (I : EnvOk g O ρ σ H) (sv : Option V) : EnvOk g O (ρ.set i .un) (σ.set i sv) H := I.put _ _ fun _ => trivial
def opAt (O : Op) (i : Nat) (a : Addr) : Op := fun j => if j = i then some a else O j
theorem opAt_bnd {O : Op} {i : Nat} {a : Addr} (h : ∃ n, ∀ j, n ≤ j → O j = none) : ∃ n, ∀ j, n ≤ j → opAt O i a j = none := by
  obtain ⟨n, h⟩ := h
  refine ⟨n + i + 1, fun j hj => ?_⟩
  unfold opAt
  rw [if_neg (by omega)]
  exact h j (by omega)
/-- one more open address: what is borne does not reach it -/
theorem EnvOk.open (I0 : EnvOk g O ρ σ H) (s : Stp k H H') {a : Addr} (hn : H a = none) (hs : H' a ≠ none) : EnvOk g (opAt O i a) (ρ.set i .un) σ H' := by
  have I := I0.step s
  have sub : ∀ b, Yo g (opAt O i a) b → Yo g O b ∨ H b = none := fun b y => by
    rcases y with z | ⟨j, z⟩
    · exact .inl (.inl z)
    · unfold opAt at z
      by_cases hj : j = i
      · rw [if_pos hj] at z; cases z; exact .inr hn
      · rw [if_neg hj] at z; exact .inl (.inr ⟨j, z⟩)
  have kp : Kps (Yo g (opAt O i a)) H H' := Kps.of fun b o n e => s.kp b o (fun v => n (.inl (g.vz b v))) e
  refine ⟨by rw [List.length_set]; exact I.len, fun x y b e1 e2 => ?_, fun x b e => ?_, I.zdom, I.dom, I.base, I.pl, opAt_bnd I.bnd, fun j t e => ?_⟩
  · unfold opAt at e1 e2
    by_cases hx : x = i
    · by_cases hy : y = i
      · exact hx.trans hy.symm
      · rw [if_pos hx] at e1; rw [if_neg hy] at e2; cases e1
        exact absurd hn (I0.opn y _ e2).2.2
    · by_cases hy : y = i
      · rw [if_neg hx] at e1; rw [if_pos hy] at e2; cases e2
        exact absurd hn (I0.opn x _ e1).2.2
      · rw [if_neg hx] at e1; rw [if_neg hy] at e2; exact I.inj x y b e1 e2
  · unfold opAt at e
    by_cases hx : x = i
    · rw [if_pos hx] at e; cases e
      exact ⟨fun z => I0.zdom _ z hn, I0.dom _ hn, hs⟩
    · rw [if_neg hx] at e; exact I.opn x b e
  · by_cases hj : i = j
    · subst hj
      by_cases hl : i < ρ.length
      · rw [List.getElem?_set_self hl] at e; cases e; trivial
      · rw [List.getElem?_eq_none (by rw [List.length_set]; omega)] at e; cases e
    · rw [List.getElem?_set_ne hj] at e
      have oj : opAt O i a j = O j := by unfold opAt; rw [if_neg (fun z => hj z.symm)]
      rw [oj]
      have z := I0.sl j t e
      have kq : ∀ b o, O j = some b → H b = some o → H' b = some o := fun b o q => s.kp b o fun v => (I0.opn j b q).1 (g.vz b v)
      cases t with
      | un => trivial
      | raw v => exact z
      | dat d => obtain ⟨v, e1, e2⟩ := z; exact ⟨v, e1, Is.mono (fun _ y => y) kp _ _ (Is.grow sub _ _ e2)⟩
      | opl ds => obtain ⟨b, xs, e1, e2, e3, e4⟩ := z; exact ⟨b, xs, e1, e2, kq b _ e1 e3, IsAll.mono (fun _ y => y) kp _ _ (IsAll.grow sub _ _ e4)⟩
      | opd es =>
        obtain ⟨b, e1, e2, e3⟩ := z
        refine ⟨b, e1, e2, ?_⟩
        rcases e3 with ⟨kvs, q, h⟩ | ⟨kvs, q, h⟩
        · exact .inl ⟨kvs, kq b _ e1 q, IsKV.mono (fun _ y => y) kp _ _ (IsKV.grow sub _ _ h)⟩
        · exact .inr ⟨kvs, ⟨q.1, kq b _ e1 q.2⟩, IsKT.mono (fun _ y => y) kp _ _ (IsKT.grow sub _ _ h)⟩
      | lkd es =>
        obtain ⟨b, o, u, e1, n, e2, e3⟩ := z
        exact ⟨b, o, u, e1, fun y => (sub b y).elim n fun q => by (rw [q] at e2; cases e2), s.kp b _ (fun z => n (.inl (g.vz b z))) e2, (e3.grow sub).mono (fun _ y => y) kp⟩
theorem opAt_self (O : Op) (i : Nat) (a : Addr) : opAt O i a i = some a := by unfold opAt; rw [if_pos rfl]
theorem set_set {α : Type} (l : List α) (i : Nat) (a b : α) : (l.set i a).set i b = l.set i b := by simp
theorem StpO.open (s : Stp k H H') {a : Addr} (hn : H a = none) : StpO k O H (opAt O i a) H' := ⟨fun b o n _ e => s.kp b o n e, s.dm, fun j b e => by
  unfold opAt at e
  by_cases hj : j = i
  · rw [if_pos hj] at e; cases e; exact .inr hn
  · rw [if_neg hj] at e; exact .inl ⟨j, e⟩⟩
/-- an open thing is written -/
theorem EnvOk.write {a : Addr} {o : HO} (I : EnvOk g O ρ σ H) (ha : O i = some a) (ht : ∀ j t, j ≠ i → ρ[j]? = some t → True) : EnvOk g O (ρ.set i .un) σ (upd H a o) := by
  have na : ∀ b, ¬ Yo g O b → b ≠ a := fun b n e => n (.inr ⟨i, e ▸ ha⟩)
  have kp : Kps (Yo g O) H (upd H a o) := Kps.of fun b u n e => by rw [upd_ne (na b n)]; exact e
  have nz : ∀ b, g.Z b → b ≠ a := fun b z e => (I.opn i a ha).1 (e ▸ z)
  refine ⟨by rw [List.length_set]; exact I.len, I.inj, fun x b e => ⟨(I.opn x b e).1, (I.opn x b e).2.1, ?_⟩, fun b z => by rw [upd_ne (nz b z)]; exact I.zdom b z, fun b z => ?_, fun b u n e => ?_, ?_, I.bnd, fun j t e => ?_⟩
  · by_cases q : b = a
    · subst q; rw [upd_same]; intro z; cases z
    · rw [upd_ne q]; exact (I.opn x b e).2.2
  · by_cases q : b = a
    · subst q; rw [upd_same] at z; cases z
    · rw [upd_ne q] at z; exact I.dom b z
  · have q : b ≠ a := fun q => by rw [q, (I.opn i a ha).2.1] at e; cases e
    rw [upd_ne q]; exact I.base b u n e
  · refine k.pk H _ (fun b u v e => ?_) I.pl
    rw [upd_ne (nz b (g.vz b v))]; exact e
  · by_cases hj : i = j
    · subst hj
      by_cases hl : i < ρ.length
      · rw [List.getElem?_set_self hl] at e; cases e; trivial
      · rw [List.getElem?_eq_none (by rw [List.length_set]; omega)] at e; cases e
    · rw [List.getElem?_set_ne hj] at e
      have z := I.sl j t e
      have kq : ∀ b u, O j = some b → H b = some u → upd H a o b = some u := fun b u q e => by
        rw [upd_ne (fun z => hj (I.inj i j a ha (by rw [← z]; exact q)))]; exact e
      cases t with
      | un => trivial
      | raw v => exact z
      | dat d => obtain ⟨v, e1, e2⟩ := z; exact ⟨v, e1, Is.mono (fun _ y => y) kp _ _ e2⟩
      | opl ds => obtain ⟨b, xs, e1, e2, e3, e4⟩ := z; exact ⟨b, xs, e1, e2, kq b _ e1 e3, IsAll.mono (fun _ y => y) kp _ _ e4⟩
      | opd es => obtain ⟨b, e1, e2, e3⟩ := z; exact ⟨b, e1, e2, e3.mono (fun _ y => y) kp fun u => kq b u e1⟩
      | lkd es => obtain ⟨b, ob, u, e1, n, e2, e3⟩ := z; exact ⟨b, ob, u, e1, n, by rw [upd_ne (na b n)]; exact e2, e3.mono (fun _ y => y) kp⟩
theorem StpO.write {a : Addr} {o : HO} (ha : O i = some a) : StpO k O H O (upd H a o) := ⟨fun b u n m e => by rw [upd_ne (fun z => m i (by rw [z]; exact ha))]; exact e, fun b z => by
  by_cases q : b = a
  · subst q; rw [upd_same] at z; cases z
  · rw [upd_ne q] at z; exact z, fun j b e => .inl ⟨j, e⟩⟩
/-- what is open at i is told anew -/
theorem EnvOk.fill {s : Sl} {t : Sl} (I : EnvOk g O (ρ.set i .un) σ H) (hs : ∀ x, σ[i]? = some x → SlOk (Yo g O) H (O i) s (some x)) : EnvOk g O (ρ.set i s) σ H := by
  refine ⟨by have := I.len; rw [List.length_set] at this ⊢; exact this, I.inj, I.opn, I.zdom, I.dom, I.base, I.pl, I.bnd, fun j u e => ?_⟩
  by_cases hj : i = j
  · subst hj
    by_cases hl : i < ρ.length
    · rw [List.getElem?_set_self hl] at e; cases e
      have hl' : i < σ.length := by have := I.len; rw [List.length_set] at this; omega
      rw [List.getElem?_eq_getElem hl']
      exact hs _ (List.getElem?_eq_getElem hl')
    · rw [List.getElem?_eq_none (by rw [List.length_set]; omega)] at e; cases e
  · rw [List.getElem?_set_ne hj] at e
    exact I.sl j u (by rw [List.getElem?_set_ne hj]; exact e)
end
section
variable {X : Cx} {k : Kd} {a b c e : Expr} {fa fb fc : FE} {ga gb : FT} {m m1 m2 m3 : Md} {pos : Pos} {E : XK} {st : Stmt} {i : Nat}
/-! ### x = e -/
def fAsg (i : Nat) (fa : FE) : FS := fun DD ρ => fa ρ fun d => DD.nx (ρ.set i (.dat d))
theorem ds_asg (ha : DE X k .fz e fa) (hp : ∀ t, PE X e t → PS X st (tAsg t (gName i))) : DS X k m E st (fAsg i fa) := by
  obtain ⟨t, p, q⟩ := ha
  refine ⟨_, hp t p, fun g O ρ σ H DD Dn I L hf => ?_⟩
  refine q g O ρ σ H _ _ I hf fun v H' d s r hq => ?_
  exact L.nx O _ _ H' (s.o O) ((I.step s).putDat r) hq
/-- the new list is kept open -/
def oL : D → (List D → Prop) → Prop
  | .list ds, Q => Q ds
  | _, _ => False
def oDc : D → (List (D × D) → Prop) → Prop
  | .dict es, Q => Q es
  | _, _ => False
def fAsgL (i : Nat) (fa : FE) : FS := fun DD ρ => fa ρ fun d => oL d fun ds => DD.nx (ρ.set i (.opl ds))
theorem ds_asgL (ha : DE X k .nw e fa) (hp : ∀ t, PE X e t → PS X st (tAsg t (gName i))) : DS X k m E st (fAsgL i fa) := by
  obtain ⟨t, p, q⟩ := ha
  refine ⟨_, hp t p, fun g O ρ σ H DD Dn I L hf => ?_⟩
  refine q g O ρ σ H _ _ I hf fun v H' d s r hq => ?_
  obtain ⟨x, xs, ds, rfl, rfl, hn, hx, q⟩ := r
  have I1 := I.open (i := i) s hn (by rw [hx]; intro z; cases z)
  refine L.nx _ _ _ H' (StpO.open (i := i) s hn) ?_ hq
  have I2 := I1.put (i := i) (.opl ds) (some (.ref x)) fun _ => ⟨x, xs, opAt_self O i x, rfl, hx, IsAll.mono (fun z y => ?_) (Kps.refl _ _) _ _ q⟩
  · rw [set_set] at I2; exact I2
  · rcases y with y | ⟨j, y⟩
    · exact .inl (.inl y)
    · unfold opAt at y
      by_cases hj : j = i
      · rw [if_pos hj] at y; cases y; exact .inr rfl
      · rw [if_neg hj] at y; exact .inl (.inr ⟨j, y⟩)
def fAsgD (i : Nat) (fa : FE) : FS := fun DD ρ => fa ρ fun d => oDc d fun es => DD.nx (ρ.set i (.opd es))
theorem ds_asgD (ha : DE X k .nd e fa) (hp : ∀ t, PE X e t → PS X st (tAsg t (gName i))) : DS X k m E st (fAsgD i fa) := by
  obtain ⟨t, p, q⟩ := ha
  refine ⟨_, hp t p, fun g O ρ σ H DD Dn I L hf => ?_⟩
  refine q g O ρ σ H _ _ I hf fun v H' d s r hq => ?_
  obtain ⟨x, es, rfl, rfl, hn, q⟩ := r
  have hx : H' x ≠ none := by rcases q with ⟨_, z, _⟩ | ⟨_, ⟨_, z⟩, _⟩ <;> (rw [z]; intro z; cases z)
  have I1 := I.open (i := i) s hn hx
  refine L.nx _ _ _ H' (StpO.open (i := i) s hn) ?_ hq
  have I2 := I1.put (i := i) (.opd es) (some (.ref x)) fun _ => ⟨x, opAt_self O i x, rfl, q.mono (fun z y => ?_) (Kps.refl _ _) fun _ e => e⟩
  · rw [set_set] at I2; exact I2
  · rcases y with y | ⟨j, y⟩
    · exact .inl (.inl y)
    · unfold opAt at y
      by_cases hj : j = i
      · rw [if_pos hj] at y; cases y; exact .inr rfl
      · rw [if_neg hj] at y; exact .inl (.inr ⟨j, y⟩)
/-- a slot is frozen: what it holds is not changed from here on -/
def frz (i : Nat) (ρ : Ev) : Ev := match ρ[i]? with
  | some (.opl ds) => ρ.set i (.dat (.list ds))
  | some (.opd es) => ρ.set i (.dat (.dict es))
  | _ => ρ
def opDel (O : Op) (i : Nat) : Op := fun j => if j = i then none else O j
theorem EnvOk.frz {k : Kd} {g : Gh k} {O : Op} {ρ : Ev} {σ : L2.St} {H : Hp} (I : EnvOk g O ρ σ H) (i : Nat) : ∃ O', EnvOk g O' (frz i ρ) σ H ∧ StpO k O H O' H := by
  have sub : ∀ b, Yo g (opDel O i) b → Yo g O b := fun b y => by
    rcases y with z | ⟨j, z⟩
    · exact .inl z
    · unfold opDel at z
      by_cases hj : j = i
      · rw [if_pos hj] at z; cases z
      · rw [if_neg hj] at z; exact .inr ⟨j, z⟩
  have stp : StpO k O H (opDel O i) H := ⟨fun _ _ _ _ e => e, fun _ e => e, fun j b e => by
    unfold opDel at e
    by_cases hj : j = i
    · rw [if_pos hj] at e; cases e
    · rw [if_neg hj] at e; exact .inl ⟨j, e⟩⟩
  have other : ∀ j t, j ≠ i → ρ[j]? = some t → SlOk (Yo g (opDel O i)) H (opDel O i j) t σ[j]? := fun j t hj e => by
    have z := I.sl j t e
    have oj : opDel O i j = O j := by unfold opDel; rw [if_neg hj]
    rw [oj]
    cases t with
    | un => trivial
    | raw v => exact z
    | dat d => obtain ⟨v, e1, e2⟩ := z; exact ⟨v, e1, Is.mono sub (Kps.refl _ _) _ _ e2⟩
    | opl ds => obtain ⟨b, xs, e1, e2, e3, e4⟩ := z; exact ⟨b, xs, e1, e2, e3, IsAll.mono sub (Kps.refl _ _) _ _ e4⟩
    | opd es => obtain ⟨b, e1, e2, e3⟩ := z; exact ⟨b, e1, e2, e3.mono sub (Kps.refl _ _) fun _ e => e⟩
    | lkd es => obtain ⟨b, o, u, e1, n, e2, e3⟩ := z; exact ⟨b, o, u, e1, fun y => n (sub b y), e2, e3.mono sub (Kps.refl _ _)⟩
  have nself : ∀ a, O i = some a → ¬ Yo g (opDel O i) a := fun a ha y => by
    rcases y with z | ⟨j, z⟩
    · exact (I.opn i a ha).1 z
    · unfold opDel at z
      by_cases hj : j = i
      · rw [if_pos hj] at z; cases z
      · rw [if_neg hj] at z; exact hj (I.inj j i a z ha)
  have mk : ∀ t, (i < ρ.length → SlOk (Yo g (opDel O i)) H (opDel O i i) t σ[i]?) → EnvOk g (opDel O i) (ρ.set i t) σ H := fun t ht => by
    refine ⟨by rw [List.length_set]; exact I.len, fun x y b e1 e2 => ?_, fun x b e => ?_, I.zdom, I.dom, I.base, I.pl, (let ⟨n, h⟩ := I.bnd; ⟨n, fun j hj => (by unfold opDel; split <;> first | rfl | exact h j hj)⟩), fun j u e => ?_⟩
    · unfold opDel at e1 e2
      by_cases hx : x = i
      · rw [if_pos hx] at e1; cases e1
      · by_cases hy : y = i
        · rw [if_pos hy] at e2; cases e2
        · rw [if_neg hx] at e1; rw [if_neg hy] at e2; exact I.inj x y b e1 e2
    · unfold opDel at e
      by_cases hx : x = i
      · rw [if_pos hx] at e; cases e
      · rw [if_neg hx] at e; exact I.opn x b e
    · by_cases hj : i = j
      · subst hj
        by_cases hl : i < ρ.length
        · rw [List.getElem?_set_self hl] at e; cases e; exact ht hl
        · rw [List.getElem?_eq_none (by rw [List.length_set]; omega)] at e; cases e
      · rw [List.getElem?_set_ne hj] at e; exact other j u (fun z => hj z.symm) e
  unfold L3.frz
  split
  · rename_i ds e
    obtain ⟨a, xs, e1, e2, e3, e4⟩ := I.sl i _ e
    exact ⟨_, mk _ fun _ => ⟨_, e2, a, xs, rfl, nself a e1, e3, IsAll.mono sub (Kps.refl _ _) _ _ e4⟩, stp⟩
  · rename_i es e
    obtain ⟨a, e1, e2, e3⟩ := I.sl i _ e
    exact ⟨_, mk _ fun _ => ⟨_, e2, a, rfl, nself a e1, (e3.mono sub (Kps.refl _ _) fun _ e => e).rd⟩, stp⟩
  · exact ⟨O, I, StpO.refl k O H⟩
theorem ds_frz (i : Nat) {F : FS} (h : DS X k m E st F) : DS X k m E st (fun DD ρ => F DD (frz i ρ)) := by
  obtain ⟨t, p, q⟩ := h
  refine ⟨t, p, fun g O ρ σ H DD Dn I L hf => ?_⟩
  obtain ⟨O', I', s⟩ := I.frz i
  exact q g O' _ σ H DD Dn I' (L.later s) hf
theorem dss_frz (i : Nat) {F : FS} {r : List Stmt} (h : DSs X k m E r F) : DSs X k m E r (fun DD ρ => F DD (frz i ρ)) := by
  obtain ⟨t, p, q⟩ := h
  refine ⟨t, p, fun g O ρ σ H DD Dn I L hf => ?_⟩
  obtain ⟨O', I', s⟩ := I.frz i
  exact q g O' _ σ H DD Dn I' (L.later s) hf

/-! ### e; return e; if; break; continue; pass -/
def fDrop (fa : FE) : FS := fun DD ρ => fa ρ fun _ => DD.nx ρ
theorem ds_expr (ha : DE X k m1 e fa) (hs : swapsWith e none pos.line X.env = pure false := by rfl) : DS X k m E (.Expr e pos) (fDrop fa) := by
  obtain ⟨t, p, q⟩ := ha
  refine ⟨_, ps_expr p hs, fun g O ρ σ H DD Dn I L hf => ?_⟩
  exact q g O ρ σ H _ _ I hf fun v H' d s r hq => L.nx O ρ σ H' (s.o O) (I.step s) hq
def fRet (fa : FE) : FS := fun DD ρ => fa ρ DD.rt
theorem ds_ret (ha : DE X k m1 e fa) : DS X k .fz E (.Return (some e) pos) (fRet fa) := by
  obtain ⟨t, p, q⟩ := ha.sh
  refine ⟨_, ps_ret p, fun g O ρ σ H DD Dn I L hf => ?_⟩
  refine q g O ρ σ H _ _ I hf fun v H' d s r hq => ?_
  have I1 := I.step s
  exact L.rt v H' d ⟨I1.base, I1.dom, I1.pl, IsTp.is (yz g O) r⟩ hq
theorem ds_retW (ha : DE X k .nw e fa) : DS X k .nw E (.Return (some e) pos) (fRet fa) := by
  obtain ⟨t, p, q⟩ := ha
  refine ⟨_, ps_ret p, fun g O ρ σ H DD Dn I L hf => ?_⟩
  refine q g O ρ σ H _ _ I hf fun v H' d s r hq => ?_
  have I1 := I.step s
  obtain ⟨x, xs, ds, e1, e2, hn, hx, q⟩ := r
  exact L.rt v H' d ⟨I1.base, I1.dom, I1.pl, x, xs, ds, e1, e2, I.dom x hn, hx, IsAll.mono (fun b y => y.elim (fun z => .inl (.inl z)) .inr) (Kps.refl _ _) _ _ q⟩ hq
def fRetO (i : Nat) : FS := fun DD ρ => match ρ[i]? with
  | some (.opl ds) => DD.rt (.list ds)
  | _ => False
/-- return of an open list, as a new one -/
theorem ds_retO (ha : PE X e (tVar i)) : DS X k .nw E (.Return (some e) pos) (fRetO i) := by
  refine ⟨_, ps_ret ha, fun g O ρ σ H DD Dn I L hf => ?_⟩
  unfold fRetO at hf
  split at hf
  · rename_i ds q
    obtain ⟨a, xs, e1, e2, e3, e4⟩ := I.sl i _ q
    exact ⟨_, e2, L.rt _ H _ ⟨I.base, I.dom, I.pl, a, xs, ds, rfl, rfl, (I.opn i a e1).2.1, e3, IsAll.mono (fun b y => y.elim .inl fun z => .inr ⟨i, z ▸ e1⟩) (Kps.refl _ _) _ _ e4⟩ hf⟩
  · exact hf.elim
def fRetOD (i : Nat) : FS := fun DD ρ => match ρ[i]? with
  | some (.opd es) => DD.rt (.dict es)
  | _ => False
theorem ds_retOD (ha : PE X e (tVar i)) : DS X k .nd E (.Return (some e) pos) (fRetOD i) := by
  refine ⟨_, ps_ret ha, fun g O ρ σ H DD Dn I L hf => ?_⟩
  unfold fRetOD at hf
  split at hf
  · rename_i ds q
    obtain ⟨a, e1, e2, e3⟩ := I.sl i _ q
    exact ⟨_, e2, L.rt _ H _ ⟨I.base, I.dom, I.pl, a, ds, rfl, rfl, (I.opn i a e1).2.1, e3.mono (fun b y => y.elim .inl fun z => .inr ⟨i, z ▸ e1⟩) (Kps.refl _ _) fun _ e => e⟩ hf⟩
  · exact hf.elim
def fIf (gc : FT) (F G : FS) : FS := fun DD ρ => gc ρ fun t => if t = true then F DD ρ else G DD ρ
theorem ds_if {gc : FT} {F G : FS} {p q : List Stmt} (hc : DT X k c gc) (h1 : DSs X k m E p F) (h2 : DSs X k m E q G) : DS X k m E (.If c p q pos) (fIf gc F G) := by
  obtain ⟨t, pt, qt⟩ := hc
  obtain ⟨t1, p1, q1⟩ := h1
  obtain ⟨t2, p2, q2⟩ := h2
  refine ⟨_, ps_if pt p1 p2, fun g O ρ σ H DD Dn I L hf => ?_⟩
  refine qt g O ρ σ H _ _ I hf fun b H' s hq => ?_
  cases b with
  | true => exact iteT (q1 g O ρ σ H' DD Dn (I.step s) (L.later (s.o O)) (by simpa using hq))
  | false => exact iteF (q2 g O ρ σ H' DD Dn (I.step s) (L.later (s.o O)) (by simpa using hq))
def fBk : FS := fun DD ρ => DD.bk ρ
def fCt : FS := fun DD ρ => DD.ct ρ
theorem ds_break : DS X k m E (.Break pos) fBk := ⟨_, ps_break, fun g O ρ σ H DD Dn I L hf => L.bk O ρ σ H (StpO.refl k O H) I hf⟩
theorem ds_cont : DS X k m E (.Continue pos) fCt := ⟨_, ps_continue, fun g O ρ σ H DD Dn I L hf => L.ct O ρ σ H (StpO.refl k O H) I hf⟩
theorem ds_pass : DS X k m E (.Pass pos) fNx := ⟨_, ps_pass, fun g O ρ σ H DD Dn I L hf => L.nx O ρ σ H (StpO.refl k O H) I hf⟩
end
end L3

/-! L3i: targets, what is walked, loops. -/
namespace L3
open PySem PySem.Spec L2
section
variable {X : Cx} {k : Kd} {a b c e tg : Expr} {fa fb fc : FE} {m m1 m2 m3 : Md} {pos : Pos} {E : XK} {st : Stmt} {i : Nat}

/-! ### targets -/
abbrev FG := D → Ev → (Ev → Prop) → Prop
abbrev FGs := List D → Ev → (Ev → Prop) → Prop
def DG (X : Cx) (k : Kd) (tg : Expr) (is : List Nat) (gd : FG) : Prop := ∃ t : TG, PG X tg t ∧ ∀ (g : Gh k) (O : Op) (ρ : Ev) (σ : L2.St) (H : Hp) (v : V) (d : D) (Q : Ev → Prop) (R : L2.St → Hp → Prop), EnvOk g O ρ σ H → Is (Yo g O) H v d → gd d ρ Q →
  (∀ ρ' σ', EnvOk g O ρ' σ' H → (∀ vs : List Nat, (∀ i ∈ is, i ∈ vs) → wipe σ' vs = wipe σ vs) → Q ρ' → R σ' H) → t v σ H R
def DGs (X : Cx) (k : Kd) (tgs : List Expr) (is : List Nat) (gd : FGs) : Prop := ∃ t : TGs, PGs X tgs t ∧ ∀ (g : Gh k) (O : Op) (ρ : Ev) (σ : L2.St) (H : Hp) (vs : List V) (ds : List D) (Q : Ev → Prop) (R : L2.St → Hp → Prop), EnvOk g O ρ σ H → IsAll (Yo g O) H vs ds → gd ds ρ Q →
  (∀ ρ' σ', EnvOk g O ρ' σ' H → (∀ vs : List Nat, (∀ i ∈ is, i ∈ vs) → wipe σ' vs = wipe σ vs) → Q ρ' → R σ' H) → t vs σ H R
def gN (i : Nat) : FG := fun d ρ Q => Q (ρ.set i (.dat d))
theorem wipe_set {x : Option V} {i : Nat} : ∀ {vs : List Nat} {σ : L2.St}, i ∈ vs → wipe (σ.set i x) vs = wipe σ vs
  | [], _, h => by cases h
  | v :: vs, σ, h => by
    show (wipe (σ.set i x) vs).set v none = (wipe σ vs).set v none
    by_cases hm : i ∈ vs
    · rw [wipe_set hm]
    · have e : v = i := by
        rcases List.mem_cons.mp h with h | h
        · exact h.symm
        · exact (hm h).elim
      subst e
      have comm : ∀ (vs : List Nat) (σ : L2.St), v ∉ vs → wipe (σ.set v x) vs = (wipe σ vs).set v x := by
        intro vs
        induction vs with
        | nil => intro σ _; rfl
        | cons u us ih =>
          intro σ hn
          have h1 : v ≠ u := fun z => hn (z ▸ List.mem_cons_self)
          show (wipe (σ.set v x) us).set u none = ((wipe σ us).set u none).set v x
          rw [ih σ fun z => hn (List.mem_cons_of_mem _ z), List.set_comm _ _ h1]
      rw [comm vs σ hm, List.set_set]
theorem dg_name (h : PG X tg (gName i)) : DG X k tg [i] (gN i) := ⟨_, h, fun g O ρ σ H v d Q R I hv hq w => w _ _ (I.putDat hv) (fun vs hm => wipe_set (hm i (List.mem_singleton.mpr rfl))) hq⟩
def gNil' : FGs := fun ds ρ Q => match ds with
  | [] => Q ρ
  | _ => False
def gCons' (g1 : FG) (g2 : FGs) : FGs := fun ds ρ Q => match ds with
  | d :: r => g1 d ρ fun ρ' => g2 r ρ' Q
  | _ => False
theorem dgs_nil : DGs X k [] [] gNil' := ⟨_, pgs_nil, fun g O ρ σ H vs ds Q R I hv hq w => by
  cases ds with
  | nil => exact ⟨hv, w ρ σ I (fun _ _ => rfl) hq⟩
  | cons _ _ => exact (show False from hq).elim⟩
theorem dgs_cons {es : List Expr} {is js : List Nat} {g1 : FG} {g2 : FGs} (h1 : DG X k e is g1) (h2 : DGs X k es js g2) (hs : (assignEach (e :: es) X.env).map (·.2) = assign e X.env :: (assignEach es X.env).map (·.2) := by rfl) : DGs X k (e :: es) (is ++ js) (gCons' g1 g2) := by
  obtain ⟨t, p, q⟩ := h1
  obtain ⟨u, p2, q2⟩ := h2
  refine ⟨_, pgs_cons p p2 hs, fun g O ρ σ H vs ds Q R I hv hq w => ?_⟩
  cases ds with
  | nil => exact (show False from hq).elim
  | cons d r =>
    obtain ⟨v, vr, ev, h1, h2⟩ := hv
    refine ⟨v, vr, ev, q g O ρ σ H v d _ _ I h1 hq fun ρ1 σ1 I1 w1 hq1 => ?_⟩
    refine q2 g O ρ1 σ1 H vr r Q R I1 h2 hq1 fun ρ2 σ2 I2 w2 hq2 => ?_
    exact w ρ2 σ2 I2 (fun vs hm => (w2 vs fun i hi => hm i (List.mem_append_right _ hi)).trans (w1 vs fun i hi => hm i (List.mem_append_left _ hi))) hq2
def gTup' (g2 : FGs) : FG := fun d ρ Q => match d with
  | .tuple ds => g2 ds ρ Q
  | _ => False
/-- n: how many names; the tuple must have as many -/
theorem dg_tup {es : List Expr} {kk n : Nat} {is : List Nat} {g2 : FGs} (hc : X.calm = true) (h : DGs X k es is g2) (hl : ∀ ds ρ Q, g2 ds ρ Q → ds.length = n)
    (hn : (assignEach es X.env).length = n := by rfl) (hst : (assignEach es X.env).findIdx? (·.1) = none := by rfl) : DG X k (.Tuple es kk pos) is (gTup' g2) := by
  obtain ⟨t, p, q⟩ := h
  refine ⟨_, pg_tup hc p hn hst, fun g O ρ σ H v d Q R I hv hq w => ?_⟩
  cases d <;> try exact (show False from hq).elim
  rename_i ds
  obtain ⟨x, xs, rfl, nx, hx, hq'⟩ := hv
  exact ⟨x, xs, rfl, SqT.of hx, by rw [hq'.length]; exact hl ds ρ Q hq, q g O ρ σ H xs ds Q R I hq' hq w⟩
theorem len0 : ∀ ds ρ Q, gNil' ds ρ Q → ds.length = 0 := fun ds ρ Q h => by
  cases ds with
  | nil => rfl
  | cons _ _ => exact (show False from h).elim
theorem lenS {g1 : FG} {g2 : FGs} {n : Nat} (h : ∀ ds ρ Q, g2 ds ρ Q → ds.length = n) (i1 : ∀ d ρ (Q Q' : Ev → Prop), (∀ ρ, Q ρ → Q' ρ) → g1 d ρ Q → g1 d ρ Q') (hw : ∀ d ρ (Q : Ev → Prop), g1 d ρ Q → ∃ ρ', Q ρ') : ∀ ds ρ Q, gCons' g1 g2 ds ρ Q → ds.length = n + 1 := fun ds ρ Q q => by
  cases ds with
  | nil => exact (show False from q).elim
  | cons d r =>
    obtain ⟨ρ', q'⟩ := hw d ρ _ q
    rw [List.length_cons, h r ρ' Q q']
theorem gN_ex {i : Nat} : ∀ d ρ (Q : Ev → Prop), gN i d ρ Q → ∃ ρ', Q ρ' := fun d ρ Q h => ⟨_, h⟩
theorem gCons_ex {g1 : FG} {g2 : FGs} (h1 : ∀ d ρ (Q : Ev → Prop), g1 d ρ Q → ∃ ρ', Q ρ') (h2 : ∀ d ρ (Q : Ev → Prop), g2 d ρ Q → ∃ ρ', Q ρ') : ∀ d ρ (Q : Ev → Prop), gCons' g1 g2 d ρ Q → ∃ ρ', Q ρ' := fun ds ρ Q q => by
  cases ds with
  | nil => exact (show False from q).elim
  | cons d r =>
    obtain ⟨ρ', q'⟩ := h1 d ρ _ q
    exact h2 r ρ' Q q'
theorem gNil_ex : ∀ d ρ (Q : Ev → Prop), gNil' d ρ Q → ∃ ρ', Q ρ' := fun ds ρ Q q => by
  cases ds with
  | nil => exact ⟨_, q⟩
  | cons d r => exact (show False from q).elim
theorem gTup_ex {g2 : FGs} (h2 : ∀ d ρ (Q : Ev → Prop), g2 d ρ Q → ∃ ρ', Q ρ') : ∀ d ρ (Q : Ev → Prop), gTup' g2 d ρ Q → ∃ ρ', Q ρ' := fun d ρ Q q => by
  cases d <;> try exact (show False from q).elim
  exact h2 _ ρ Q q
theorem len1 {g1 : FG} {g2 : FGs} {n : Nat} (h : ∀ ds ρ Q, g2 ds ρ Q → ds.length = n) (hw : ∀ d ρ (Q : Ev → Prop), g1 d ρ Q → ∃ ρ', Q ρ') : ∀ ds ρ Q, gCons' g1 g2 ds ρ Q → ds.length = n + 1 := fun ds ρ Q q => by
  cases ds with
  | nil => exact (show False from q).elim
  | cons d r =>
    obtain ⟨ρ', q'⟩ := hw d ρ _ q
    rw [List.length_cons, h r ρ' Q q']
/-- a, b = e -/
def fAsgG (gd : FG) (fa : FE) : FS := fun DD ρ => fa ρ fun d => gd d ρ DD.nx
theorem ds_asgG {is : List Nat} {gd : FG} (ha : DE X k .fz e fa) (hg : DG X k tg is gd) (hs : swapsWithSole [tg] e pos.line X.env = pure false := by rfl) (hw : swappedStores [tg] e X.env = pure none := by rfl)
    (h1 : (assignEach [tg] X.env).map (·.2) = [assign tg X.env] := by rfl) : DS X k m E (.Assign [tg] e pos) (fAsgG gd fa) := by
  obtain ⟨t, p, q⟩ := ha
  obtain ⟨u, p2, q2⟩ := hg
  refine ⟨_, ps_asg p p2 hs hw h1, fun g O ρ σ H DD Dn I L hf => ?_⟩
  refine q g O ρ σ H _ _ I hf fun v H' d s r hq => ?_
  refine q2 g O ρ σ H' v d _ _ (I.step s) r hq fun ρ' σ' I' _ hq' => ?_
  exact L.nx O ρ' σ' H' (s.o O) I' hq'

/-! ### what is walked -/
abbrev FI := Ev → (List D → Prop) → Prop
def Feeds (Y1 Y : Addr → Prop) (ds : List D) (H1 : Hp) (J : It) : Prop := ∀ (i : Nat) (H' : Hp), (∀ a o, ¬ Y1 a → H1 a = some o → H' a = some o) →
  (ds.length ≤ i → J.stop i H') ∧ ∀ d, ds[i]? = some d → J.go i H' ∧ ∀ x H'', J.yld i H' x H'' → Same H' H'' ∧ ∀ Y' : Addr → Prop, (∀ a, Y' a → Y a ∨ H1 a = none) → (∀ a, Y' a → H' a ≠ none) → Is Y' H'' x d
/-- b: the body may write what is open -/
def DI (X : Cx) (k : Kd) (b : Bool) (tg iter : Expr) (fi : FI) : Prop := ∃ wi : TI, PI X tg iter wi ∧ ∀ (g : Gh k) (O : Op) (ρ : Ev) (σ : L2.St) (H : Hp) (Q : List D → Prop) (R : It → Hp → Prop), EnvOk g O ρ σ H → fi ρ Q →
  (∀ J H1 ds, Stp k H H1 → Feeds (if b = true then Yo g O else g.Z) (Yo g O) ds H1 J → Q ds → R J H1) → wi σ H R
def oSeq : D → (List D → Prop) → Prop
  | .list ds, Q => Q ds
  | .tuple ds, Q => Q ds
  | _, _ => False
def fSeqI (fa : FE) : FI := fun ρ Q => fa ρ fun d => oSeq d Q
theorem is_of {Y Y' : Addr → Prop} {H1 H'' : Hp} {v : V} {d : D} (h : Is Y H1 v d) (kp : Kps Y H1 H'') (sub : ∀ a, Y' a → Y a ∨ H1 a = none) : Is Y' H'' v d := by
  have h1 : Is (fun a => Y a ∨ Y' a) H1 v d := Is.grow (fun a y => y.elim .inl (sub a)) _ _ h
  have kp' : Kps (fun a => Y a ∨ Y' a) H1 H'' := fun a n => kp a fun z => n (.inl z)
  exact Is.mono (fun a y => .inr y) kp' _ _ h1
theorem feeds_list {K : PySem.W.Frag} {Y1 Y : Addr → Prop} {H1 : Hp} {a : Addr} {xs : List V} {ds : List D} (y1 : ∀ a, Y1 a → Y a) (na : ¬ Y1 a) (ha : H1 a = some (.lst xs)) (q : IsAll Y H1 xs ds) : Feeds Y1 Y ds H1 (Itl K a) := by
  intro i H' kp
  have ha' := kp a _ na ha
  refine ⟨fun hl => ⟨xs, SqL.of ha', by rw [q.length]; exact hl⟩, fun d hd => ?_⟩
  obtain ⟨v, hv, iv⟩ := q.get hd
  refine ⟨⟨xs, v, SqL.of ha', hv⟩, fun x H'' y => ?_⟩
  obtain ⟨e, y⟩ := y
  subst e
  have ex : x = v := Option.some.inj ((y xs (SqL.of ha')).symm.trans hv)
  subst ex
  exact ⟨Same.refl _, fun Y' sub _ => is_of iv (Kps.of fun b o n e => kp b o (fun z => n (y1 b z)) e) sub⟩
theorem feeds_tup {K : PySem.W.Frag} {Y1 Y : Addr → Prop} {H1 : Hp} {a : Addr} {xs : List V} {ds : List D} (y1 : ∀ a, Y1 a → Y a) (na : ¬ Y1 a) (ha : H1 a = some (.tup xs)) (q : IsAll Y H1 xs ds) : Feeds Y1 Y ds H1 (Itt K a) := by
  intro i H' kp
  have ha' := kp a _ na ha
  refine ⟨fun hl => ⟨xs, SqT.of ha', by rw [q.length]; exact hl⟩, fun d hd => ?_⟩
  obtain ⟨v, hv, iv⟩ := q.get hd
  refine ⟨⟨xs, v, SqT.of ha', hv⟩, fun x H'' y => ?_⟩
  obtain ⟨e, y⟩ := y
  subst e
  have ex : x = v := Option.some.inj ((y xs (SqT.of ha')).symm.trans hv)
  subst ex
  exact ⟨Same.refl _, fun Y' sub _ => is_of iv (Kps.of fun b o n e => kp b o (fun z => n (y1 b z)) e) sub⟩
def oLst : D → (List D → Prop) → Prop
  | .list ds, Q => Q ds
  | _, _ => False
def oTpl : D → (List D → Prop) → Prop
  | .tuple ds, Q => Q ds
  | _, _ => False
def fLstI (fa : FE) : FI := fun ρ Q => fa ρ fun d => oLst d Q
def fTupI (fa : FE) : FI := fun ρ Q => fa ρ fun d => oTpl d Q
theorem di_list (ha : DE X k m e fa) (n : m ≠ .sh := by intro z; cases z) : DI X k true tg e (fLstI fa) := by
  obtain ⟨t, p, q⟩ := ha.fz n
  refine ⟨_, pi_list p, fun g O ρ σ H Q R I hf w => ?_⟩
  refine q g O ρ σ H _ _ I hf fun v H' d s r hq => ?_
  cases d <;> try exact (show False from hq).elim
  obtain ⟨a, xs, rfl, na, ha, q⟩ := r
  exact ⟨a, rfl, ⟨xs, SqL.of ha⟩, w _ H' _ s (feeds_list (fun _ y => y) na ha q) hq⟩
/-- a list that may be open, walked by a comprehension -/
theorem di_listS (ha : DE X k m e fa) : DI X k false tg e (fLstI fa) := by
  obtain ⟨t, p, q⟩ := ha.sh
  refine ⟨_, pi_list p, fun g O ρ σ H Q R I hf w => ?_⟩
  refine q g O ρ σ H _ _ I hf fun v H' d s r hq => ?_
  cases d <;> try exact (show False from hq).elim
  obtain ⟨a, xs, rfl, na, ha, q⟩ := r
  exact ⟨a, rfl, ⟨xs, SqL.of ha⟩, w _ H' _ s (feeds_list (yz g O) na ha q) hq⟩
theorem di_tup (b : Bool) (ha : DE X k m e fa) (n : m ≠ .sh := by intro z; cases z) : DI X k b tg e (fTupI fa) := by
  obtain ⟨t, p, q⟩ := ha.fz n
  refine ⟨_, pi_tup p, fun g O ρ σ H Q R I hf w => ?_⟩
  refine q g O ρ σ H _ _ I hf fun v H' d s r hq => ?_
  cases d <;> try exact (show False from hq).elim
  obtain ⟨a, xs, rfl, na, ha, q⟩ := r
  refine ⟨a, rfl, ⟨xs, SqT.of ha⟩, w _ H' _ s ?_ hq⟩
  cases b with
  | true => exact feeds_tup (fun _ y => y) na ha q
  | false => exact feeds_tup (yz g O) (fun z => na (.inl z)) ha q
theorem DI.s {fi : FI} (h : DI X k true tg e fi) : DI X k false tg e fi := by
  obtain ⟨t, p, q⟩ := h
  refine ⟨t, p, fun g O ρ σ H Q R I hf w => q g O ρ σ H Q R I hf fun J H1 ds s f hq => w J H1 ds s (fun i H' kp => f i H' fun a o n e => kp a o (fun z => n (by exact .inl z)) e) hq⟩
/-- range -/
def rgD (lo hi : Int) : List D := (List.range (hi - lo).toNat).map fun i => .int (lo + (i : Nat))
theorem rgD_get {lo hi : Int} {i : Nat} {d : D} (h : (rgD lo hi)[i]? = some d) : i < (hi - lo).toNat ∧ d = .int (lo + (i : Nat)) := by
  unfold rgD at h
  rw [List.getElem?_map] at h
  by_cases hi' : i < (hi - lo).toNat
  · rw [List.getElem?_range hi'] at h
    exact ⟨hi', (Option.some.inj h).symm⟩
  · rw [List.getElem?_eq_none (by rw [List.length_range]; omega)] at h; cases h
theorem feeds_range {Y1 Y : Addr → Prop} {H1 : Hp} {lo hi : Int} : Feeds Y1 Y (rgD lo hi) H1 (Itr lo (hi - lo).toNat) := by
  intro i H' kp
  refine ⟨fun hl => ?_, fun d hd => ?_⟩
  · have : (rgD lo hi).length = (hi - lo).toNat := by unfold rgD; rw [List.length_map, List.length_range]
    show (hi - lo).toNat ≤ i
    omega
  · obtain ⟨h1, rfl⟩ := rgD_get hd
    refine ⟨h1, fun x H'' y => ?_⟩
    obtain ⟨e, rfl⟩ := y
    subst e
    exact ⟨Same.refl _, fun _ _ _ => rfl⟩
def inR (i : Int) : Prop := -(2 ^ 62) ≤ i ∧ i < 2 ^ 62
def oRg1 : List D → (List D → Prop) → Prop
  | [.int j], Q => inR j ∧ Q (rgD 0 j)
  | _, _ => False
def oRg2 : List D → (List D → Prop) → Prop
  | [.int i, .int j], Q => (inR i ∧ inR j) ∧ Q (rgD i j)
  | _, _ => False
def fRgI (o : List D → (List D → Prop) → Prop) (fa : FA) : FI := fun ρ Q => fa ρ fun ds => o ds Q
theorem di_range1 {bb : Bool} {fr : FA} {p : Pos} (hm : X.mg "range" = none) (hg : Gl X "range") (ha : DA X k false [a] fr) (hs : starEach [a] X.env = [(false, eval a X.env)] := by rfl) : DI X k bb tg (.Call (.Name "range" p) [a] [] pos) (fRgI oRg1 fr) := by
  obtain ⟨t, pa, q⟩ := ha
  refine ⟨_, pi_range1 hg hm pa hs, fun g O ρ σ H Q R I hf w => ?_⟩
  refine q g O ρ σ H _ _ I hf fun vs H' ds s r hq => ?_
  match ds, hq with
  | [.int j], hq =>
    obtain ⟨v, rfl, hv⟩ := tps1 (by simpa using r)
    cases (show v = _ from hv)
    refine ⟨j, rfl, hq.1.1, hq.1.2, ?_⟩
    have := w (Itr 0 (j - 0).toNat) H' (rgD 0 j) s feeds_range hq.2
    simpa using this
theorem di_range2 {bb : Bool} {fr : FA} {p : Pos} (hm : X.mg "range" = none) (hg : Gl X "range") (ha : DA X k false [a, b] fr) (hs : starEach [a, b] X.env = [(false, eval a X.env), (false, eval b X.env)] := by rfl) (hs2 : starEach [b] X.env = [(false, eval b X.env)] := by rfl) : DI X k bb tg (.Call (.Name "range" p) [a, b] [] pos) (fRgI oRg2 fr) := by
  obtain ⟨t, pa, q⟩ := ha
  refine ⟨_, pi_range2 hg hm pa hs hs2, fun g O ρ σ H Q R I hf w => ?_⟩
  refine q g O ρ σ H _ _ I hf fun vs H' ds s r hq => ?_
  match ds, hq with
  | [.int i, .int j], hq =>
    obtain ⟨v, v', rfl, hv, hv'⟩ := tps2 (by simpa using r)
    cases (show v = _ from hv); cases (show v' = _ from hv')
    exact ⟨i, j, rfl, ⟨hq.1.1.1, hq.1.1.2, hq.1.2.1, hq.1.2.2⟩, w (Itr i (j - i).toNat) H' (rgD i j) s feeds_range hq.2⟩
/-- enumerate of a list -/
def enD (ds : List D) : List D := (List.range ds.length).zipWith (fun i d => .tuple [.int (i : Nat), d]) ds
theorem enD_get {ds : List D} {i : Nat} {d : D} (h : (enD ds)[i]? = some d) : ∃ d', ds[i]? = some d' ∧ d = .tuple [.int (i : Nat), d'] := by
  unfold enD at h
  rw [List.getElem?_zipWith] at h
  cases e1 : (List.range ds.length)[i]? with
  | none => rw [e1] at h; cases h
  | some j =>
    cases e2 : ds[i]? with
    | none => rw [e1, e2] at h; cases h
    | some d' =>
      rw [e1, e2] at h
      have : j = i := by
        obtain ⟨h1, h2⟩ := List.getElem?_eq_some_iff.mp e1
        rw [List.getElem_range] at h2; exact h2.symm
      subst this
      exact ⟨d', rfl, (Option.some.inj h).symm⟩
theorem enD_len (ds : List D) : (enD ds).length = ds.length := by unfold enD; rw [List.length_zipWith, List.length_range]; omega
def oEn : List D → (List D → Prop) → Prop
  | [.list ds], Q => Q (enD ds)
  | _, _ => False
theorem di_enum {fr : FA} {elts : List Expr} {kk : Nat} {p tpos : Pos} (hm : X.mg "enumerate" = none) (hg : Gl X "enumerate") (ha : DA X k true [e] fr) (hs : starEach [e] X.env = [(false, eval e X.env)] := by rfl) :
    DI X k true (.Tuple elts kk tpos) (.Call (.Name "enumerate" p) [e] [] pos) (fRgI oEn fr) := by
  obtain ⟨t, pa, q⟩ := ha
  refine ⟨_, pi_enum hg hm pa hs, fun g O ρ σ H Q R I hf w => ?_⟩
  refine q g O ρ σ H _ _ I hf fun vs H1 ds s r hq => ?_
  match ds, hq with
  | [.list ds], hq =>
    obtain ⟨v, r', rfl, hv, hr⟩ : ∃ v r', vs = v :: r' ∧ Is (Yo g O) H1 v (.list ds) ∧ IsAll (Yo g O) H1 r' [] := r
    cases (show r' = [] from hr)
    obtain ⟨a, xs, rfl, na, ha, q⟩ := hv
    refine ⟨a, xs, rfl, SqL.of ha, w _ H1 (enD ds) s ?_ hq⟩
    intro i H' kp
    have ha' := kp a _ na ha
    refine ⟨fun hl => ⟨xs, SqL.of ha', by rw [q.length]; rw [enD_len] at hl; exact hl⟩, fun d hd => ?_⟩
    obtain ⟨d', hd', rfl⟩ := enD_get hd
    obtain ⟨v, hv, iv⟩ := q.get hd'
    refine ⟨⟨xs, v, SqL.of ha', hv⟩, fun x H'' y => ?_⟩
    obtain ⟨T, x', rfl, hT, rfl, y⟩ := y
    have ex : x' = v := Option.some.inj ((y xs (SqL.of ha')).symm.trans hv)
    subst ex
    refine ⟨same_new hT, fun Y' sub dm => ⟨T, _, rfl, fun z => dm T z hT, upd_same, .int (i : Nat), [x'], rfl, rfl, x', [], rfl, ?_, rfl⟩⟩
    exact is_of iv (Kps.of fun b o n e => same_new hT b o (kp b o n e)) sub

/-! ### for -/
def forD (gd : FG) (fb : FS) : List D → DEnds → Ev → Prop
  | [], DD, ρ => DD.nx ρ
  | d :: ds, DD, ρ => gd d ρ fun ρ' => fb { DD with nx := forD gd fb ds DD, ct := forD gd fb ds DD, bk := DD.nx } ρ'
def fFor (fi : FI) (gd : FG) (fb : FS) : FS := fun DD ρ => fi ρ fun ds => forD gd fb ds DD ρ
theorem ds_for {is : List Nat} {fi : FI} {gd : FG} {fb : FS} {iter : Expr} {body : List Stmt} (hi : DI X k true tg iter fi) (hg : DG X k tg is gd) (hb : DSs X k m E body fb)
    (hp : ∀ wi g tb, PI X tg iter wi → PG X tg g → PSs X body tb → PS X st (tFor wi g tb)) : DS X k m E st (fFor fi gd fb) := by
  obtain ⟨wi, pi, qi⟩ := hi
  obtain ⟨tg', pg, qg⟩ := hg
  obtain ⟨tb, pb, qb⟩ := hb
  refine ⟨_, hp _ _ _ pi pg pb, fun g O ρ σ H DD Dn I L hf => ?_⟩
  refine qi g O ρ σ H _ _ I hf fun J H1 ds s f hq => ?_
  have I1 := I.step s
  have L1 := L.later (s.o O)
  refine ⟨fun i n σ' H' => n = ds.length - i ∧ i ≤ ds.length ∧ ∃ O' ρ', StpO k O H1 O' H' ∧ EnvOk g O' ρ' σ' H' ∧ forD gd fb (ds.drop i) DD ρ', ⟨ds.length, by simp, Nat.zero_le _, O, ρ, StpO.refl k O H1, I1, hq⟩, ?_⟩
  rintro i n σ' H' ⟨rfl, hi, O', ρ', so, I', hq'⟩
  have kp : ∀ a o, ¬ Yo g O a → H1 a = some o → H' a = some o := fun a o n e => so.kp a o (fun z => n (.inl (g.vz a z))) (fun j z => n (.inr ⟨j, z⟩)) e
  obtain ⟨fs, fg⟩ := f i H' (by simpa using kp)
  by_cases hlt : i < ds.length
  · obtain ⟨go, yl⟩ := fg ds[i] (List.getElem?_eq_getElem hlt)
    rw [List.drop_eq_getElem_cons hlt] at hq'
    refine .inr ⟨go, fun σ'' H'' => ∃ O'' ρ'', StpO k O H1 O'' H'' ∧ EnvOk g O'' ρ'' σ'' H'' ∧ forD gd fb (ds.drop (i + 1)) DD ρ'', fun σ'' H'' ⟨O'', ρ'', a1, a2, a3⟩ => ⟨ds.length - (i + 1), by omega, rfl, hlt, O'', ρ'', a1, a2, a3⟩, fun x H2 y => ?_⟩
    obtain ⟨sm, iv⟩ := yl x H2 y
    have sx : Stp k H' H2 := Stp.same sm
    have I2 := I'.step sx
    have so2 := so.trans (sx.o O')
    have hx : Is (Yo g O') H2 x ds[i] := iv (Yo g O') (fun a y => y.elim (fun z => .inl (.inl z)) fun ⟨j, z⟩ => (so.op j a z).elim (fun q => .inl (.inr q)) .inr) fun a y => I'.ydom a y
    refine qg g O' ρ' σ' H2 x ds[i] _ _ I2 hx hq' fun ρ3 σ3 I3 _ hq3 => ?_
    refine qb g O' ρ3 σ3 H2 { DD with nx := forD gd fb (ds.drop (i + 1)) DD, ct := forD gd fb (ds.drop (i + 1)) DD, bk := DD.nx } _ I3 ⟨fun O4 ρ4 σ4 H4 s4 I4 h4 => ⟨O4, ρ4, so2.trans s4, I4, h4⟩, fun O4 ρ4 σ4 H4 s4 I4 h4 => ?_, fun O4 ρ4 σ4 H4 s4 I4 h4 => ⟨O4, ρ4, so2.trans s4, I4, h4⟩, L1.rt, L1.ex⟩ hq3
    exact L1.nx O4 ρ4 σ4 H4 (so2.trans s4) I4 h4
  · have e : i = ds.length := by omega
    rw [e, List.drop_length] at hq'
    exact .inl ⟨fs (by omega), L1.nx O' ρ' σ' H' so I' hq'⟩

/-! ### while -/
def whD (gc : FT) (fb : FS) : Nat → DEnds → Ev → Prop
  | 0, _, _ => False
  | n + 1, DD, ρ => gc ρ fun t => if t = true then fb { DD with nx := whD gc fb n DD, ct := whD gc fb n DD, bk := DD.nx } ρ else DD.nx ρ
def fWhile (gc : FT) (fb : FS) : FS := fun DD ρ => ∃ n, whD gc fb n DD ρ
theorem ds_while {gc : FT} {fb : FS} {body : List Stmt} (hc : DT X k c gc) (hb : DSs X k m E body fb)
    (hp : ∀ tc tb, PT X c tc → PSs X body tb → PS X st (tWhile tc tb)) : DS X k m E st (fWhile gc fb) := by
  obtain ⟨tc, pc, qc⟩ := hc
  obtain ⟨tb, pb, qb⟩ := hb
  refine ⟨_, hp _ _ pc pb, fun g O ρ σ H DD Dn I L hf => ?_⟩
  obtain ⟨n, hf⟩ := hf
  refine ⟨fun n σ' H' => ∃ O' ρ', StpO k O H O' H' ∧ EnvOk g O' ρ' σ' H' ∧ whD gc fb n DD ρ', ⟨n, O, ρ, StpO.refl k O H, I, hf⟩, ?_⟩
  rintro n σ' H' ⟨O', ρ', so, I', hq⟩
  cases n with
  | zero => exact (show False from hq).elim
  | succ n =>
    refine qc g O' ρ' σ' H' _ _ I' hq fun t H1 s h1 => ?_
    have I1 := I'.step s
    have so1 := so.trans (s.o O')
    cases t with
    | false => exact iteF (L.nx O' ρ' σ' H1 so1 I1 (by simpa using h1))
    | true =>
      refine iteT ⟨fun σ'' H'' => ∃ O'' ρ'', StpO k O H O'' H'' ∧ EnvOk g O'' ρ'' σ'' H'' ∧ whD gc fb n DD ρ'', fun σ'' H'' h => ⟨n, Nat.lt_succ_self n, h⟩, ?_⟩
      refine qb g O' ρ' σ' H1 { DD with nx := whD gc fb n DD, ct := whD gc fb n DD, bk := DD.nx } _ I1 ⟨fun O4 ρ4 σ4 H4 s4 I4 h4 => ⟨O4, ρ4, so1.trans s4, I4, h4⟩, fun O4 ρ4 σ4 H4 s4 I4 h4 => L.nx O4 ρ4 σ4 H4 (so1.trans s4) I4 h4, fun O4 ρ4 σ4 H4 s4 I4 h4 => ⟨O4, ρ4, so1.trans s4, I4, h4⟩, L.rt, L.ex⟩ (by simpa using h1)
end
end L3

/-! L3j: list comprehensions. -/
namespace L3
open PySem PySem.Spec L2

/-! ### readings that do not lean on the context -/
def canE (k : Kd) (m : Md) (f : FE) : TE := fun σ H R => ∃ (g : Gh k) (O : Op) (ρ : Ev) (Q : D → Prop), EnvOk g O ρ σ H ∧ f ρ Q ∧ ∀ v H' d, Stp k H H' → Res (Yo g O) g.Z H H' m v d → Q d → R v H'
def canT (k : Kd) (f : FT) : TT := fun σ H R => ∃ (g : Gh k) (O : Op) (ρ : Ev) (Q : Bool → Prop), EnvOk g O ρ σ H ∧ f ρ Q ∧ ∀ b H', Stp k H H' → Q b → R b H'
def canG (k : Kd) (is : List Nat) (gd : FG) : TG := fun v σ H R => ∃ (g : Gh k) (O : Op) (ρ : Ev) (d : D) (Q : Ev → Prop), EnvOk g O ρ σ H ∧ Is (Yo g O) H v d ∧ gd d ρ Q ∧
  ∀ ρ' σ', EnvOk g O ρ' σ' H → (∀ vs : List Nat, (∀ i ∈ is, i ∈ vs) → wipe σ' vs = wipe σ vs) → Q ρ' → R σ' H
theorem DE.can {X : Cx} {k : Kd} {m : Md} {e : Expr} {f : FE} (h : DE X k m e f) : PE X e (canE k m f) := by
  obtain ⟨t, p, q⟩ := h
  exact ⟨fun pins s σ H R I ⟨g, O, ρ, Q, I', hf, w⟩ => p.run pins s σ H R I (q g O ρ σ H Q R I' hf w)⟩
theorem DT.can {X : Cx} {k : Kd} {e : Expr} {f : FT} (h : DT X k e f) : PT X e (canT k f) := by
  obtain ⟨t, p, q⟩ := h
  exact ⟨fun pins s σ H R I ⟨g, O, ρ, Q, I', hf, w⟩ => p.run pins s σ H R I (q g O ρ σ H Q R I' hf w)⟩
theorem DG.can {X : Cx} {k : Kd} {is : List Nat} {e : Expr} {f : FG} (h : DG X k e is f) : PG X e (canG k is f) := by
  obtain ⟨t, p, q⟩ := h
  exact ⟨fun pins s σ H v u R I r ⟨g, O, ρ, d, Q, I', hv, hf, w⟩ => p.run pins s σ H v u R I r (q g O ρ σ H v d Q R I' hv hf w)⟩
/-- the tests of a comprehension: none, or one -/
def fYes : FT := fun _ Q => Q true
def DTs (X : Cx) (k : Kd) (es : List Expr) (f : FT) : Prop := PTs X es (canT k f)
theorem dts_nil {X : Cx} {k : Kd} : DTs X k [] fYes := ⟨fun pins s σ H R I ⟨g, O, ρ, Q, I', hf, w⟩ => pts_nil.run pins s σ H R I (w true H (Stp.refl k H) hf)⟩
theorem dts_one {X : Cx} {k : Kd} {e : Expr} {f : FT} (h : DT X k e f) : DTs X k [e] f := pts_one h.can

def wipeE (ρ : Ev) : List Nat → Ev
  | [] => ρ
  | v :: vs => (wipeE ρ vs).set v .un
theorem EnvOk.wiped {k : Kd} {g : Gh k} {O : Op} {ρ : Ev} {σ : L2.St} {H : Hp} (I : EnvOk g O ρ σ H) : ∀ vs : List Nat, EnvOk g O (wipeE ρ vs) (wipe σ vs) H
  | [] => I
  | v :: vs => (I.wiped vs).putUn none
theorem wipe_wipe : ∀ (vs : List Nat) (σ : L2.St), wipe (wipe σ vs) vs = wipe σ vs := by
  intro vs σ
  have h : ∀ us : List Nat, (∀ u ∈ us, u ∈ vs) → wipe (wipe σ us) vs = wipe σ vs := by
    intro us
    induction us with
    | nil => intro _; rfl
    | cons u us ih =>
      intro hu
      show wipe ((wipe σ us).set u none) vs = _
      rw [wipe_set (hu u List.mem_cons_self)]
      exact ih fun x hx => hu x (List.mem_cons_of_mem _ hx)
  exact h vs fun _ h => h
def compD (gd : FG) (ft : FT) (fe : FE) : List D → Ev → List D → (D → Prop) → Prop
  | [], _, acc, Q => Q (.list acc)
  | d :: ds, ρ, acc, Q => gd d ρ fun ρ' => ft ρ' fun b => if b = true then fe ρ' fun y => acc.length < sizeLine ∧ compD gd ft fe ds ρ (acc ++ [y]) Q else compD gd ft fe ds ρ acc Q
def fComp (fi : FI) (gd : FG) (ft : FT) (fe : FE) (vs : List Nat) : FE := fun ρ Q => fi ρ fun ds => compD gd ft fe ds (wipeE ρ vs) [] Q
theorem yo_at {k : Kd} {g : Gh k} {O : Op} {i : Nat} {a : Addr} : ∀ b, Yo g (opAt O i a) b → Yo g O b ∨ b = a := fun b y => by
  rcases y with z | ⟨j, z⟩
  · exact .inl (.inl z)
  · unfold opAt at z
    by_cases hj : j = i
    · rw [if_pos hj] at z; cases z; exact .inr rfl
    · rw [if_neg hj] at z; exact .inl (.inr ⟨j, z⟩)
theorem set_un_end {k : Kd} {g : Gh k} {O : Op} {ρ : Ev} {σ : L2.St} {H : Hp} {N : Nat} (hN : ρ.length ≤ N) (I : EnvOk g O (ρ.set N .un) σ H) : EnvOk g O ρ σ H := by
  rw [List.set_eq_of_length_le hN] at I
  exact I
section
variable {X : Cx} {k : Kd} {e elt iter tg : Expr} {ifs : List Expr} {m : Md} {E : XK} {st : Stmt} {is vs : List Nat} {fi : FI} {gd : FG} {ft : FT} {fe : FE} {i : Nat}
theorem comp_sem {wi : TI} (hv : ∀ i ∈ is, i ∈ vs)
    (qi : ∀ (g : Gh k) (O : Op) (ρ : Ev) (σ : L2.St) (H : Hp) (Q : List D → Prop) (R : It → Hp → Prop), EnvOk g O ρ σ H → fi ρ Q → (∀ J H1 ds, Stp k H H1 → Feeds (if false = true then Yo g O else g.Z) (Yo g O) ds H1 J → Q ds → R J H1) → wi σ H R)
    (g : Gh k) (O : Op) (ρ : Ev) (σ : L2.St) (H : Hp) (Q : D → Prop) (R : VK) (I : EnvOk g O ρ σ H) (hf : fComp fi gd ft fe vs ρ Q) (w : ∀ v H' d, Stp k H H' → Res (Yo g O) g.Z H H' .nw v d → Q d → R v H') :
    tLc wi (canG k is gd) (canT k ft) (canE k .fz fe) vs σ H R := by
  refine qi g O ρ σ H _ _ I hf fun J H1 ds s f hq => ?_
  have I1 := I.step s
  intro A hA
  have Iw := I1.wiped vs
  obtain ⟨nb, hb⟩ := I1.bnd
  obtain ⟨N, hN, hON⟩ : ∃ N, (wipeE ρ vs).length ≤ N ∧ O N = none := ⟨nb + (wipeE ρ vs).length, by omega, hb _ (by omega)⟩
  have Io : EnvOk g (opAt O N A) (wipeE ρ vs) (wipe σ vs) (upd H1 A (.lst [])) := set_un_end hN (Iw.open (Stp.new hA) hA (by rw [upd_same]; intro z; cases z))
  refine ⟨fun i n H' => n = ds.length - i ∧ i ≤ ds.length ∧ ∃ acc xs, H' A = some (.lst xs) ∧ IsAll (Yo g (opAt O N A)) H' xs acc ∧ (∀ a o, ¬ k.Vo a → H1 a = some o → H' a = some o) ∧ (∀ a, H' a = none → H1 a = none) ∧
    EnvOk g (opAt O N A) (wipeE ρ vs) (wipe σ vs) H' ∧ compD gd ft fe (ds.drop i) (wipeE ρ vs) acc Q,
    ⟨ds.length, by simp, Nat.zero_le _, [], [], upd_same, rfl, fun a o _ e => same_new hA a o e, fun a z => (same_new hA).free z, Io, hq⟩, ?_⟩
  rintro i n H' ⟨rfl, hi, acc, xs, hx, hacc, kp, dm, I', hq'⟩
  obtain ⟨fs, fg⟩ := f i H' (fun a o n e => kp a o (fun z => n (g.vz a z)) e)
  by_cases hlt : i < ds.length
  · obtain ⟨go, yl⟩ := fg ds[i] (List.getElem?_eq_getElem hlt)
    rw [List.drop_eq_getElem_cons hlt] at hq'
    refine .inr ⟨go, fun H'' => ∃ acc xs, H'' A = some (.lst xs) ∧ IsAll (Yo g (opAt O N A)) H'' xs acc ∧ (∀ a o, ¬ k.Vo a → H1 a = some o → H'' a = some o) ∧ (∀ a, H'' a = none → H1 a = none) ∧
      EnvOk g (opAt O N A) (wipeE ρ vs) (wipe σ vs) H'' ∧ compD gd ft fe (ds.drop (i + 1)) (wipeE ρ vs) acc Q, fun H'' h => ⟨ds.length - (i + 1), by omega, rfl, hlt, h⟩, fun x H2 y => ?_⟩
    obtain ⟨sm, iv⟩ := yl x H2 y
    have sx : Stp k H' H2 := Stp.same sm
    have I2 := I'.step sx
    have nA : ¬ k.Vo A := fun z => I1.zdom A (g.vz A z) hA
    refine ⟨g, _, _, ds[i], _, I2, iv _ (fun a y => (yo_at a y).elim .inl fun z => .inr (z ▸ hA)) (fun a y => I'.ydom a y), hq', fun ρ3 σ3 I3 w3 h3 => ⟨(w3 vs hv).trans (wipe_wipe vs σ), g, _, ρ3, _, I3, h3, fun b H3 s3 h4 => ?_⟩⟩
    have s13 := sx.trans s3
    have fin : ∀ {H4 : Hp}, Stp k H' H4 → (∀ a o, ¬ k.Vo a → H1 a = some o → H4 a = some o) ∧ (∀ a, H4 a = none → H1 a = none) ∧ EnvOk g (opAt O N A) (wipeE ρ vs) (wipe σ vs) H4 := fun {H4} s4 => ⟨fun a o n e => s4.kp a o n (kp a o n e), fun a z => dm a (s4.dm a z), I'.step s4⟩
    cases b with
    | false =>
      refine iteF ?_
      obtain ⟨f1, f2, f3⟩ := fin s13
      exact ⟨acc, xs, s13.kp A _ nA hx, IsAll.mono (fun _ y => y) (s13.kps g _) _ _ hacc, f1, f2, f3, by simpa using h4⟩
    | true =>
      refine iteT ⟨g, _, ρ3, _, I3.step s3, by simpa using h4, fun v H4 d s4 r4 h5 => ?_⟩
      have s14 := s13.trans s4
      obtain ⟨f1, f2, f3⟩ := fin s14
      have hA4 := s14.kp A _ nA hx
      have hacc4 := IsAll.mono (fun _ y => y) (s14.kps g _) _ _ hacc
      have hd : Is (Yo g (opAt O N A)) H4 v d := r4
      have kpu : Kps (Yo g (opAt O N A)) H4 (upd H4 A (.lst (xs ++ [v]))) := Kps.of fun b u n e => by
        rw [upd_ne (fun z => n (.inr ⟨N, by rw [z]; exact opAt_self O _ A⟩))]; exact e
      refine ⟨xs, hA4, by rw [hacc4.length]; exact h5.1, acc ++ [d], xs ++ [v], upd_same, IsAll.mono (fun _ y => y) kpu _ _ (hacc4.append (IsAll.one hd)), fun a o n e => ?_, fun a z => ?_, ?_, h5.2⟩
      · rw [upd_ne (fun z => by rw [z, hA] at e; cases e)]; exact f1 a o n e
      · by_cases hz : a = A
        · rw [hz]; exact hA
        · rw [upd_ne hz] at z; exact f2 a z
      · exact set_un_end hN (f3.write (opAt_self O _ A) (fun _ _ _ _ => trivial))
  · have e : i = ds.length := by omega
    rw [e, List.drop_length] at hq'
    refine .inl ⟨fs (by omega), w _ H' (.list acc) (s.trans ⟨kp, dm, fun _ => I'.pl⟩) ⟨A, xs, acc, rfl, rfl, s.dm A hA, hx, IsAll.mono (fun b y => ?_) (Kps.refl _ _) _ _ hacc⟩ hq'⟩
    rcases y with y | y
    · rcases y with y | ⟨j, y⟩
      · exact .inl y
      · refine .inr ⟨j, ?_⟩
        unfold opAt
        rw [if_neg (fun z => by rw [z, hON] at y; cases y)]
        exact y
    · exact .inr ⟨N, by rw [y]; exact opAt_self O _ A⟩
theorem de_comp (hv : ∀ i ∈ is, i ∈ vs) (hi : DI X k false tg iter fi) {XB : Shared → Hp → Addr → List (Str × Addr) → List Addr → Cx}
    (hg : ∀ s H C cl fp, DG (XB s H C cl fp) k tg is gd) (ht : ∀ s H C cl fp, DTs (XB s H C cl fp) k ifs ft) (he : ∀ s H C cl fp, DE (XB s H C cl fp) k .fz elt fe)
    (hp : ∀ wi g tt te, PI X tg iter wi → (∀ s H C cl fp, PG (XB s H C cl fp) tg g) → (∀ s H C cl fp, PTs (XB s H C cl fp) ifs tt) → (∀ s H C cl fp, PE (XB s H C cl fp) elt te) → PE X e (tLc wi g tt te vs)) : DE X k .nw e (fComp fi gd ft fe vs) := by
  obtain ⟨wi, pi, qi⟩ := hi
  exact ⟨_, hp _ _ _ _ pi (fun s H C cl fp => (hg s H C cl fp).can) ht (fun s H C cl fp => (he s H C cl fp).can), comp_sem hv qi⟩
/-- y = [..] on one line -/
theorem ds_asgC (hv : ∀ i ∈ is, i ∈ vs) (hi : DI X k false tg iter fi) {XB : Shared → Hp → Addr → List (Str × Addr) → List Addr → Cx}
    (hg : ∀ s H C cl fp, DG (XB s H C cl fp) k tg is gd) (ht : ∀ s H C cl fp, DTs (XB s H C cl fp) k ifs ft) (he : ∀ s H C cl fp, DE (XB s H C cl fp) k .fz elt fe)
    (hp : ∀ wi g tt te, PI X tg iter wi → (∀ s H C cl fp, PG (XB s H C cl fp) tg g) → (∀ s H C cl fp, PTs (XB s H C cl fp) ifs tt) → (∀ s H C cl fp, PE (XB s H C cl fp) elt te) → PS X st (tAsg (tLc wi g tt te vs) (gName i))) : DS X k m E st (fAsg i (fComp fi gd ft fe vs)) := by
  obtain ⟨wi, pi, qi⟩ := hi
  refine ⟨_, hp _ _ _ _ pi (fun s H C cl fp => (hg s H C cl fp).can) ht (fun s H C cl fp => (he s H C cl fp).can), fun g O ρ σ H DD Dn I L hf => ?_⟩
  refine comp_sem hv qi g O ρ σ H _ _ I hf fun v H' d s r hq => ?_
  exact L.nx O _ _ H' (s.o O) ((I.step s).putDat (Res.fz (m := .nw) (fun a => I.ydom a) (by intro z; cases z) r)) hq
theorem asgL_of {g : Gh k} {O : Op} {ρ : Ev} {σ : L2.St} {H H' : Hp} {DD : DEnds} {Dn : Ends} {v : V} {d : D} (I : EnvOk g O ρ σ H) (L : Lk m g O H E DD Dn) (s : Stp k H H') (r : Res (Yo g O) g.Z H H' .nw v d) (hq : oL d fun ds => DD.nx (ρ.set i (.opl ds))) : Dn.nx (σ.set i (some v)) H' := by
  obtain ⟨x, xs, ds, rfl, rfl, hn, hx, q⟩ := r
  have I1 := I.open (i := i) s hn (by rw [hx]; intro z; cases z)
  refine L.nx _ _ _ H' (StpO.open (i := i) s hn) ?_ hq
  have I2 := I1.put (i := i) (.opl ds) (some (.ref x)) fun _ => ⟨x, xs, opAt_self O i x, rfl, hx, IsAll.mono (fun z y => yo_at z y) (Kps.refl _ _) _ _ q⟩
  rw [set_set] at I2; exact I2
theorem ds_asgCL (hv : ∀ i ∈ is, i ∈ vs) (hi : DI X k false tg iter fi) {XB : Shared → Hp → Addr → List (Str × Addr) → List Addr → Cx}
    (hg : ∀ s H C cl fp, DG (XB s H C cl fp) k tg is gd) (ht : ∀ s H C cl fp, DTs (XB s H C cl fp) k ifs ft) (he : ∀ s H C cl fp, DE (XB s H C cl fp) k .fz elt fe)
    (hp : ∀ wi g tt te, PI X tg iter wi → (∀ s H C cl fp, PG (XB s H C cl fp) tg g) → (∀ s H C cl fp, PTs (XB s H C cl fp) ifs tt) → (∀ s H C cl fp, PE (XB s H C cl fp) elt te) → PS X st (tAsg (tLc wi g tt te vs) (gName i))) : DS X k m E st (fAsgL i (fComp fi gd ft fe vs)) := by
  obtain ⟨wi, pi, qi⟩ := hi
  refine ⟨_, hp _ _ _ _ pi (fun s H C cl fp => (hg s H C cl fp).can) ht (fun s H C cl fp => (he s H C cl fp).can), fun g O ρ σ H DD Dn I L hf => ?_⟩
  refine comp_sem hv qi g O ρ σ H _ _ I hf fun v H' d s r hq => ?_
  exact asgL_of I L s r hq
end
end L3

/-! L3k: what is open is changed; isinstance. -/
namespace L3
open PySem PySem.Spec L2
section
variable {k : Kd} {g : Gh k} {O : Op} {ρ : Ev} {σ : L2.St} {H H' : Hp} {i : Nat} {a : Addr}
theorem kps_upd {o : HO} (I : EnvOk g O ρ σ H) (ha : O i = some a) : Kps (Yo g O) H (upd H a o) := Kps.of fun b u n e => by
  rw [upd_ne (fun z => n (.inr ⟨i, by rw [z]; exact ha⟩))]; exact e
theorem EnvOk.setOpl {ds' : List D} {xs' : List V} (I : EnvOk g O ρ σ H) (ha : O i = some a) (hs : σ[i]? = some (some (.ref a))) (h : IsAll (Yo g O) H xs' ds') : EnvOk g O (ρ.set i (.opl ds')) σ (upd H a (.lst xs')) := by
  refine (I.write (o := .lst xs') ha fun _ _ _ _ => trivial).fill (t := .un) fun x e => ?_
  rw [hs] at e
  cases e
  exact ⟨a, xs', ha, rfl, upd_same, IsAll.mono (fun _ y => y) (kps_upd I ha) _ _ h⟩
theorem EnvOk.setOpd {es' : List (D × D)} {kvs' : List (Key × V)} (I : EnvOk g O ρ σ H) (ha : O i = some a) (hs : σ[i]? = some (some (.ref a))) (h : IsKV (Yo g O) H kvs' es') : EnvOk g O (ρ.set i (.opd es')) σ (upd H a (.dK kvs')) := by
  refine (I.write (o := .dK kvs') ha fun _ _ _ _ => trivial).fill (t := .un) fun x e => ?_
  rw [hs] at e
  cases e
  exact ⟨a, ha, rfl, .inl ⟨kvs', upd_same, IsKV.mono (fun _ y => y) (kps_upd I ha) _ _ h⟩⟩
end
section
variable {X : Cx} {k : Kd} {a b c e : Expr} {fa fb fc : FE} {m m1 m2 m3 : Md} {pos : Pos} {E : XK} {st : Stmt} {i j : Nat}
/-! ### x.append(e), x.extend(e) -/
def onL (i : Nat) (ρ : Ev) (Q : List D → Prop) : Prop := match ρ[i]? with
  | some (.opl ds) => Q ds
  | _ => False
def onD (i : Nat) (ρ : Ev) (Q : List (D × D) → Prop) : Prop := match ρ[i]? with
  | some (.opd es) => Q es
  | _ => False
theorem onL_of {i : Nat} {ρ : Ev} {Q : List D → Prop} (h : onL i ρ Q) : ∃ ds, ρ[i]? = some (.opl ds) ∧ Q ds := by
  unfold onL at h
  split at h
  · rename_i ds e; exact ⟨ds, e, h⟩
  · exact h.elim
theorem onD_of {i : Nat} {ρ : Ev} {Q : List (D × D) → Prop} (h : onD i ρ Q) : ∃ ds, ρ[i]? = some (.opd ds) ∧ Q ds := by
  unfold onD at h
  split at h
  · rename_i ds e; exact ⟨ds, e, h⟩
  · exact h.elim
def fApp (i : Nat) (fa : FE) : FS := fun DD ρ => onL i ρ fun ds => fa ρ fun d => ds.length < sizeLine ∧ DD.nx (ρ.set i (.opl (ds ++ [d])))
theorem ds_app (ha : DE X k .fz e fa) (hp : ∀ te, PE X e te → PS X st (tDrop (tBM X.K "list" rAppend (tVar i) (tCons te tNil)))) : DS X k m E st (fApp i fa) := by
  obtain ⟨t, p, q⟩ := ha
  refine ⟨_, hp t p, fun g O ρ σ H DD Dn I L hf => ?_⟩
  obtain ⟨ds, er, hf⟩ := onL_of hf
  obtain ⟨x, xs, e1, e2, e3, e4⟩ := I.sl i _ er
  refine ⟨_, e2, .inl ⟨rfl, xs, SqL.of e3⟩, q g O ρ σ H _ _ I hf fun v H' d s r hq => ?_⟩
  have I1 := I.step s
  have e3' : H' x = some (.lst xs) := s.kp x _ (fun z => (I.opn i x e1).1 (g.vz x z)) e3
  have e4' := IsAll.mono (fun _ y => y) (s.kps g O) _ _ e4
  refine ⟨x, xs, v, rfl, rfl, e3', by rw [e4'.length]; exact hq.1, ?_⟩
  exact L.nx O _ σ _ ((s.o O).trans (StpO.write e1)) (I1.setOpl e1 e2 (e4'.append (IsAll.one r))) hq.2
def oEx : D → (List D → Prop) → Prop
  | .list ds, Q => Q ds
  | _, _ => False
def fExt (i : Nat) (fa : FE) : FS := fun DD ρ => onL i ρ fun ds => fa ρ fun d => oEx d fun es => ds.length + es.length ≤ sizeLine ∧ DD.nx (ρ.set i (.opl (ds ++ es)))
theorem ds_ext (ha : DE X k m1 e fa) (hp : ∀ te, PE X e te → PS X st (tDrop (tBM X.K "list" rExtend (tVar i) (tCons te tNil)))) : DS X k m E st (fExt i fa) := by
  obtain ⟨t, p, q⟩ := ha.sh
  refine ⟨_, hp t p, fun g O ρ σ H DD Dn I L hf => ?_⟩
  obtain ⟨ds, er, hf⟩ := onL_of hf
  obtain ⟨x, xs, e1, e2, e3, e4⟩ := I.sl i _ er
  refine ⟨_, e2, .inl ⟨rfl, xs, SqL.of e3⟩, q g O ρ σ H _ _ I hf fun v H' d s r hq => ?_⟩
  cases d <;> try exact (show False from hq).elim
  rename_i es
  have I1 := I.step s
  have e3' : H' x = some (.lst xs) := s.kp x _ (fun z => (I.opn i x e1).1 (g.vz x z)) e3
  have e4' := IsAll.mono (fun _ y => y) (s.kps g O) _ _ e4
  obtain ⟨z, zs, rfl, nz, hz, qz⟩ := r
  refine ⟨x, z, xs, zs, rfl, rfl, e3', hz, by rw [e4'.length, qz.length]; exact hq.1, ?_⟩
  exact L.nx O _ σ _ ((s.o O).trans (StpO.write e1)) (I1.setOpl e1 e2 (e4'.append qz)) hq.2
/-! ### x[k] = e -/
def fSetL (i : Nat) (fi fv : FE) : FS := fun DD ρ => fv ρ fun d => onL i ρ fun ds => fi ρ fun n => match n with
  | .int z => ∃ j, ixN ds.length z = some j ∧ DD.nx (ρ.set i (.opl (ds.set j d)))
  | _ => False
theorem ds_setL (hi : DE X k m1 a fa) (hv : DE X k .fz e fb) (hp : ∀ ti tv, PE X a ti → PE X e tv → PS X st (tAsg tv (gSub (tVar i) ti rSetL))) : DS X k m E st (fSetL i fa fb) := by
  obtain ⟨ti, pi, qi⟩ := hi.sh
  obtain ⟨tv, pv, qv⟩ := hv
  refine ⟨_, hp _ _ pi pv, fun g O ρ σ H DD Dn I L hf => ?_⟩
  refine qv g O ρ σ H _ _ I hf fun v H1 d s1 r1 hq => ?_
  have I1 := I.step s1
  obtain ⟨ds, er, hq⟩ := onL_of hq
  obtain ⟨x, xs, e1, e2, e3, e4⟩ := I1.sl i _ er
  refine ⟨_, e2, qi g O ρ σ H1 _ _ I1 hq fun y H2 dn s2 r2 hq => ?_⟩
  have I2 := I1.step s2
  cases dn <;> try exact (show False from hq).elim
  rename_i z
  cases (show y = _ from r2)
  obtain ⟨j, hj, hq⟩ := hq
  have e3' : H2 x = some (.lst xs) := s2.kp x _ (fun z => (I.opn i x e1).1 (g.vz x z)) e3
  have e4' := IsAll.mono (fun _ y => y) (s2.kps g O) _ _ e4
  have r1' : Is (Yo g O) H2 v d := Is.mono (fun _ y => y) (s2.kps g O) _ _ r1
  refine ⟨x, xs, z, j, rfl, rfl, e3', by rw [e4'.length]; exact hj, ?_⟩
  exact L.nx O _ σ _ (((s1.trans s2).o O).trans (StpO.write e1)) (I2.setOpl e1 e2 (e4'.set j r1')) hq
def fPut (i : Nat) (fi fv : FE) : FS := fun DD ρ => fv ρ fun d => onD i ρ fun es => fi ρ fun n => isKey n ∧ keysOk es ∧ es.length < sizeLine ∧ DD.nx (ρ.set i (.opd (putD es n d)))
theorem ds_put (hi : DE X k m1 a fa) (hv : DE X k .fz e fb) (hp : ∀ ti tv, PE X a ti → PE X e tv → PS X st (sDPut (tVar i) ti tv)) : DS X k m E st (fPut i fa fb) := by
  obtain ⟨ti, pi, qi⟩ := hi.sh
  obtain ⟨tv, pv, qv⟩ := hv
  refine ⟨_, hp _ _ pi pv, fun g O ρ σ H DD Dn I L hf => ?_⟩
  refine qv g O ρ σ H _ _ I hf fun v H1 d s1 r1 hq => ?_
  have I1 := I.step s1
  obtain ⟨es, er, hq⟩ := onD_of hq
  obtain ⟨x, e1, e2, e3⟩ := I1.sl i _ er
  refine ⟨_, e2, qi g O ρ σ H1 _ _ I1 hq fun y H2 dn s2 r2 ⟨hk, ho, hl, hq⟩ => ?_⟩
  have I2 := I1.step s2
  obtain ⟨kvs, h3, kv⟩ := e3.key ho
  have h3' : H2 x = some (.dK kvs) := s2.kp x _ (fun z => (I.opn i x e1).1 (g.vz x z)) h3
  have kv' := IsKV.mono (fun _ y => y) (s2.kps g O) _ _ kv
  have r1' : Is (Yo g O) H2 v d := Is.mono (fun _ y => y) (s2.kps g O) _ _ r1
  obtain ⟨j, rfl⟩ := isKey_k hk
  have ey : y = kV j := by cases j <;> exact r2
  subst ey
  refine ⟨x, _, rfl, DPut.k h3' (by rw [kv'.length]; exact hl), ?_⟩
  exact L.nx O _ σ _ (((s1.trans s2).o O).trans (StpO.write e1)) (I2.setOpd e1 e2 (kv'.put r1')) hq
def fDel (i : Nat) (fi : FE) : FS := fun DD ρ => onD i ρ fun es => fi ρ fun n => isKey n ∧ keysOk es ∧ (lookD es n).isSome = true ∧ DD.nx (ρ.set i (.opd (dropD es n)))
theorem ds_del (hi : DE X k m1 a fa) (hp : ∀ ti, PE X a ti → PS X st (sDDel (tVar i) ti)) : DS X k m E st (fDel i fa) := by
  obtain ⟨ti, pi, qi⟩ := hi.sh
  refine ⟨_, hp _ pi, fun g O ρ σ H DD Dn I L hf => ?_⟩
  obtain ⟨es, er, hf⟩ := onD_of hf
  obtain ⟨x, e1, e2, e3⟩ := I.sl i _ er
  refine ⟨_, e2, qi g O ρ σ H _ _ I hf fun y H2 dn s2 r2 ⟨hk, ho, hl, hq⟩ => ?_⟩
  have I2 := I.step s2
  obtain ⟨kvs, h3, kv⟩ := e3.key ho
  have h3' : H2 x = some (.dK kvs) := s2.kp x _ (fun z => (I.opn i x e1).1 (g.vz x z)) h3
  have kv' := IsKV.mono (fun _ y => y) (s2.kps g O) _ _ kv
  obtain ⟨j, rfl⟩ := isKey_k hk
  have ey : y = kV j := by cases j <;> exact r2
  subst ey
  refine ⟨x, kvs, j, rfl, h3', rfl, by rw [kv'.isSome]; exact hl, ?_⟩
  exact L.nx O _ σ _ ((s2.o O).trans (StpO.write e1)) (I2.setOpd e1 e2 kv'.drop) hq
/-! ### y = x.pop() -/
def fPop (i j : Nat) : FS := fun DD ρ => onL i ρ fun ds => ∃ d, ds[ds.length - 1]? = some d ∧ DD.nx ((ρ.set i (.opl ds.dropLast)).set j (.dat d))
theorem IsAll.dropLast {Y : Addr → Prop} {H : Hp} {ds : List D} {vs : List V} (h : IsAll Y H vs ds) : IsAll Y H vs.dropLast ds.dropLast := by
  rw [List.dropLast_eq_take, List.dropLast_eq_take, h.length]
  exact h.take _
theorem ds_pop (hij : i ≠ j) (hp : PS X st (tAsg (tBM0 X.K "list" rPop (tVar i)) (gName j))) : DS X k m E st (fPop i j) := by
  refine ⟨_, hp, fun g O ρ σ H DD Dn I L hf => ?_⟩
  obtain ⟨ds, er, d, hd, hf⟩ := onL_of hf
  obtain ⟨x, xs, e1, e2, e3, e4⟩ := I.sl i _ er
  obtain ⟨y, hy, iy⟩ := e4.get hd
  refine ⟨_, e2, .inl ⟨rfl, xs, SqL.of e3⟩, x, xs, y, rfl, rfl, e3, by rw [e4.length]; exact hy, ?_⟩
  have I1 := I.setOpl e1 e2 e4.dropLast
  exact L.nx O _ _ _ (StpO.write e1) (I1.putDat (Is.mono (fun _ y => y) (kps_upd I e1) _ _ iy)) hf
/-! ### x += e -/
def fAug (i : Nat) (o : Int → Int → Int) (fa : FE) : FS := fun DD ρ => match ρ[i]? with
  | some (.dat (.int x)) => fa ρ fun d => match d with
    | .int y => DD.nx (ρ.set i (.dat (.int (o x y))))
    | _ => False
  | _ => False
theorem ds_aug {o : Int → Int → Int} (ha : DE X k m1 e fa) (hp : ∀ te, PE X e te → PS X st (tAug i te (ipI o))) : DS X k m E st (fAug i o fa) := by
  obtain ⟨t, p, q⟩ := ha.sh
  refine ⟨_, hp t p, fun g O ρ σ H DD Dn I L hf => ?_⟩
  unfold fAug at hf
  split at hf
  · rename_i x er
    obtain ⟨v, e2, hv⟩ := I.sl i _ er
    cases (show v = _ from hv)
    refine ⟨_, e2, q g O ρ σ H _ _ I hf fun w H' d s r hq => ?_⟩
    cases d <;> try exact (show False from hq).elim
    cases (show w = _ from r)
    exact ⟨_, _, rfl, rfl, L.nx O _ _ H' (s.o O) ((I.step s).putDat (d := .int _) rfl) hq⟩
  · exact hf.elim
/-! ### {} -/
def fDn : FE := fun _ Q => Q (.dict [])
theorem de_dn : DE X k .nd (.Dict [] [] pos) fDn := ⟨_, pe_dnewK, fun g O ρ σ H Q R I hf w => fun d hd =>
  w _ _ (.dict []) (Stp.new hd) ⟨d, [], rfl, rfl, hd, .inl ⟨[], upd_same, rfl⟩⟩ hf⟩

/-! ### isinstance -/
def isTy : String → D → Bool
  | "dict", .dict _ => true
  | "list", .list _ => true
  | "tuple", .tuple _ => true
  | "str", .str _ => true
  | "int", .int _ => true
  | "int", .bool _ => true
  | "bool", .bool _ => true
  | _, _ => false
def isiOk : D → Prop
  | .dict es => keysOk es
  | _ => True
def fIsi (T : String) (fa : FE) : FE := fun ρ Q => fa ρ fun d => isiOk d ∧ Q (.bool (isTy T d))
theorem tyX_of {K : PySem.W.Frag} {Y Z : Addr → Prop} {H : Hp} {v : V} {d : D} (h : IsTp Y Z H v d) (ok : isiOk d) : ∃ S : String, TyX K H v (.type S) ∧ ((S = "NoneType" ∧ d = .none) ∨ (S = "bool" ∧ ∃ b, d = .bool b) ∨ (S = "int" ∧ ∃ b, d = .int b) ∨ (S = "str" ∧ ∃ b, d = .str b) ∨ (S = "list" ∧ ∃ b, d = .list b) ∨ (S = "tuple" ∧ ∃ b, d = .tuple b) ∨ (S = "dict" ∧ ∃ b, d = .dict b)) := by
  cases d with
  | none => cases (show v = _ from h); exact ⟨_, .base .non, .inl ⟨rfl, rfl⟩⟩
  | bool b => cases (show v = _ from h); exact ⟨_, .base (.bl b), .inr (.inl ⟨rfl, b, rfl⟩)⟩
  | int b => cases (show v = _ from h); exact ⟨_, .base (.int b), .inr (.inr (.inl ⟨rfl, b, rfl⟩))⟩
  | str b => cases (show v = _ from h); exact ⟨_, .base (.str b), .inr (.inr (.inr (.inl ⟨rfl, b, rfl⟩)))⟩
  | list ds => obtain ⟨p, xs, rfl, n, hp, q⟩ := h; exact ⟨_, .base (.lst hp), .inr (.inr (.inr (.inr (.inl ⟨rfl, _, rfl⟩))))⟩
  | tuple ds => obtain ⟨p, xs, rfl, n, hp, q⟩ := h; exact ⟨_, .base (.tup hp), .inr (.inr (.inr (.inr (.inr (.inl ⟨rfl, _, rfl⟩)))))⟩
  | dict es =>
    obtain ⟨p, rfl, n, h⟩ := h
    obtain ⟨kvs, rd, _⟩ := h.key ok
    refine ⟨"dict", ?_, .inr (.inr (.inr (.inr (.inr (.inr ⟨rfl, _, rfl⟩)))))⟩
    rcases rd with q | ⟨o, q⟩
    · exact .base (.dK q)
    · exact .fDict q
/-- the seven classes by the seven kinds, looked at once -/
theorem isi_tab {T S : String} {d : D} (hT : T = "dict" ∨ T = "list" ∨ T = "tuple" ∨ T = "str" ∨ T = "int" ∨ T = "bool") (h : (S = "NoneType" ∧ d = .none) ∨ (S = "bool" ∧ ∃ b, d = .bool b) ∨ (S = "int" ∧ ∃ b, d = .int b) ∨ (S = "str" ∧ ∃ b, d = .str b) ∨ (S = "list" ∧ ∃ b, d = .list b) ∨ (S = "tuple" ∧ ∃ b, d = .tuple b) ∨ (S = "dict" ∧ ∃ b, d = .dict b)) :
    kitB S T = some (isTy T d) := by
  rcases hT with rfl | rfl | rfl | rfl | rfl | rfl <;> rcases h with ⟨rfl, rfl⟩ | ⟨rfl, b, rfl⟩ | ⟨rfl, b, rfl⟩ | ⟨rfl, b, rfl⟩ | ⟨rfl, b, rfl⟩ | ⟨rfl, b, rfl⟩ | ⟨rfl, b, rfl⟩ <;>
    first
    | (refine Eq.trans (b := some true) ?_ (congrArg some (show true = isTy _ _ from rfl)); decide +kernel)
    | (refine Eq.trans (b := some false) ?_ (congrArg some (show false = isTy _ _ from rfl)); decide +kernel)
theorem de_isi {T : String} {call : Expr} (hT : T = "dict" ∨ T = "list" ∨ T = "tuple" ∨ T = "str" ∨ T = "int" ∨ T = "bool") (ha : DE X k m e fa) (hp : ∀ te, PE X e te → PE X call (tCB (rIsi X.K) (tCons te (tCons (tC (.ty T)) tNil)))) : DE X k .fz call (fIsi T fa) := by
  obtain ⟨t, p, q⟩ := ha.sh
  refine ⟨_, hp t p, fun g O ρ σ H Q R I hf w => ?_⟩
  refine q g O ρ σ H _ _ I hf fun v H' d s r hq => ?_
  obtain ⟨S, tx, hS⟩ := tyX_of (K := X.K) r hq.1
  exact ⟨v, .ty T, _, _, _, rfl, .ty T, tx, kit_ty (isi_tab hT hS), w _ H' (.bool _) s rfl hq.2⟩
end
end L3

/-! L3l: a def keeps its promise; the pool of draws. -/
namespace L3
open PySem PySem.Spec L2
open PyProof.Rows (envOfC)
def endsOf (m : Md) (P : D → Prop) : DEnds := { nx := fun _ => m = .fz ∧ P .none, rt := P }
def startE (N : List Str) (ds : List D) : Ev := ds.map .dat ++ List.replicate (N.length - ds.length) .un
theorem start_ok {Y : Addr → Prop} {H : Hp} {k : Kd} {g : Gh k} {O : Op} : ∀ {ds : List D} {vs : List V}, (∀ i a, O i = some a → False) → IsAll Y H vs ds → (∀ a, g.Z a → Y a) → ∀ (n i : Nat) (s : Sl), (ds.map Sl.dat ++ List.replicate n .un)[i]? = some s → SlOk (Yo g O) H (O i) s (vs.map some ++ List.replicate n none)[i]? := fun {ds vs} ho h zy n i s e => by
  have hl := h.length
  by_cases hi : i < ds.length
  · rw [List.getElem?_append_left (by simpa using hi)] at e
    rw [List.getElem?_append_left (by simpa [hl] using hi)]
    rw [List.getElem?_map] at e ⊢
    rw [List.getElem?_eq_getElem hi] at e
    cases e
    obtain ⟨v, hv, iv⟩ := h.get (List.getElem?_eq_getElem hi)
    rw [hv]
    exact ⟨v, rfl, Is.mono (fun a y => y.elim (zy a) fun ⟨j, q⟩ => (ho j a q).elim) (Kps.refl _ _) _ _ iv⟩
  · rw [List.getElem?_append_right (by simpa using hi), List.getElem?_replicate] at e
    split at e
    · cases e; trivial
    · cases e
theorem fn_ok {P : Program} {w : World} {K : PySem.W.Frag} {mg : Str → Option Value} {base : Heap} {x qual : Str} {st : Stmt} {f : Addr} {fd : FuncData} {N ps : List Str} {n : Nat} {m : Md} {o : List D → (D → Prop) → Prop} {FB : FS} (F : Fun K x qual st f fd) (S : FnScope N ps (defScope st))
    (len : ∀ ds P, o ds P → ds.length = ps.length)
    (hbody : ∀ (cdv : Value) (A : Around) (outer : List Env) (s : Shared) (H : Hp) (E : XK), Room n (A.deeper (envOfC qual (defScope st) s.heap.objs.size f cdv)) → DSs (cxOf CX0 P w K mg base N qual (defScope st) f cdv A outer s H E).nox k0 m (fun _ _ _ => False) (defBody st) FB)
    (spec : ∀ ds P, o ds P → FB (endsOf m P) (startE N ds)) : FnOk P w K mg base CX0 (n + 1) f fd ps (spM m o) := by
  refine F.ok S (fun vs H Q E ⟨Y, ds, P, _, h, ho, _⟩ => by rw [h.length]; exact len ds P ho) (fun cdv A outer s H vs Q E hr ⟨Y, ds, P', dm, h, ho, w⟩ => ?_)
  obtain ⟨t, p, q⟩ := hbody cdv A outer s H E hr
  refine ⟨t, p, ?_⟩
  have hl := h.length
  refine q ⟨Y, H, fun a z => z.elim⟩ (fun _ => none) (startE N ds) (start N vs) H (endsOf m P') _ ⟨?_, fun i j a e => (by cases e), fun i a e => (by cases e), dm, fun a e => e, fun a o _ e => e, trivial, ⟨0, fun _ _ => rfl⟩, ?_⟩ ⟨?_, ?_, ?_, ?_, fun c dd H' d x => x.res.elim⟩ (spec ds P' ho)
  · show (vs.map some ++ List.replicate (N.length - vs.length) none).length = (ds.map Sl.dat ++ List.replicate (N.length - ds.length) Sl.un).length
    simp [hl]
  · intro i s e
    have := start_ok (g := (⟨Y, H, fun a z => z.elim⟩ : Gh k0)) (O := fun _ => none) (fun i a e => by cases e) h (fun _ y => y) (N.length - ds.length) i s e
    rw [← hl] at this
    exact this
  · intro O' ρ' σ' H' s I' hq
    refine w _ H' .none (fun a o e => I'.base a o (fun z => z) e) ?_ hq.2
    rw [hq.1]; rfl
  · intro O' ρ' σ' H' s I' hq; exact hq.elim
  · intro O' ρ' σ' H' s I' hq; exact hq.elim
  · intro v H' d r hq
    exact w v H' d (fun a o e => r.base a o (fun z => z) e) r.res hq

/-! ### the pool -/
def poolPl (K : PySem.W.Frag) (p sa : Addr) (ns : List Int) (H : Hp) : Prop := (∃ i r f : Int, H p = some (.lst [.ref sa, .int i, .int r, .int f])) ∧ SqL K H sa (ns.map V.int) ∧ ns.length ≤ 63
/-- the script stands in the written part -/
def inK (K : PySem.W.Frag) (sa : Addr) (xs : List V) : Prop := ∃ (o : Obj) (its : Array Value) (n : Nat), K.lookup sa = some o ∧ o.cls = .type "list" ∧ o.dict = none ∧ o.data = .seq its n ∧ its.size ≤ sizeLine ∧ Vals xs its.toList
def kP (K : PySem.W.Frag) (p sa : Addr) (ns : List Int) : Kd where
  Vo := fun a => a = p ∨ (a = sa ∧ ¬ inK K sa (ns.map V.int))
  Pl := poolPl K p sa ns
  pk := fun H H' h ⟨⟨i, r, f, e⟩, hs, hl⟩ => ⟨⟨i, r, f, h p _ (.inl rfl) e⟩, by
    by_cases q : inK K sa (ns.map V.int)
    · exact .inr q
    · rcases hs with (hs | ⟨o, hs⟩) | hs
      · exact .inl (.inl (h sa _ (.inr ⟨rfl, q⟩) hs))
      · exact .inl (.inr ⟨o, h sa _ (.inr ⟨rfl, q⟩) hs⟩)
      · exact (q hs).elim, hl⟩
theorem pool_ne {K : PySem.W.Frag} {p sa : Addr} {ns : List Int} {H : Hp} (h : poolPl K p sa ns H) (q : ¬ inK K sa (ns.map V.int)) : sa ≠ p := by
  obtain ⟨⟨i, r, f, e⟩, hs, hl⟩ := h
  intro z
  subst z
  rcases hs with (hs | ⟨o, hs⟩) | hs
  · rw [e] at hs
    have e2 : [V.ref sa, .int i, .int r, .int f] = ns.map V.int := by injection hs with hs; injection hs
    cases ns with
    | nil => cases e2
    | cons n t => rw [List.map_cons] at e2; injection e2 with e3 _; cases e3
  · rw [e] at hs; cases hs
  · exact q hs
/-- the pool's numbers are written -/
theorem pool_step {K : PySem.W.Frag} {p sa : Addr} {ns : List Int} {H H' : Hp} {i r f : Int} (h : poolPl K p sa ns H) (k : Same H H') : Stp (kP K p sa ns) H (upd H' p (.lst [.ref sa, .int i, .int r, .int f])) where
  kp := fun a o n e => by
    rw [upd_ne (fun z => n (.inl z))]
    exact k a o e
  dm := fun a e => by
    by_cases q : a = p
    · rw [q, upd_same] at e; cases e
    · rw [upd_ne q] at e; exact k.free e
  pl := fun h => by
    refine ⟨⟨i, r, f, upd_same⟩, ?_, h.2.2⟩
    by_cases q : inK K sa (ns.map V.int)
    · exact .inr q
    · have ne := pool_ne h q
      rcases h.2.1 with (hs | ⟨o, hs⟩) | hs
      · exact .inl (.inl (by rw [upd_ne ne]; exact k _ _ hs))
      · exact .inl (.inr ⟨o, by rw [upd_ne ne]; exact k _ _ hs⟩)
      · exact (q hs).elim
/-- _law_rest: some int -/
def spRest (K : PySem.W.Frag) : Sp := fun vs H Q _ => ∃ (sa : Addr) (ns : List Int) (a b : Int), vs = [.ref sa, .int a, .int b] ∧ SqL K H sa (ns.map V.int) ∧ ns.length ≤ 63 ∧ ∀ r H', Same H H' → Q (.int r) H'
def spPool (K : PySem.W.Frag) : Sp := fun vs H Q _ => ∃ (sa : Addr) (ns : List Int), vs = [.ref sa] ∧ SqL K H sa (ns.map V.int) ∧ ns.length ≤ 63 ∧
  ∀ p r H', Same H H' → H p = none → H' p = some (.lst [.ref sa, .int 0, .int r, .int 0]) → Q (.ref p) H'
def spNext (K : PySem.W.Frag) : Sp := fun vs H Q _ => ∃ (p sa : Addr) (ns : List Int), vs = [.ref p] ∧ poolPl K p sa ns H ∧ ∀ H', Stp (kP K p sa ns) H H' → Q .non H'
def spDraw (K : PySem.W.Frag) : Sp := fun vs H Q _ => ∃ (p sa : Addr) (ns : List Int) (l : Int), vs = [.ref p, .int l] ∧ poolPl K p sa ns H ∧ 0 < l ∧ l.natAbs < 2 ^ 4000 ∧ ∀ v H', 0 ≤ v → v < l → Stp (kP K p sa ns) H H' → Q (.int v) H'
/-- some item -/
def spPick (K : PySem.W.Frag) : Sp := fun vs H Q _ => ∃ (p sa a : Addr) (ns : List Int) (xs : List V), vs = [.ref p, .ref a] ∧ poolPl K p sa ns H ∧ ¬ (kP K p sa ns).Vo a ∧ (H a = some (.lst xs) ∨ H a = some (.tup xs)) ∧ 0 < xs.length ∧ xs.length ≤ sizeLine ∧
  ∀ v H', v ∈ xs → Stp (kP K p sa ns) H H' → Q v H'
/-- a def of the law that draws: its first argument is the pool -/
def spP (K : PySem.W.Frag) (m : Md) (o : List D → (D → Prop) → Prop) : Sp := fun vs H Q _ => ∃ (p sa : Addr) (ns : List Int) (Y : Addr → Prop) (us : List V) (ds : List D) (P : D → Prop), vs = .ref p :: us ∧ poolPl K p sa ns H ∧ (∀ a, (kP K p sa ns).Vo a → Y a) ∧ (∀ a, Y a → H a ≠ none) ∧ IsAll Y H us ds ∧ o ds P ∧
  ∀ v H' d, Stp (kP K p sa ns) H H' → Res Y Y H H' m v d → P d → Q v H'
def startP (N : List Str) (p : Addr) (ds : List D) : Ev := .raw (.ref p) :: (ds.map .dat ++ List.replicate (N.length - (ds.length + 1)) .un)
theorem fn_okP {P : Program} {w : World} {K : PySem.W.Frag} {mg : Str → Option Value} {base : Heap} {x qual : Str} {st : Stmt} {f : Addr} {fd : FuncData} {N ps : List Str} {n : Nat} {m : Md} {o : List D → (D → Prop) → Prop} {FB : Addr → FS} (F : Fun K x qual st f fd) (S : FnScope N ps (defScope st))
    (len : ∀ ds P, o ds P → ds.length + 1 = ps.length)
    (hbody : ∀ (p sa : Addr) (ns : List Int) (cdv : Value) (A : Around) (outer : List Env) (s : Shared) (H : Hp) (E : XK), Room n (A.deeper (envOfC qual (defScope st) s.heap.objs.size f cdv)) → DSs (cxOf CX0 P w K mg base N qual (defScope st) f cdv A outer s H E).nox (kP K p sa ns) m (fun _ _ _ => False) (defBody st) (FB p))
    (spec : ∀ p ds P, o ds P → FB p (endsOf m P) (startP N p ds)) : FnOk P w K mg base CX0 (n + 1) f fd ps (spP K m o) := by
  refine F.ok S (fun vs H Q E ⟨p, sa, ns, Y, us, ds, P, ev, _, _, _, h, ho, _⟩ => by rw [ev, List.length_cons, h.length]; exact len ds P ho) (fun cdv A outer s H vs Q E hr ⟨p, sa, ns, Y, us, ds, P', ev, hp, vy, dm, h, ho, w⟩ => ?_)
  subst ev
  obtain ⟨t, pt, q⟩ := hbody p sa ns cdv A outer s H E hr
  refine ⟨t, pt, ?_⟩
  have hl := h.length
  refine q ⟨Y, H, vy⟩ (fun _ => none) (startP N p ds) (start N (.ref p :: us)) H (endsOf m P') _ ⟨?_, fun i j a e => (by cases e), fun i a e => (by cases e), dm, fun a e => e, fun a o _ e => e, hp, ⟨0, fun _ _ => rfl⟩, ?_⟩ ⟨?_, ?_, ?_, ?_, fun c dd H' d x => x.res.elim⟩ (spec p ds P' ho)
  · show ((V.ref p :: us).map some ++ List.replicate (N.length - (V.ref p :: us).length) none).length = (Sl.raw (.ref p) :: (ds.map Sl.dat ++ List.replicate (N.length - (ds.length + 1)) Sl.un)).length
    simp [hl]
  · intro i s e
    cases i with
    | zero => cases e; rfl
    | succ i =>
      have := start_ok (g := (⟨Y, H, vy⟩ : Gh (kP K p sa ns))) (O := fun _ => none) (fun i a e => by cases e) h (fun _ y => y) (N.length - (ds.length + 1)) i s e
      rw [← hl] at this
      exact this
  · intro O' ρ' σ' H' s I' hq
    refine w _ H' .none ⟨I'.base, fun a e => I'.dom a e, fun _ => I'.pl⟩ ?_ hq.2
    rw [hq.1]; rfl
  · intro O' ρ' σ' H' s I' hq; exact hq.elim
  · intro O' ρ' σ' H' s I' hq; exact hq.elim
  · intro v H' d r hq
    exact w v H' d ⟨r.base, r.dom, fun _ => r.pl⟩ r.res hq
end L3

/-! L3m: the rules by the form of the text. -/
namespace L3
open PySem PySem.Spec L2
open PyProof.Rows (envOfC)
/-- a def that is called by its name -/
def Ok (P : Program) (w : World) (K : PySem.W.Frag) (mg : Str → Option Value) (base : Heap) (n : Nat) (x : Str) (ps : List Str) (sp : Sp) : Prop :=
  ∃ (a : Addr) (fd : FuncData), mg x = some (.ref a) ∧ PySem.W.keepIn K (.ref a) = true ∧ Binds K fd ps [] ∧ FnOk P w K mg base CX0 n a fd ps sp
section
variable {X : Cx} {k : Kd} {a b c e : Expr} {fa fb fc : FE} {m m1 m2 m3 : Md} {pos pos' apos cpos p : Pos} {E : XK} {x : Str} {es : List Expr} {fr : FA} {n : Nat} {ps : List Str}
theorem v (i : Nat) (hN : X.N[i]? = some x := by rfl) (hv : Vis X.env.scope x := by first | exact Or.inl rfl | exact Or.inr (Or.inl rfl) | exact Or.inr (Or.inr rfl)) (hd : (x == ("__debug__" : Str)) = false := by decide)
    (hcd : (x == ("__classdict__" : Str)) = false := by decide) : DE X k .fz (.Name x pos) (fV i) := de_v (pv i hN hv hd hcd)
theorem vs (i : Nat) (hN : X.N[i]? = some x := by rfl) (hv : Vis X.env.scope x := by first | exact Or.inl rfl | exact Or.inr (Or.inl rfl) | exact Or.inr (Or.inr rfl)) (hd : (x == ("__debug__" : Str)) = false := by decide)
    (hcd : (x == ("__classdict__" : Str)) = false := by decide) : DE X k .sh (.Name x pos) (fVs i) := de_vs (pv i hN hv hd hcd)
/-- calls -/
theorem call {o : List D → (D → Prop) → Prop} (F : Ok X.prog X.w X.K X.mg X.base n x ps (spM m o)) (hr : Room n X.A) (ha : DA X k true (c :: es) fr) (hg : Gl X x := by rfl) (hdb : (x == ("__debug__" : Str)) = false := by decide)
    (he : starEach (c :: es) X.env = (false, eval c X.env) :: starEach es X.env := by rfl) (hpl : (backTo pos (starEach es X.env)).any (·.1) = false := by rfl) : DE X k m (.Call (.Name x p) (c :: es) [] pos) (fCB o fr) := by
  obtain ⟨ad, fd, hm, hk, hb, F⟩ := F
  exact de_call F hr hm hk hb hg ha hdb he hpl
theorem callV {o : List D → (D → Prop) → Prop} (F : Ok X.prog X.w X.K X.mg X.base n x ps (spM m o)) (hr : Room n X.A) (ha : DA X k false (c :: es) fr) (hmd : m ≠ .sh := by intro z; cases z) (hg : Gl X x := by rfl) (hdb : (x == ("__debug__" : Str)) = false := by decide)
    (he : starEach (c :: es) X.env = (false, eval c X.env) :: starEach es X.env := by rfl) (hpl : (backTo pos (starEach es X.env)).any (·.1) = false := by rfl) : DE X k .fz (.Call (.Name x p) (c :: es) [] pos) (fCBf o fr) := by
  obtain ⟨ad, fd, hm, hk, hb, F⟩ := F
  exact de_callV F hr hm hk hb hg ha hmd hdb he hpl
/-- draws -/
def oDr : D → (D → Prop) → Prop
  | .int l, Q => 0 < l ∧ l.natAbs < 2 ^ 4000 ∧ ∀ v : Int, 0 ≤ v → v < l → Q (.int v)
  | _, _ => False
def fDraw (i : Nat) (pl : Addr) (fa : FE) : FE := fun ρ Q => ρ[i]? = some (.raw (.ref pl)) ∧ fa ρ fun d => oDr d Q
theorem draw {pl sa : Addr} {ns : List Int} {y : Str} {yp : Pos} (i : Nat) (F : Ok X.prog X.w X.K X.mg X.base n x ps (spDraw X.K)) (hr : Room n X.A) (ha : DE X (kP X.K pl sa ns) m1 e fa)
    (hN : X.N[i]? = some y := by rfl) (hv : Vis X.env.scope y := by first | exact Or.inl rfl | exact Or.inr (Or.inl rfl) | exact Or.inr (Or.inr rfl)) (hd : (y == ("__debug__" : Str)) = false := by decide) (hcd : (y == ("__classdict__" : Str)) = false := by decide)
    (hg : Gl X x := by rfl) (hdb : (x == ("__debug__" : Str)) = false := by decide) (hs1 : starEach [e] X.env = (false, eval e X.env) :: starEach [] X.env := by rfl)
    (he : starEach (.Name y yp :: [e]) X.env = (false, eval (.Name y yp) X.env) :: starEach [e] X.env := by rfl) (hpl : (backTo pos (starEach [e] X.env)).any (·.1) = false := by rfl) :
    DE X (kP X.K pl sa ns) .fz (.Call (.Name x p) [.Name y yp, e] [] pos) (fDraw i pl fa) := by
  obtain ⟨ad, fd, hm, hk, hb, F⟩ := F
  obtain ⟨t, pt, q⟩ := ha.sh
  refine ⟨_, pe_call F hr hg hm hk hb .nil pass0 (pa_cons (pv i hN hv hd hcd) (pa_cons pt pa_nil hs1) he) hdb he hpl, fun g O ρ σ H Q R I hf w => ?_⟩
  refine ⟨_, I.sl i _ hf.1, q g O ρ σ H _ _ I hf.2 fun z H' d s r hq => ?_⟩
  cases d <;> try exact (show False from hq).elim
  rename_i l
  cases (show z = _ from r)
  exact ⟨pl, sa, ns, l, rfl, (I.step s).pl, hq.1, hq.2.1, fun v H2 h1 h2 s2 => w _ H2 (.int v) (s.trans s2) rfl (hq.2.2 v h1 h2)⟩
def oPk : D → (D → Prop) → Prop
  | .list ds, Q => 0 < ds.length ∧ ds.length ≤ sizeLine ∧ ∀ d ∈ ds, Q d
  | .tuple ds, Q => 0 < ds.length ∧ ds.length ≤ sizeLine ∧ ∀ d ∈ ds, Q d
  | _, _ => False
def fPick (i : Nat) (pl : Addr) (fa : FE) : FE := fun ρ Q => ρ[i]? = some (.raw (.ref pl)) ∧ fa ρ fun d => oPk d Q
theorem pick {pl sa : Addr} {ns : List Int} {y : Str} {yp : Pos} (i : Nat) (F : Ok X.prog X.w X.K X.mg X.base n x ps (spPick X.K)) (hr : Room n X.A) (ha : DE X (kP X.K pl sa ns) m1 e fa)
    (hN : X.N[i]? = some y := by rfl) (hv : Vis X.env.scope y := by first | exact Or.inl rfl | exact Or.inr (Or.inl rfl) | exact Or.inr (Or.inr rfl)) (hd : (y == ("__debug__" : Str)) = false := by decide) (hcd : (y == ("__classdict__" : Str)) = false := by decide)
    (hg : Gl X x := by rfl) (hdb : (x == ("__debug__" : Str)) = false := by decide) (hs1 : starEach [e] X.env = (false, eval e X.env) :: starEach [] X.env := by rfl)
    (he : starEach (.Name y yp :: [e]) X.env = (false, eval (.Name y yp) X.env) :: starEach [e] X.env := by rfl) (hpl : (backTo pos (starEach [e] X.env)).any (·.1) = false := by rfl) :
    DE X (kP X.K pl sa ns) .fz (.Call (.Name x p) [.Name y yp, e] [] pos) (fPick i pl fa) := by
  obtain ⟨ad, fd, hm, hk, hb, F⟩ := F
  obtain ⟨t, pt, q⟩ := ha.sh
  refine ⟨_, pe_call F hr hg hm hk hb .nil pass0 (pa_cons (pv i hN hv hd hcd) (pa_cons pt pa_nil hs1) he) hdb he hpl, fun g O ρ σ H Q R I hf w => ?_⟩
  refine ⟨_, I.sl i _ hf.1, q g O ρ σ H _ _ I hf.2 fun z H' d s r hq => ?_⟩
  have I1 := I.step s
  have zp : g.Z pl := g.vz pl (.inl rfl)
  have fin : ∀ (A : Addr) (xs : List V) (ds : List D), ¬ g.Z A → (H' A = some (.lst xs) ∨ H' A = some (.tup xs)) → IsAll (Yo g O) H' xs ds → 0 < ds.length → ds.length ≤ sizeLine → (∀ d ∈ ds, Q d) → spPick X.K ([.ref pl, .ref A] ++ []) H' R E0 := fun A xs ds nA hA qA h0 hl hq =>
    ⟨pl, sa, A, ns, xs, rfl, I1.pl, fun z => nA (g.vz A z), hA, by rw [qA.length]; exact h0, by rw [qA.length]; exact hl, fun v H2 hv s2 => by
      obtain ⟨d, hd, iv⟩ := qA.mem hv
      exact w v H2 d (s.trans s2) (Is.mono (fun _ y => y) (s2.kps g O) _ _ iv) (hq d hd)⟩
  cases d <;> try exact (show False from hq).elim
  · obtain ⟨A, xs, rfl, nA, hA, qA⟩ := r
    exact fin A xs _ nA (.inl hA) qA hq.1 hq.2.1 hq.2.2
  · obtain ⟨A, xs, rfl, nA, hA, qA⟩ := r
    exact fin A xs _ (fun z => nA (.inl z)) (.inr hA) qA hq.1 hq.2.1 hq.2.2
def fNext (i : Nat) (pl : Addr) : FE := fun ρ Q => ρ[i]? = some (.raw (.ref pl)) ∧ Q .none
theorem next {pl sa : Addr} {ns : List Int} {y : Str} {yp : Pos} (i : Nat) (F : Ok X.prog X.w X.K X.mg X.base n x ps (spNext X.K)) (hr : Room n X.A)
    (hN : X.N[i]? = some y := by rfl) (hv : Vis X.env.scope y := by first | exact Or.inl rfl | exact Or.inr (Or.inl rfl) | exact Or.inr (Or.inr rfl)) (hd : (y == ("__debug__" : Str)) = false := by decide) (hcd : (y == ("__classdict__" : Str)) = false := by decide)
    (hg : Gl X x := by rfl) (hdb : (x == ("__debug__" : Str)) = false := by decide)
    (he : starEach (.Name y yp :: []) X.env = (false, eval (.Name y yp) X.env) :: starEach [] X.env := by rfl) (hpl : (backTo pos (starEach [] X.env)).any (·.1) = false := by rfl) :
    DE X (kP X.K pl sa ns) .fz (.Call (.Name x p) [.Name y yp] [] pos) (fNext i pl) := by
  obtain ⟨ad, fd, hm, hk, hb, F⟩ := F
  refine ⟨_, pe_call F hr hg hm hk hb .nil pass0 (pa_cons (pv i hN hv hd hcd) pa_nil he) hdb he hpl, fun g O ρ σ H Q R I hf w => ?_⟩
  exact ⟨_, I.sl i _ hf.1, pl, sa, ns, rfl, I.pl, fun H2 s2 => w _ H2 .none s2 rfl hf.2⟩
/-- f(pool, ..): a def of the law that draws -/
def fCP (i : Nat) (pl : Addr) (o : List D → (D → Prop) → Prop) (fr : FA) : FE := fun ρ Q => ρ[i]? = some (.raw (.ref pl)) ∧ fr ρ fun ds => o ds Q
theorem callP {pl sa : Addr} {ns : List Int} {o : List D → (D → Prop) → Prop} {y : Str} {yp : Pos} (i : Nat) (F : Ok X.prog X.w X.K X.mg X.base n x ps (spP X.K m o)) (hr : Room n X.A) (ha : DA X (kP X.K pl sa ns) true es fr)
    (hN : X.N[i]? = some y := by rfl) (hv : Vis X.env.scope y := by first | exact Or.inl rfl | exact Or.inr (Or.inl rfl) | exact Or.inr (Or.inr rfl)) (hd : (y == ("__debug__" : Str)) = false := by decide) (hcd : (y == ("__classdict__" : Str)) = false := by decide)
    (hg : Gl X x := by rfl) (hdb : (x == ("__debug__" : Str)) = false := by decide)
    (he : starEach (.Name y yp :: es) X.env = (false, eval (.Name y yp) X.env) :: starEach es X.env := by rfl) (hpl : (backTo pos (starEach es X.env)).any (·.1) = false := by rfl) :
    DE X (kP X.K pl sa ns) m (.Call (.Name x p) (.Name y yp :: es) [] pos) (fCP i pl o fr) := by
  obtain ⟨ad, fd, hm, hk, hb, F⟩ := F
  obtain ⟨t, pt, q⟩ := ha
  refine ⟨_, pe_call F hr hg hm hk hb .nil pass0 (pa_cons (pv i hN hv hd hcd) pt he) hdb he hpl, fun g O ρ σ H Q R I hf w => ?_⟩
  refine ⟨_, I.sl i _ hf.1, q g O ρ σ H _ _ I hf.2 fun us H1 ds s r hq => ?_⟩
  have I1 := I.step s
  show spP X.K m o ((.ref pl :: us) ++ []) H1 R E0
  rw [List.append_nil]
  refine ⟨pl, sa, ns, Yo g O, us, ds, Q, rfl, I1.pl, fun a z => .inl (g.vz a z), fun a => I1.ydom a, by simpa using r, hq, fun v H' d s2 r2 hq2 => ?_⟩
  refine w v H' d (s.trans s2) ?_ hq2
  have r' := Res.from s.dm r2
  cases m with
  | sh => exact IsTp.of (yz g O) (show Is (Yo g O) H' v d from IsTp.is (fun _ y => y) r')
  | nw => exact r'
  | nd => exact r'
  | fz => exact r'

/-! ### statements -/
theorem sset {y : Str} (i : Nat) (nd : X.N.Nodup) (h : DE X k .fz e fa) (hi : X.N[i]? = some y := by rfl) (hx : Loc X.env.scope y := by first | exact Or.inl rfl | exact Or.inr rfl) (hs : swapsWith e (some (.Name y pos')) pos.line X.env = pure false := by rfl)
    (hf : X.fn y = true ∨ X.env.scope.names.lookup y = some .local := by first | exact .inl rfl | exact .inr rfl | assumption) : DS X k m E (.Assign [.Name y pos'] e pos) (fAsg i fa) := ds_asg h fun _ pe => ps_set (i := i) nd hi hx pe hs hf
theorem ssetL {y : Str} (i : Nat) (nd : X.N.Nodup) (h : DE X k .nw e fa) (hi : X.N[i]? = some y := by rfl) (hx : Loc X.env.scope y := by first | exact Or.inl rfl | exact Or.inr rfl) (hs : swapsWith e (some (.Name y pos')) pos.line X.env = pure false := by rfl)
    (hf : X.fn y = true ∨ X.env.scope.names.lookup y = some .local := by first | exact .inl rfl | exact .inr rfl | assumption) : DS X k m E (.Assign [.Name y pos'] e pos) (fAsgL i fa) := ds_asgL h fun _ pe => ps_set (i := i) nd hi hx pe hs hf
theorem ssetD {y : Str} (i : Nat) (nd : X.N.Nodup) (h : DE X k .nd e fa) (hi : X.N[i]? = some y := by rfl) (hx : Loc X.env.scope y := by first | exact Or.inl rfl | exact Or.inr rfl) (hs : swapsWith e (some (.Name y pos')) pos.line X.env = pure false := by rfl)
    (hf : X.fn y = true ∨ X.env.scope.names.lookup y = some .local := by first | exact .inl rfl | exact .inr rfl | assumption) : DS X k m E (.Assign [.Name y pos'] e pos) (fAsgD i fa) := ds_asgD h fun _ pe => ps_set (i := i) nd hi hx pe hs hf
theorem tgt {y : Str} (i : Nat) (nd : X.N.Nodup) (hi : X.N[i]? = some y := by rfl) (hx : Loc X.env.scope y := by first | exact Or.inl rfl | exact Or.inr rfl) (hf : X.fn y = true ∨ X.env.scope.names.lookup y = some .local := by first | exact .inl rfl | exact .inr rfl | assumption) : DG X k (.Name y pos) [i] (gN i) := dg_name (pg_name (i := i) nd hi hx hf)
theorem sfor {tg iter : Expr} {body : List Stmt} {is : List Nat} {fi : FI} {gd : FG} {fb : FS} (hi : DI X k true tg iter fi) (hg : DG X k tg is gd) (hb : DSs X k m E body fb) (hc : X.calm = true := by rfl) (hp : PassesOwn (model X.prog X.w) X.A X.env X.xe := by exact PassesOwn.never)
    (hs : ∀ x, foldedSetIterable iter X.env x = pure x := by intro _; rfl) : DS X k m E (.For tg iter body [] pos) (fFor fi gd fb) := ds_for hi hg hb fun _ _ _ p1 p2 p3 => ps_for hp hc p1 p2 p3 hs
theorem swhile {gc : FT} {body : List Stmt} {fb : FS} (hc : DT X k c gc) (hb : DSs X k m E body fb) (hp : PassesOwn (model X.prog X.w) X.A X.env X.xe := by exact PassesOwn.never) : DS X k m E (.While c body [] pos) (fWhile gc fb) := ds_while hc hb fun _ _ p1 p2 => ps_while hp p1 p2
theorem sapp {y : Str} {yp : Pos} (i : Nat) (h : DE X k .fz e fa) (hN : X.N[i]? = some y := by rfl) (hv : Vis X.env.scope y := by first | exact Or.inl rfl | exact Or.inr (Or.inl rfl) | exact Or.inr (Or.inr rfl)) (hd : (y == ("__debug__" : Str)) = false := by decide) (hcd : (y == ("__classdict__" : Str)) = false := by decide)
    (hs : swapsWith (.Call (.Attribute (.Name y yp) "append" apos) [e] [] cpos) none pos.line X.env = pure false := by rfl) (hbase : attributeBase (.Name y yp) "append" X.env (eval (.Name y yp) X.env) = eval (.Name y yp) X.env := by rfl)
    (hfew : ((backTo cpos (starEach [e] X.env)).all (fun x => !x.1) && (backToKw cpos (keywordEach [] X.env)).all (fun x => x.1.isSome) && decide ([e].length + ([] : List Keyword).length + (if ([] : List Keyword).isEmpty then 0 else 1) < 30)) = true := by rfl)
    (hline : (apos.endLine == cpos.line) = true := by rfl) (hse : starEach [e] X.env = (false, eval e X.env) :: starEach [] X.env := by rfl) (hplain : (backTo cpos (starEach [] X.env)).any (·.1) = false := by rfl) :
    DS X k m E (.Expr (.Call (.Attribute (.Name y yp) "append" apos) [e] [] cpos) pos) (fApp i fa) :=
  ds_app h fun _ pe => ps_expr (pe_bm PySem.F.plainAttrs_list PySem.F.slot_list_append PySem.F.type_list_append mt_append (pv i hN hv hd hcd) (pa_cons pe pa_nil hse) hbase hfew hline hse hplain) hs
theorem sext {y : Str} {yp : Pos} (i : Nat) (h : DE X k m1 e fa) (hN : X.N[i]? = some y := by rfl) (hv : Vis X.env.scope y := by first | exact Or.inl rfl | exact Or.inr (Or.inl rfl) | exact Or.inr (Or.inr rfl)) (hd : (y == ("__debug__" : Str)) = false := by decide) (hcd : (y == ("__classdict__" : Str)) = false := by decide)
    (hs : swapsWith (.Call (.Attribute (.Name y yp) "extend" apos) [e] [] cpos) none pos.line X.env = pure false := by rfl) (hbase : attributeBase (.Name y yp) "extend" X.env (eval (.Name y yp) X.env) = eval (.Name y yp) X.env := by rfl)
    (hfew : ((backTo cpos (starEach [e] X.env)).all (fun x => !x.1) && (backToKw cpos (keywordEach [] X.env)).all (fun x => x.1.isSome) && decide ([e].length + ([] : List Keyword).length + (if ([] : List Keyword).isEmpty then 0 else 1) < 30)) = true := by rfl)
    (hline : (apos.endLine == cpos.line) = true := by rfl) (hse : starEach [e] X.env = (false, eval e X.env) :: starEach [] X.env := by rfl) (hplain : (backTo cpos (starEach [] X.env)).any (·.1) = false := by rfl) :
    DS X k m E (.Expr (.Call (.Attribute (.Name y yp) "extend" apos) [e] [] cpos) pos) (fExt i fa) :=
  ds_ext h fun _ pe => ps_expr (pe_bm PySem.F.plainAttrs_list PySem.F.slot_list_extend PySem.F.type_list_extend mt_extend (pv i hN hv hd hcd) (pa_cons pe pa_nil hse) hbase hfew hline hse hplain) hs
theorem sput {y : Str} {yp tpos : Pos} (i : Nat) (hu : X.A.units + 1 < cLine) (hi : DE X k m1 a fa) (h : DE X k .fz e fb) (hN : X.N[i]? = some y := by rfl) (hv : Vis X.env.scope y := by first | exact Or.inl rfl | exact Or.inr (Or.inl rfl) | exact Or.inr (Or.inr rfl)) (hd : (y == ("__debug__" : Str)) = false := by decide) (hcd : (y == ("__classdict__" : Str)) = false := by decide)
    (hs : swapsWith e (some (.Subscript (.Name y yp) a tpos)) pos.line X.env = pure false := by rfl) : DS X k m E (.Assign [.Subscript (.Name y yp) a tpos] e pos) (fPut i fa fb) :=
  ds_put hi h fun _ _ p1 p2 => ps_dput hu (pv i hN hv hd hcd) p1 p2 hs
theorem sdel {y : Str} {yp tpos : Pos} (i : Nat) (hi : DE X k m1 a fa) (hN : X.N[i]? = some y := by rfl) (hv : Vis X.env.scope y := by first | exact Or.inl rfl | exact Or.inr (Or.inl rfl) | exact Or.inr (Or.inr rfl)) (hd : (y == ("__debug__" : Str)) = false := by decide) (hcd : (y == ("__classdict__" : Str)) = false := by decide) :
    DS X k m E (.Delete [.Subscript (.Name y yp) a tpos] pos) (fDel i fa) := ds_del hi fun _ p1 => ps_ddel (pv i hN hv hd hcd) p1
theorem saugA {y : Str} (i : Nat) (nd : X.N.Nodup) (h : DE X k m1 e fa) (hi : X.N[i]? = some y := by rfl) (hx : Loc X.env.scope y := by first | exact Or.inl rfl | exact Or.inr rfl) (hf : X.fn y = true ∨ X.env.scope.names.lookup y = some .local := by first | exact .inl rfl | exact .inr rfl | assumption) :
    DS X k m E (.AugAssign (.Name y pos') .Add e pos) (fAug i (fun i j => i + j) fa) := ds_aug h fun _ pe => ps_aug (i := i) nd hi hx pe ip_add hf
/-- comprehensions -/
theorem lc {elt tg iter : Expr} {ifs : List Expr} {scope : Scope} {own : List (Str × Nat)} {is : List Nat} {fi : FI} {gd : FG} {ft : FT} {fe : FE} (nd : X.N.Nodup) (ok : BlkOk X.N X.env.scope scope own) (hv : ∀ i ∈ is, i ∈ own.map (·.2)) (hi : DI X k false tg iter fi)
    (hg : ∀ (s : Shared) (H : Hp) (C : Addr) (cl : List (Str × Addr)) (fp : List Addr), DG (X.blk s H scope (compEnvC scope cl C X.env) fp) k tg is gd) (ht : ∀ (s : Shared) (H : Hp) (C : Addr) (cl : List (Str × Addr)) (fp : List Addr), DTs (X.blk s H scope (compEnvC scope cl C X.env) fp) k ifs ft)
    (he : ∀ (s : Shared) (H : Hp) (C : Addr) (cl : List (Str × Addr)) (fp : List Addr), DE (X.blk s H scope (compEnvC scope cl C X.env) fp) k .fz elt fe) (hc : X.calm = true := by rfl) (hs : ∀ x, foldedSetIterable iter X.env x = pure x := by intro _; rfl) :
    DE X k .nw (.ListComp elt [⟨tg, iter, ifs, 0⟩] scope pos) (fComp fi gd ft fe (own.map (·.2))) :=
  de_comp hv hi hg ht he fun _ _ _ _ p1 p2 p3 p4 => pe_lc hc nd p1 ok p2 p3 p4 hs
theorem ssetC {elt tg iter : Expr} {ifs : List Expr} {scope : Scope} {own : List (Str × Nat)} {is : List Nat} {fi : FI} {gd : FG} {ft : FT} {fe : FE} {y : Str} (i : Nat) (nd : X.N.Nodup) (ok : BlkOk X.N X.env.scope scope own) (hv : ∀ i ∈ is, i ∈ own.map (·.2)) (hi : DI X k false tg iter fi)
    (hg : ∀ (s : Shared) (H : Hp) (C : Addr) (cl : List (Str × Addr)) (fp : List Addr), DG (X.blk s H scope (compEnvC scope cl C X.env) fp) k tg is gd) (ht : ∀ (s : Shared) (H : Hp) (C : Addr) (cl : List (Str × Addr)) (fp : List Addr), DTs (X.blk s H scope (compEnvC scope cl C X.env) fp) k ifs ft)
    (he : ∀ (s : Shared) (H : Hp) (C : Addr) (cl : List (Str × Addr)) (fp : List Addr), DE (X.blk s H scope (compEnvC scope cl C X.env) fp) k .fz elt fe)
    (hsw : swapsWith (.ListComp elt [⟨tg, iter, ifs, 0⟩] scope pos') (some (.Name y p)) pos.line X.env = pure true) (hy : X.N[i]? = some y := by rfl) (hyl : X.env.scope.names.lookup y = some .local := by rfl) (hc : X.calm = true := by rfl) (hs : ∀ x, foldedSetIterable iter X.env x = pure x := by intro _; rfl) :
    DS X k m E (.Assign [.Name y p] (.ListComp elt [⟨tg, iter, ifs, 0⟩] scope pos') pos) (fAsg i (fComp fi gd ft fe (own.map (·.2)))) :=
  ds_asgC hv hi hg ht he fun _ _ _ _ p1 p2 p3 p4 => ps_setLc hc nd hy hyl hsw p1 ok p2 p3 p4 hs
theorem ssetCL {elt tg iter : Expr} {ifs : List Expr} {scope : Scope} {own : List (Str × Nat)} {is : List Nat} {fi : FI} {gd : FG} {ft : FT} {fe : FE} {y : Str} (i : Nat) (nd : X.N.Nodup) (ok : BlkOk X.N X.env.scope scope own) (hv : ∀ i ∈ is, i ∈ own.map (·.2)) (hi : DI X k false tg iter fi)
    (hg : ∀ (s : Shared) (H : Hp) (C : Addr) (cl : List (Str × Addr)) (fp : List Addr), DG (X.blk s H scope (compEnvC scope cl C X.env) fp) k tg is gd) (ht : ∀ (s : Shared) (H : Hp) (C : Addr) (cl : List (Str × Addr)) (fp : List Addr), DTs (X.blk s H scope (compEnvC scope cl C X.env) fp) k ifs ft)
    (he : ∀ (s : Shared) (H : Hp) (C : Addr) (cl : List (Str × Addr)) (fp : List Addr), DE (X.blk s H scope (compEnvC scope cl C X.env) fp) k .fz elt fe)
    (hsw : swapsWith (.ListComp elt [⟨tg, iter, ifs, 0⟩] scope pos') (some (.Name y p)) pos.line X.env = pure true) (hy : X.N[i]? = some y := by rfl) (hyl : X.env.scope.names.lookup y = some .local := by rfl) (hc : X.calm = true := by rfl) (hs : ∀ x, foldedSetIterable iter X.env x = pure x := by intro _; rfl) :
    DS X k m E (.Assign [.Name y p] (.ListComp elt [⟨tg, iter, ifs, 0⟩] scope pos') pos) (fAsgL i (fComp fi gd ft fe (own.map (·.2)))) :=
  ds_asgCL hv hi hg ht he fun _ _ _ _ p1 p2 p3 p4 => ps_setLc hc nd hy hyl hsw p1 ok p2 p3 p4 hs
/-- isinstance(x, T) -/
theorem isi {T : String} {px : Pos} {ty : Str} (h : DE X k m1 e fa) (hT : T = "dict" ∨ T = "list" ∨ T = "tuple" ∨ T = "str" ∨ T = "int" ∨ T = "bool") (hm : X.mg "isinstance" = none) (hm2 : X.mg ty = none) (hb : bootBuiltins ty = some (.type T)) (hg : Gl X "isinstance" := by rfl) (hg2 : Gl X ty := by rfl)
    (hn : ty ≠ "__name__" := by decide) (hdb : (ty == ("__debug__" : Str)) = false := by decide) (hs2 : starEach [.Name ty px] X.env = (false, eval (.Name ty px) X.env) :: starEach [] X.env := by rfl) (hs : starEach [e, .Name ty px] X.env = (false, eval e X.env) :: starEach [.Name ty px] X.env := by rfl)
    (hpl : (backTo pos (starEach [.Name ty px] X.env)).any (·.1) = false := by rfl) : DE X k .fz (.Call (.Name "isinstance" p) [e, .Name ty px] [] pos) (fIsi T fa) :=
  de_isi hT h fun _ pe => pe_callB call_isi hg hm (by decide +kernel) (pa_cons pe (pa_cons (pe_bltn (v := .ty T) hg2 hm2 hb rfl hn hdb) pa_nil hs2) hs) (by decide) (by decide) hs hpl
end
end L3

/-! L3n: a def by its place in the text; the law. -/
namespace L3
open PySem PySem.Spec L2
open PyProof.Rows (envOfC)
/-- the def st stands at the name x -/
def DefAt (K : PySem.W.Frag) (mg : Str → Option Value) (x : Str) (st : Stmt) (ps : List Str) : Prop := ∃ (a : Addr) (fd : FuncData), mg x = some (.ref a) ∧ Fun K x x st a fd ∧ Binds K fd ps []
def fFz (i : Nat) (F : FS) : FS := fun DD ρ => F DD (frz i ρ)
def canS (k : Kd) (m : Md) (E : XK) (F : FS) : TS := fun Dn σ H => ∃ (g : Gh k) (O : Op) (ρ : Ev) (DD : DEnds), EnvOk g O ρ σ H ∧ Lk m g O H E DD Dn ∧ F DD ρ
theorem DSs.can {X : Cx} {k : Kd} {m : Md} {E : XK} {st : List Stmt} {F : FS} (h : DSs X k m E st F) : PSs X st (canS k m E F) := by
  obtain ⟨t, p, q⟩ := h
  exact ⟨fun pins s σ H Dn I ⟨g, O, ρ, DD, I', L, hf⟩ => p.run pins s σ H Dn I (q g O ρ σ H DD Dn I' L hf)⟩
section
variable {P : Program} {w : World} {K : PySem.W.Frag} {mg : Str → Option Value} {base : Heap} {x : Str} {st : Stmt} {N ps : List Str} {n : Nat} {m : Md} {o : List D → (D → Prop) → Prop}
theorem DefAt.ok {FB : FS} (D : DefAt K mg x st ps) (S : FnScope N ps (defScope st)) (len : ∀ ds P, o ds P → ds.length = ps.length)
    (hbody : ∀ (f : Addr) (cdv : Value) (A : Around) (outer : List Env) (s : Shared) (H : Hp) (E : XK), Room n (A.deeper (envOfC x (defScope st) s.heap.objs.size f cdv)) → DSs (cxOf CX0 P w K mg base N x (defScope st) f cdv A outer s H E).nox k0 m (fun _ _ _ => False) (defBody st) FB)
    (spec : ∀ ds P, o ds P → FB (endsOf m P) (startE N ds)) : Ok P w K mg base (n + 1) x ps (spM m o) := by
  obtain ⟨a, fd, hm, F, hb⟩ := D
  exact ⟨a, fd, hm, F.kp, hb, fn_ok F S len (hbody a) spec⟩
theorem DefAt.okP {FB : Addr → FS} (D : DefAt K mg x st ps) (S : FnScope N ps (defScope st)) (len : ∀ ds P, o ds P → ds.length + 1 = ps.length)
    (hbody : ∀ (pl sa : Addr) (ns : List Int) (f : Addr) (cdv : Value) (A : Around) (outer : List Env) (s : Shared) (H : Hp) (E : XK), Room n (A.deeper (envOfC x (defScope st) s.heap.objs.size f cdv)) → DSs (cxOf CX0 P w K mg base N x (defScope st) f cdv A outer s H E).nox (kP K pl sa ns) m (fun _ _ _ => False) (defBody st) (FB pl))
    (spec : ∀ pl ds P, o ds P → FB pl (endsOf m P) (startP N pl ds)) : Ok P w K mg base (n + 1) x ps (spP K m o) := by
  obtain ⟨a, fd, hm, F, hb⟩ := D
  exact ⟨a, fd, hm, F.kp, hb, fn_okP F S len (fun p sa ns => hbody p sa ns a) spec⟩
/-- a promise by values -/
theorem DefAt.okV {sp : Sp} (D : DefAt K mg x st ps) (S : FnScope N ps (defScope st)) (len : ∀ vs H Q E, sp vs H Q E → vs.length = ps.length)
    (hbody : ∀ (f : Addr) (cdv : Value) (A : Around) (outer : List Env) (s : Shared) (H : Hp) (vs : List V) (Q : VK) (E : XK), Room n (A.deeper (envOfC x (defScope st) s.heap.objs.size f cdv)) → sp vs H Q E →
      ∃ t, PSs (cxOf CX0 P w K mg base N x (defScope st) f cdv A outer s H E).nox (defBody st) t ∧ t { nx := fun _ H' => Q .non H', rt := Q } (start N vs) H) : Ok P w K mg base (n + 1) x ps sp := by
  obtain ⟨a, fd, hm, F, hb⟩ := D
  exact ⟨a, fd, hm, F.kp, hb, F.ok S len (hbody a)⟩
/-- the law: any script of at most 63 ints, True comes back -/
def spLaw (K : PySem.W.Frag) : Sp := fun vs H Q _ => ∃ (sa : Addr) (ns : List Int), vs = [.ref sa] ∧ SqL K H sa (ns.map V.int) ∧ ns.length ≤ 63 ∧ ∀ H', Q (.bl true) H'
def startLaw (N : List Str) (sa pl : Addr) : Ev := .raw (.ref sa) :: .raw (.ref pl) :: List.replicate (N.length - 2) .un
theorem def_at {h : Heap} {f : Addr} {od an : Option Addr} {sl : Array (Option Value)} {oc kV dc pm cd ct : Value} (X : K.In h) (G : h.Ns mainGlobals mg) (a : PySem.W.nsIn K mainGlobals x = some (some (.ref f)))
    (l : K.lookup f = some ⟨oc, od, .func (PySem.W.fnOf x x (defArgs st) (defBody st) (defScope st) .none kV dc pm an cd ct), sl⟩) (c : PySem.W.codeIn K cd x = true) (kk : PySem.W.keepIn K (.ref f) = true)
    (b : ∀ (kV doc pm : Value) (an : Option Addr) (cdv ct : Value) (us : List Value), us.length = ps.length → bindArgs (PySem.W.fnOf x x (defArgs st) (defBody st) (defScope st) .none kV doc pm an cdv ct) ⟨us, []⟩ = pure (ps.zip us)) : DefAt K mg x st ps :=
  ⟨f, _, PySem.W.mg_of X G a, fun_mk l c kk, (fun_mk l c kk).binds b⟩
theorem okLaw {FB : Addr → FS} {s0 : Stmt} {rest : List Stmt} {fa : Addr} {fd : FuncData} (F : Fun K x x st fa fd) (S : FnScope N ["script"] (defScope st)) (hN : 2 ≤ N.length) (hst : defBody st = s0 :: rest)
    (h0 : ∀ (f : Addr) (cdv : Value) (A : Around) (outer : List Env) (s : Shared) (H : Hp) (E : XK), Room n (A.deeper (envOfC x (defScope st) s.heap.objs.size f cdv)) → PS (cxOf CX0 P w K mg base N x (defScope st) f cdv A outer s H E).nox s0 (tAsg (tCall (spPool K) [] E0 (tCons (tVar 0) tNil)) (gName 1)))
    (hbody : ∀ (pl sa : Addr) (ns : List Int) (f : Addr) (cdv : Value) (A : Around) (outer : List Env) (s : Shared) (H : Hp) (E : XK), Room n (A.deeper (envOfC x (defScope st) s.heap.objs.size f cdv)) → DSs (cxOf CX0 P w K mg base N x (defScope st) f cdv A outer s H E).nox (kP K pl sa ns) .fz (fun _ _ _ => False) rest (FB pl))
    (spec : ∀ pl sa, FB pl (endsOf .fz fun d => d = .bool true) (startLaw N sa pl)) : FnOk P w K mg base CX0 (n + 1) fa fd ["script"] (spLaw K) := by
  refine F.ok S (fun vs H Q E ⟨sa, ns, e, _⟩ => by rw [e]; rfl) fun cdv A outer s H vs Q E hr ⟨sa, ns, ev, hs, hl, w⟩ => ?_
  subst ev
  refine ⟨tSeq (tAsg (tCall (spPool K) [] E0 (tCons (tVar 0) tNil)) (gName 1)) (fun Dn σ H => ∃ pl sa ns, canS (kP K pl sa ns) .fz (fun _ _ _ => False) (FB pl) Dn σ H), ?_, ?_⟩
  · rw [hst]
    exact pss_cons (h0 fa cdv A outer s H E hr) ⟨fun pins s' σ' H' Dn I ⟨pl, sa, ns, h⟩ => (hbody pl sa ns fa cdv A outer s H E hr).can.run pins s' σ' H' Dn I h⟩
  · refine ⟨_, rfl, sa, ns, rfl, hs, hl, fun p r H1 sm hp e1 => ⟨p, sa, ns, ?_⟩⟩
    have hs1 : SqL K H1 sa (ns.map V.int) := sm.seq hs
    have pl1 : poolPl K p sa ns H1 := ⟨⟨0, r, 0, e1⟩, hs1, hl⟩
    refine ⟨⟨fun a => (kP K p sa ns).Vo a, H1, fun _ z => z⟩, fun _ => none, startLaw N sa p, endsOf .fz fun d => d = .bool true, ⟨?_, fun i j a e => (by cases e), fun i a e => (by cases e), fun a z => ?_, fun a e => e, fun a o _ e => e, pl1, ⟨0, fun _ _ => rfl⟩, ?_⟩, ⟨?_, ?_, ?_, ?_, fun c dd H' d x => x.res.elim⟩, spec p sa⟩
    · obtain ⟨x0, x1, N', rfl⟩ : ∃ x0 x1 N', N = x0 :: x1 :: N' := by
        match N, hN with
        | x0 :: x1 :: N', _ => exact ⟨x0, x1, N', rfl⟩
      simp [L2.start, startLaw]
    · rcases z with z | ⟨z, q⟩
      · rw [z, e1]; intro z; cases z
      · rw [z]
        rcases hs1 with (q' | ⟨o, q'⟩) | q'
        · rw [q']; intro z; cases z
        · rw [q']; intro z; cases z
        · exact (q q').elim
    · obtain ⟨x0, x1, N', rfl⟩ : ∃ x0 x1 N', N = x0 :: x1 :: N' := by
        match N, hN with
        | x0 :: x1 :: N', _ => exact ⟨x0, x1, N', rfl⟩
      intro i s' e
      match i, e with
      | 0, e => cases e; rfl
      | 1, e => cases e; rfl
      | i + 2, e =>
        have e' : (List.replicate N'.length Sl.un)[i]? = some s' := e
        rw [List.getElem?_replicate] at e'
        split at e'
        · cases e'; trivial
        · cases e'
    · intro O' ρ' σ' H' s I' hq; exact nomatch hq.2
    · intro O' ρ' σ' H' s I' hq; exact hq.elim
    · intro O' ρ' σ' H' s I' hq; exact hq.elim
    · intro v H' d r hq
      cases (show d = _ from hq)
      cases (show v = _ from r.res)
      exact w H'
end
end L3

/-! L3o: small facts. -/
namespace L3
open PySem PySem.Spec L2
open PyProof.Rows (envOfC)
theorem mok {a b : Int} (ha : a.natAbs < 2 ^ 250) (hb : b.natAbs < 2 ^ 250) : mulOk a b :=
  .inr ⟨Nat.lt_trans ha (Nat.pow_lt_pow_right (by decide) (by decide)), Nat.lt_trans hb (Nat.pow_lt_pow_right (by decide) (by decide))⟩
/-- the first statement of a law: pool = _law_pool(script) -/
theorem law_first {X : Cx} {p p1 p2 pos pos' : Pos} {x y : Str} {n : Nat} (F : Ok X.prog X.w X.K X.mg X.base n "_law_pool" ["script"] (spPool X.K)) (nd : X.N.Nodup) (hr : Room n X.A)
    (hN : X.N[0]? = some x := by rfl) (hv : Vis X.env.scope x := by first | exact Or.inl rfl | exact Or.inr (Or.inl rfl) | exact Or.inr (Or.inr rfl)) (hd : (x == ("__debug__" : Str)) = false := by decide) (hcd : (x == ("__classdict__" : Str)) = false := by decide)
    (hi : X.N[1]? = some y := by rfl) (hx : Loc X.env.scope y := by first | exact Or.inl rfl | exact Or.inr rfl) (hs : swapsWith (.Call (.Name "_law_pool" p1) [.Name x p2] [] pos') (some (.Name y p)) pos.line X.env = pure false := by rfl)
    (hf : X.fn y = true ∨ X.env.scope.names.lookup y = some .local := by first | exact .inl rfl | exact .inr rfl) (hg : Gl X "_law_pool" := by rfl) (he : starEach (.Name x p2 :: []) X.env = (false, eval (.Name x p2) X.env) :: starEach [] X.env := by rfl) (hpl : (backTo pos' (starEach [] X.env)).any (·.1) = false := by rfl) :
    PS X (.Assign [.Name y p] (.Call (.Name "_law_pool" p1) [.Name x p2] [] pos') pos) (tAsg (tCall (spPool X.K) [] E0 (tCons (tVar 0) tNil)) (gName 1)) := by
  obtain ⟨a, fd, hm, hk, hb, F⟩ := F
  exact ps_set (i := 1) nd hi hx (pe_call F hr hg hm hk hb .nil pass0 (pa_cons (pv 0 hN hv hd hcd) pa_nil he) (by decide) he hpl) hs hf

/-! ### the script as it stands -/
def kS (K : PySem.W.Frag) (sa : Addr) (ns : List Int) (H0 : Hp) : Kd where
  Vo := fun a => a = sa ∧ ¬ inK K sa (ns.map V.int)
  Pl := fun H => SqL K H sa (ns.map V.int) ∧ ns.length ≤ 63 ∧ (¬ inK K sa (ns.map V.int) → ∀ o, H0 sa = some o → H sa = some o)
  pk := fun H H' h ⟨hs, hl, hk⟩ => ⟨by
    by_cases q : inK K sa (ns.map V.int)
    · exact .inr q
    · rcases hs with (hs | ⟨o, hs⟩) | hs
      · exact .inl (.inl (h sa _ ⟨rfl, q⟩ hs))
      · exact .inl (.inr ⟨o, h sa _ ⟨rfl, q⟩ hs⟩)
      · exact (q hs).elim, hl, fun q o e => h sa o ⟨rfl, q⟩ (hk q o e)⟩
section
variable {X : Cx} {a b c e : Expr} {fa fb fc : FE} {m m1 m2 m3 : Md} {pos pos' apos cpos p : Pos} {E : XK} {x : Str} {n : Nat} {ps : List Str}
def fSLen (i : Nat) (sa : Addr) (ns : List Int) : FE := fun ρ Q => ρ[i]? = some (.raw (.ref sa)) ∧ Q (.int ns.length)
theorem slen {sa : Addr} {ns : List Int} {H0 : Hp} {y : Str} {yp : Pos} (i : Nat) (hm : X.mg "len" = none) (hN : X.N[i]? = some y := by rfl) (hv : Vis X.env.scope y := by first | exact Or.inl rfl | exact Or.inr (Or.inl rfl) | exact Or.inr (Or.inr rfl)) (hd : (y == ("__debug__" : Str)) = false := by decide) (hcd : (y == ("__classdict__" : Str)) = false := by decide)
    (hg : Gl X "len" := by rfl) (he : starEach (.Name y yp :: []) X.env = (false, eval (.Name y yp) X.env) :: starEach [] X.env := by rfl) (hpl : (backTo pos (starEach [] X.env)).any (·.1) = false := by rfl) :
    DE X (kS X.K sa ns H0) .fz (.Call (.Name "len" p) [.Name y yp] [] pos) (fSLen i sa ns) :=
  ⟨_, pe_callB call_len_seq hg hm (by decide +kernel) (pa_cons (pv i hN hv hd hcd) pa_nil he) (by decide) (by decide) he hpl, fun g O ρ σ H Q R I hf w =>
    ⟨_, I.sl i _ hf.1, sa, _, rfl, .inl I.pl.1, by rw [List.length_map]; exact w _ H (.int ns.length) (Stp.refl _ H) rfl hf.2⟩⟩
def fSIx (i : Nat) (sa : Addr) (ns : List Int) (fb : FE) : FE := fun ρ Q => ρ[i]? = some (.raw (.ref sa)) ∧ fb ρ fun d => match d with
  | .int j => ∃ z, atI ns j = some z ∧ Q (.int z)
  | _ => False
theorem atI_map {ns : List Int} {j z : Int} (h : atI ns j = some z) : atI (ns.map V.int) j = some (.int z) := by
  unfold atI at h ⊢
  rw [List.length_map]
  cases q : ixN ns.length j with
  | none => rw [q] at h; cases h
  | some i =>
    rw [q] at h
    show (ns.map V.int)[i]? = _
    rw [List.getElem?_map, show ns[i]? = some z from h]; rfl
theorem six {sa : Addr} {ns : List Int} {H0 : Hp} {y : Str} {yp : Pos} (i : Nat) (hb : DE X (kS X.K sa ns H0) m1 b fb) (hs : PlainIx b) (hN : X.N[i]? = some y := by rfl) (hv : Vis X.env.scope y := by first | exact Or.inl rfl | exact Or.inr (Or.inl rfl) | exact Or.inr (Or.inr rfl)) (hd : (y == ("__debug__" : Str)) = false := by decide) (hcd : (y == ("__classdict__" : Str)) = false := by decide) :
    DE X (kS X.K sa ns H0) .fz (.Subscript (.Name y yp) b pos) (fSIx i sa ns fb) := by
  obtain ⟨t, pt, q⟩ := hb.sh
  refine ⟨_, pe_ix ix_list (pv i hN hv hd hcd) pt hs, fun g O ρ σ H Q R I hf w => ?_⟩
  refine ⟨_, I.sl i _ hf.1, q g O ρ σ H _ _ I hf.2 fun v H' d s r hq => ?_⟩
  cases d <;> try exact (show False from hq).elim
  cases (show v = _ from r)
  obtain ⟨z, hz, hq⟩ := hq
  exact ⟨sa, _, _, _, rfl, rfl, (I.step s).pl.1, atI_map hz, w _ H' (.int z) s rfl hq⟩

/-! ### the pool's own numbers: some ints -/
def fPGet (i : Nat) (pl : Addr) : FE := fun ρ Q => ρ[i]? = some (.raw (.ref pl)) ∧ ∀ z : Int, Q (.int z)
theorem pget {pl sa : Addr} {ns : List Int} {y : Str} {yp kp : Pos} {kk : Nat} {j : Int} (i : Nat) (hj : j = 1 ∨ j = 2 ∨ j = 3) (hs : PlainIx (.Constant (.int j) kk kp) := by exact fun _ _ => rfl) (hN : X.N[i]? = some y := by rfl) (hv : Vis X.env.scope y := by first | exact Or.inl rfl | exact Or.inr (Or.inl rfl) | exact Or.inr (Or.inr rfl)) (hd : (y == ("__debug__" : Str)) = false := by decide) (hcd : (y == ("__classdict__" : Str)) = false := by decide) :
    DE X (kP X.K pl sa ns) .fz (.Subscript (.Name y yp) (.Constant (.int j) kk kp) pos) (fPGet i pl) := by
  refine ⟨_, pe_ix ix_list (pv i hN hv hd hcd) pe_int hs, fun g O ρ σ H Q R I hf w => ?_⟩
  obtain ⟨⟨z1, z2, z3, e⟩, _, _⟩ := I.pl
  have fin : ∀ z : Int, R (.int z) H := fun z => w _ H (.int z) (Stp.refl _ H) rfl (hf.2 z)
  rcases hj with rfl | rfl | rfl
  · exact ⟨_, I.sl i _ hf.1, pl, _, _, _, rfl, rfl, SqL.of e, rfl, fin z1⟩
  · exact ⟨_, I.sl i _ hf.1, pl, _, _, _, rfl, rfl, SqL.of e, rfl, fin z2⟩
  · exact ⟨_, I.sl i _ hf.1, pl, _, _, _, rfl, rfl, SqL.of e, rfl, fin z3⟩
def fPSet (i : Nat) (pl : Addr) (fa : FE) : FS := fun DD ρ => ρ[i]? = some (.raw (.ref pl)) ∧ fa ρ fun d => match d with
  | .int _ => DD.nx ρ
  | _ => False
theorem pset {pl sa : Addr} {ns : List Int} {y : Str} {yp kp : Pos} {kk : Nat} {j : Int} (i : Nat) (hj : j = 1 ∨ j = 2 ∨ j = 3) (ha : DE X (kP X.K pl sa ns) m1 e fa) (hN : X.N[i]? = some y := by rfl) (hv : Vis X.env.scope y := by first | exact Or.inl rfl | exact Or.inr (Or.inl rfl) | exact Or.inr (Or.inr rfl)) (hd : (y == ("__debug__" : Str)) = false := by decide) (hcd : (y == ("__classdict__" : Str)) = false := by decide)
    (hp : ∀ te, PE X e te → PS X (.Assign [.Subscript (.Name y yp) (.Constant (.int j) kk kp) apos] e pos) (tAsg te (gSub (tVar i) (tC (.int j)) rSetL)) := by exact fun _ pe => ps_asg pe (pg_sub (pv _) pe_int set_list)) : DS X (kP X.K pl sa ns) m E (.Assign [.Subscript (.Name y yp) (.Constant (.int j) kk kp) apos] e pos) (fPSet i pl fa) := by
  obtain ⟨t, pt, q⟩ := ha.sh
  refine ⟨_, hp t pt, fun g O ρ σ H DD Dn I L hf => ?_⟩
  refine q g O ρ σ H _ _ I hf.2 fun v H' d s r hq => ?_
  cases d <;> try exact (show False from hq).elim
  cases (show v = _ from r)
  have I1 := I.step s
  have pl0 := I1.pl
  obtain ⟨⟨z1, z2, z3, e⟩, _, _⟩ := id pl0
  have fin : ∀ y1 y2 y3 : Int, Dn.nx σ (upd H' pl (.lst [.ref sa, .int y1, .int y2, .int y3])) := fun y1 y2 y3 => by
    have s2 : Stp (kP X.K pl sa ns) H' (upd H' pl (.lst [.ref sa, .int y1, .int y2, .int y3])) := pool_step pl0 (Same.refl _)
    exact L.nx O ρ σ _ ((s.trans s2).o O) (I1.step s2) hq
  rcases hj with rfl | rfl | rfl
  · exact ⟨_, I1.sl i _ hf.1, pl, _, _, 1, rfl, rfl, e, rfl, fin _ z2 z3⟩
  · exact ⟨_, I1.sl i _ hf.1, pl, _, _, 2, rfl, rfl, e, rfl, fin z1 _ z3⟩
  · exact ⟨_, I1.sl i _ hf.1, pl, _, _, 3, rfl, rfl, e, rfl, fin z1 z2 _⟩
/-- _law_rest(pool[0], pool[1], e) -/
def fPRest (i : Nat) (pl : Addr) (fa : FE) : FE := fun ρ Q => ρ[i]? = some (.raw (.ref pl)) ∧ fa ρ fun d => match d with
  | .int _ => ∀ z : Int, Q (.int z)
  | _ => False
theorem prest {pl sa : Addr} {ns : List Int} {y : Str} {yp yp2 kp kp2 sp sp2 : Pos} {kk kk2 : Nat} (i : Nat) (F : Ok X.prog X.w X.K X.mg X.base n x ps (spRest X.K)) (hr : Room n X.A) (ha : DE X (kP X.K pl sa ns) m1 e fa)
    (hN : X.N[i]? = some y := by rfl) (hv : Vis X.env.scope y := by first | exact Or.inl rfl | exact Or.inr (Or.inl rfl) | exact Or.inr (Or.inr rfl)) (hd : (y == ("__debug__" : Str)) = false := by decide) (hcd : (y == ("__classdict__" : Str)) = false := by decide)
    (hg : Gl X x := by rfl) (hdb : (x == ("__debug__" : Str)) = false := by decide)
    (hp : ∀ te, PE X e te → PA X [.Subscript (.Name y yp) (.Constant (.int 0) kk kp) sp, .Subscript (.Name y yp2) (.Constant (.int 1) kk2 kp2) sp2, e] (tCons (tOp (rIxL X.K) (tVar i) (tC (.int 0))) (tCons (tOp (rIxL X.K) (tVar i) (tC (.int 1))) (tCons te tNil))) := by exact fun _ pe => pa_cons (pe_ix ix_list (pv _) pe_int (fun _ _ => rfl)) (pa_cons (pe_ix ix_list (pv _) pe_int (fun _ _ => rfl)) (pa_cons pe pa_nil)))
    (he : starEach (.Subscript (.Name y yp) (.Constant (.int 0) kk kp) sp :: [.Subscript (.Name y yp2) (.Constant (.int 1) kk2 kp2) sp2, e]) X.env = (false, eval (.Subscript (.Name y yp) (.Constant (.int 0) kk kp) sp) X.env) :: starEach [.Subscript (.Name y yp2) (.Constant (.int 1) kk2 kp2) sp2, e] X.env := by rfl)
    (hpl : (backTo pos (starEach [.Subscript (.Name y yp2) (.Constant (.int 1) kk2 kp2) sp2, e] X.env)).any (·.1) = false := by rfl) :
    DE X (kP X.K pl sa ns) .fz (.Call (.Name x p) [.Subscript (.Name y yp) (.Constant (.int 0) kk kp) sp, .Subscript (.Name y yp2) (.Constant (.int 1) kk2 kp2) sp2, e] [] pos) (fPRest i pl fa) := by
  obtain ⟨ad, fd, hm, hk, hb, F⟩ := F
  obtain ⟨t, pt, q⟩ := ha.sh
  refine ⟨_, pe_call F hr hg hm hk hb .nil pass0 (hp t pt) hdb he hpl, fun g O ρ σ H Q R I hf w => ?_⟩
  obtain ⟨⟨z1, z2, z3, e1⟩, hs, hl⟩ := I.pl
  refine ⟨_, I.sl i _ hf.1, pl, _, _, _, rfl, rfl, SqL.of e1, rfl, _, I.sl i _ hf.1, pl, _, _, _, rfl, rfl, SqL.of e1, rfl, q g O ρ σ H _ _ I hf.2 fun v H' d s r hq => ?_⟩
  cases d <;> try exact (show False from hq).elim
  cases (show v = _ from r)
  exact ⟨sa, ns, _, _, rfl, (I.step s).pl.2.1, hl, fun z H2 s2 => w _ H2 (.int z) (s.trans (Stp.same s2)) rfl (hq z)⟩
end
section
variable {P : Program} {w : World} {K : PySem.W.Frag} {mg : Str → Option Value} {base : Heap} {x : Str} {st : Stmt} {N ps : List Str} {n : Nat} {m : Md} {o : List D → (D → Prop) → Prop}
/-- a promise, by a stronger one -/
theorem Ok.imp {sp sp' : Sp} (h : Ok P w K mg base n x ps sp) (i : ∀ vs H Q E, sp' vs H Q E → sp vs H Q E) : Ok P w K mg base n x ps sp' := by
  obtain ⟨a, fd, h1, h2, h3, F⟩ := h
  exact ⟨a, fd, h1, h2, h3, F.imp i⟩
theorem zdomP {p sa : Addr} {ns : List Int} {H : Hp} (h : poolPl K p sa ns H) : ∀ a, (kP K p sa ns).Vo a → H a ≠ none := fun a z => by
  obtain ⟨⟨i, r, f, e⟩, hs, hl⟩ := h
  rcases z with z | ⟨z, q⟩
  · rw [z, e]; intro z; cases z
  · rw [z]
    rcases hs with (q' | ⟨o, q'⟩) | q'
    · rw [q']; intro z; cases z
    · rw [q']; intro z; cases z
    · exact (q q').elim
def o_draw : List D → (D → Prop) → Prop := fun ds P => ∃ l : Int, ds = [.int l] ∧ 0 < l ∧ l.natAbs < 2 ^ 4000 ∧ ∀ v : Int, 0 ≤ v → v < l → P (.int v)
theorem Ok.draw (h : Ok P w K mg base n x ps (spP K .fz o_draw)) : Ok P w K mg base n x ps (spDraw K) := h.imp fun vs H Q E ⟨p, sa, ns, l, e, hp, h0, h1, w⟩ =>
  ⟨p, sa, ns, (kP K p sa ns).Vo, [.int l], [.int l], fun d => ∃ v : Int, d = .int v ∧ 0 ≤ v ∧ v < l, e, hp, fun _ z => z, zdomP hp, ⟨_, _, rfl, rfl, rfl⟩, ⟨l, rfl, h0, h1, fun v a b => ⟨v, rfl, a, b⟩⟩, fun v H' d s r ⟨z, e, a, b⟩ => by
    subst e
    cases (show v = _ from r)
    exact w z H' a b s⟩
def o_next : List D → (D → Prop) → Prop := fun ds P => ds = [] ∧ P .none
theorem Ok.next (h : Ok P w K mg base n x ps (spP K .fz o_next)) : Ok P w K mg base n x ps (spNext K) := h.imp fun vs H Q E ⟨p, sa, ns, e, hp, w⟩ =>
  ⟨p, sa, ns, (kP K p sa ns).Vo, [], [], fun d => d = .none, e, hp, fun _ z => z, zdomP hp, rfl, ⟨rfl, rfl⟩, fun v H' d s r e => by
    subst e
    cases (show v = _ from r)
    exact w H' s⟩
/-- _law_rest, by its body in the kind of the script -/
theorem DefAt.okS {FB : Addr → List Int → FS} (D : DefAt K mg x st ps) (S : FnScope N ps (defScope st)) (hps : ps.length = 3)
    (hbody : ∀ (sa : Addr) (ns : List Int) (H0 : Hp) (f : Addr) (cdv : Value) (A : Around) (outer : List Env) (s : Shared) (H : Hp) (E : XK), Room n (A.deeper (envOfC x (defScope st) s.heap.objs.size f cdv)) → DSs (cxOf CX0 P w K mg base N x (defScope st) f cdv A outer s H E).nox (kS K sa ns H0) .fz (fun _ _ _ => False) (defBody st) (FB sa ns))
    (spec : ∀ sa ns (a b : Int) P, ns.length ≤ 63 → (∀ r : Int, P (.int r)) → FB sa ns (endsOf .fz P) (.raw (.ref sa) :: .dat (.int a) :: .dat (.int b) :: List.replicate (N.length - 3) .un)) : Ok P w K mg base (n + 1) x ps (spRest K) := by
  refine D.okV S (fun vs H Q E ⟨sa, ns, a, b, e, _⟩ => by rw [e, hps]; rfl) fun f cdv A outer s H vs Q E hr ⟨sa, ns, a, b, ev, hs, hl, w⟩ => ?_
  subst ev
  obtain ⟨t, pt, q⟩ := hbody sa ns H f cdv A outer s H E hr
  refine ⟨t, pt, ?_⟩
  refine q ⟨(kS K sa ns H).Vo, H, fun _ z => z⟩ (fun _ => none) _ (L2.start N [.ref sa, .int a, .int b]) H (endsOf .fz fun d => ∃ r : Int, d = .int r) _ ⟨?_, fun i j a e => (by cases e), fun i a e => (by cases e), fun a z => ?_, fun a e => e, fun a o _ e => e, ⟨hs, hl, fun _ _ e => e⟩, ⟨0, fun _ _ => rfl⟩, ?_⟩ ⟨?_, ?_, ?_, ?_, fun c dd H' d x => x.res.elim⟩ (spec sa ns a b (fun d => ∃ r : Int, d = .int r) hl fun r => ⟨r, rfl⟩)
  · simp [L2.start]
  · obtain ⟨z, q⟩ := z
    rw [z]
    rcases hs with (q' | ⟨o, q'⟩) | q'
    · rw [q']; intro z; cases z
    · rw [q']; intro z; cases z
    · exact (q q').elim
  · intro i s' e
    match i, e with
    | 0, e => cases e; rfl
    | 1, e => cases e; exact ⟨_, rfl, rfl⟩
    | 2, e => cases e; exact ⟨_, rfl, rfl⟩
    | i + 3, e =>
      have e' : (List.replicate (N.length - 3) Sl.un)[i]? = some s' := e
      rw [List.getElem?_replicate] at e'
      split at e'
      · cases e'; trivial
      · cases e'
  · intro O' ρ' σ' H' s I' hq; obtain ⟨r, hr⟩ := hq.2; cases hr
  · intro O' ρ' σ' H' s I' hq; exact hq.elim
  · intro O' ρ' σ' H' s I' hq; exact hq.elim
  · intro v H' d r ⟨z, hz⟩
    subst hz
    cases (show v = _ from r.res)
    refine w z H' fun a o e => ?_
    by_cases hv : (kS K sa ns H).Vo a
    · rw [hv.1] at e ⊢; exact r.pl.2.2 hv.2 o e
    · exact r.base a o hv e
end
end L3

/-! L3p: data with a Lean type; loops by what they keep. -/
namespace L3
open PySem PySem.Spec L2
open PySem.W (Datum Tup)
open PySem.W.Datum (toD)
mutual
theorem dp_of : ∀ (d : D) (n : Nat), d.plain = true → d.depth ≤ n → dp n d
  | .none, n, _, _ => by cases n <;> trivial
  | .bool _, n, _, _ => by cases n <;> trivial
  | .int _, n, _, _ => by cases n <;> trivial
  | .str _, n, _, _ => by cases n <;> trivial
  | .list ds, n, h, l => by
    simp only [PyData.plain] at h
    simp only [PyData.depth] at l
    cases n with
    | zero => omega
    | succ n => exact dp_ofs ds n h (by omega)
  | .tuple ds, n, h, l => by
    simp only [PyData.plain] at h
    simp only [PyData.depth] at l
    cases n with
    | zero => omega
    | succ n => exact dp_ofs ds n h (by omega)
  | .dict _, n, h, _ => by simp [PyData.plain] at h
theorem dp_ofs : ∀ (ds : List D) (n : Nat), PyData.plainAll ds = true → PyData.depthAll ds ≤ n → ∀ d ∈ ds, dp n d
  | [], n, _, _ => fun _ m => by cases m
  | d :: ds, n, h, l => fun x m => by
    simp only [PyData.plainAll, Bool.and_eq_true] at h
    simp only [PyData.depthAll] at l
    cases m with
    | head => exact dp_of d n h.1 (by omega)
    | tail _ m => exact dp_ofs ds n h.2 (by omega) x m
end
class Dep (n : Nat) (α : Type) [DecidableEq α] [Datum α] : Prop where
  le : Datum.depth α ≤ n
structure T3 (α β γ : Type) where
  a : α
  b : β
  c : γ
  deriving DecidableEq
structure T4 (α β γ δ : Type) where
  a : α
  b : β
  c : γ
  d : δ
  deriving DecidableEq
section
variable {n : Nat} {α β γ δ : Type} [DecidableEq α] [Datum α] [DecidableEq β] [Datum β] [DecidableEq γ] [Datum γ] [DecidableEq δ] [Datum δ]
instance : Datum (T3 α β γ) where
  toD p := .tuple [toD p.a, toD p.b, toD p.c]
  plain p := by simp only [PyData.plain, PyData.plainAll, Datum.plain, Bool.and_self]
  eqv p q := by
    simp only [PyData.eqv, PyData.eqvAll]
    rw [Datum.eqv, Datum.eqv, Datum.eqv, Bool.and_true, ← Bool.decide_and, ← Bool.decide_and]
    exact decide_eq_decide.mpr ⟨fun e => by cases p; cases q; simp_all, fun e => by rw [e]; exact ⟨rfl, rfl, rfl⟩⟩
  depth := max (Datum.depth α) (max (Datum.depth β) (Datum.depth γ)) + 1
  depth_le p := by
    have h1 := Datum.depth_le p.a
    have h2 := Datum.depth_le p.b
    have h3 := Datum.depth_le p.c
    simp only [PyData.depth, PyData.depthAll]
    omega
instance : Datum (T4 α β γ δ) where
  toD p := .tuple [toD p.a, toD p.b, toD p.c, toD p.d]
  plain p := by simp only [PyData.plain, PyData.plainAll, Datum.plain, Bool.and_self]
  eqv p q := by
    simp only [PyData.eqv, PyData.eqvAll]
    rw [Datum.eqv, Datum.eqv, Datum.eqv, Datum.eqv, Bool.and_true, ← Bool.decide_and, ← Bool.decide_and, ← Bool.decide_and]
    exact decide_eq_decide.mpr ⟨fun e => by cases p; cases q; simp_all, fun e => by rw [e]; exact ⟨rfl, rfl, rfl, rfl⟩⟩
  depth := max (Datum.depth α) (max (Datum.depth β) (max (Datum.depth γ) (Datum.depth δ))) + 1
  depth_le p := by
    have h1 := Datum.depth_le p.a
    have h2 := Datum.depth_le p.b
    have h3 := Datum.depth_le p.c
    have h4 := Datum.depth_le p.d
    simp only [PyData.depth, PyData.depthAll]
    omega
instance : Dep n Int := ⟨Nat.zero_le _⟩
instance : Dep n Bool := ⟨Nat.zero_le _⟩
instance : Dep n Str := ⟨Nat.zero_le _⟩
instance : Dep n Unit := ⟨Nat.zero_le _⟩
instance [h : Dep n α] : Dep (n + 1) (List α) := ⟨Nat.succ_le_succ h.le⟩
instance [h : Dep n α] : Dep (n + 1) (Tup α) := ⟨Nat.succ_le_succ h.le⟩
instance [h : Dep n α] [h' : Dep n β] : Dep (n + 1) (α × β) := ⟨Nat.succ_le_succ (Nat.max_le.mpr ⟨h.le, h'.le⟩)⟩
instance [h : Dep n α] [h' : Dep n β] [h2 : Dep n γ] : Dep (n + 1) (T3 α β γ) := ⟨Nat.succ_le_succ (Nat.max_le.mpr ⟨h.le, Nat.max_le.mpr ⟨h'.le, h2.le⟩⟩)⟩
instance [h : Dep n α] [h' : Dep n β] [h2 : Dep n γ] [h3 : Dep n δ] : Dep (n + 1) (T4 α β γ δ) := ⟨Nat.succ_le_succ (Nat.max_le.mpr ⟨h.le, Nat.max_le.mpr ⟨h'.le, Nat.max_le.mpr ⟨h2.le, h3.le⟩⟩⟩)⟩
theorem dp_toD [h : Dep n α] (a : α) : dp n (toD a) := dp_of _ _ (Datum.plain a) (Nat.le_trans (Datum.depth_le a) h.le)
theorem toD_int (a : Int) : toD a = .int a := rfl
theorem toD_str (a : Str) : toD a = .str a := rfl
theorem toD_bool (a : Bool) : toD a = .bool a := rfl
theorem toD_unit (a : Unit) : toD a = .none := rfl
theorem toD_list (xs : List α) : toD xs = .list (xs.map toD) := rfl
theorem toD_pair (a : α) (b : β) : toD (a, b) = .tuple [toD a, toD b] := rfl
theorem toD_prod (p : α × β) : toD p = .tuple [toD p.1, toD p.2] := rfl
theorem toD_t3 (p : T3 α β γ) : toD p = .tuple [toD p.a, toD p.b, toD p.c] := rfl
theorem toD_t4 (p : T4 α β γ δ) : toD p = .tuple [toD p.a, toD p.b, toD p.c, toD p.d] := rfl
theorem toD_tup (t : Tup α) : toD t = .tuple (t.items.map toD) := rfl
variable {Q : D → Prop}
theorem oEq_D [Dep 12 α] (a b : α) : oEq (toD a) (toD b) Q = Q (.bool (decide (a = b))) := by
  unfold oEq
  rw [Datum.eqv]
  exact propext ⟨fun h => h.2.2, fun h => ⟨dp_toD a, dp_toD b, h⟩⟩
theorem oNe_D [Dep 12 α] (a b : α) : oNe (toD a) (toD b) Q = Q (.bool (decide (a ≠ b))) := by
  unfold oNe
  rw [Datum.eqv, ← decide_not]
  exact propext ⟨fun h => h.2.2, fun h => ⟨dp_toD a, dp_toD b, h⟩⟩
theorem oEq_i (a b : Int) : oEq (.int a) (.int b) Q = Q (.bool (decide (a = b))) := oEq_D a b
theorem oNe_i (a b : Int) : oNe (.int a) (.int b) Q = Q (.bool (decide (a ≠ b))) := oNe_D a b
theorem oEq_s (a b : Str) : oEq (.str a) (.str b) Q = Q (.bool (decide (a = b))) := oEq_D a b
theorem oNe_s (a b : Str) : oNe (.str a) (.str b) Q = Q (.bool (decide (a ≠ b))) := oNe_D a b
theorem oEq_b (a b : Bool) : oEq (.bool a) (.bool b) Q = Q (.bool (decide (a = b))) := oEq_D a b
theorem oNe_b (a b : Bool) : oNe (.bool a) (.bool b) Q = Q (.bool (decide (a ≠ b))) := oNe_D a b
theorem oEq_l [Dep 11 α] (xs ys : List α) : oEq (.list (xs.map toD)) (.list (ys.map toD)) Q = Q (.bool (decide (xs = ys))) := oEq_D xs ys
theorem oNe_l [Dep 11 α] (xs ys : List α) : oNe (.list (xs.map toD)) (.list (ys.map toD)) Q = Q (.bool (decide (xs ≠ ys))) := oNe_D xs ys
theorem oEq_lnil [Dep 11 α] (xs : List α) : oEq (.list (xs.map toD)) (.list []) Q = Q (.bool (decide (xs = []))) := oEq_D xs []
theorem oNe_lnil [Dep 11 α] (xs : List α) : oNe (.list (xs.map toD)) (.list []) Q = Q (.bool (decide (xs ≠ []))) := oNe_D xs []
theorem oLt_i {a b : Int} : oLt (.int a) (.int b) Q = Q (.bool (decide (a < b))) := propext ⟨fun h => by have := h.2.2.2.2; simp only [PySem.W.dataLt_int] at this; exact this, oLt_int⟩
theorem oGt_i {a b : Int} : oGt (.int a) (.int b) Q = Q (.bool (decide (b < a))) := propext ⟨fun h => by have := h.2.2.2.2; simp only [PySem.W.dataLt_int] at this; exact this, oGt_int⟩
theorem oLe_i {a b : Int} : oLe (.int a) (.int b) Q = Q (.bool (decide (a ≤ b))) := propext ⟨fun h => by have := h.2.2.2.2; simp only [PySem.W.dataLt_int, PySem.W.not_lt_int] at this; exact this, oLe_int⟩
theorem oGe_i {a b : Int} : oGe (.int a) (.int b) Q = Q (.bool (decide (b ≤ a))) := propext ⟨fun h => by have := h.2.2.2.2; simp only [PySem.W.dataLt_int, PySem.W.not_lt_int] at this; exact this, oGe_int⟩
theorem oIn_l [Dep 11 α] (neg : Bool) (a : α) (xs : List α) : oIn neg (toD a) (.list (xs.map toD)) Q = Q (.bool (if neg then !decide (a ∈ xs) else decide (a ∈ xs))) := by
  show (dp 12 (toD a) ∧ dp 12 (toD xs) ∧ _) = _
  rw [PySem.W.any_datum]
  have : Dep 12 α := ⟨Nat.le_succ_of_le (Dep.le (n := 11))⟩
  exact propext ⟨fun h => h.2.2, fun h => ⟨dp_toD a, dp_toD xs, h⟩⟩
theorem oIn_li (neg : Bool) (a : Int) (xs : List Int) : oIn neg (.int a) (.list (xs.map toD)) Q = Q (.bool (if neg then !decide (a ∈ xs) else decide (a ∈ xs))) := oIn_l neg a xs
theorem oIn_ls (neg : Bool) (a : Str) (xs : List Str) : oIn neg (.str a) (.list (xs.map toD)) Q = Q (.bool (if neg then !decide (a ∈ xs) else decide (a ∈ xs))) := oIn_l neg a xs
end
def optD {α : Type} [DecidableEq α] [Datum α] : Option α → D
  | none => .none
  | some a => toD a
theorem optD_none {α : Type} [DecidableEq α] [Datum α] : optD (none : Option α) = .none := rfl
theorem optD_some {α : Type} [DecidableEq α] [Datum α] (a : α) : optD (some a) = toD a := rfl
theorem isNb_n (g : Bool) : isNb g .none = !g := rfl
theorem isNb_b (g b : Bool) : isNb g (.bool b) = g := rfl
theorem isNb_i (g : Bool) (b : Int) : isNb g (.int b) = g := rfl
theorem isNb_s (g : Bool) (b : Str) : isNb g (.str b) = g := rfl
theorem isNb_l (g : Bool) (b : List D) : isNb g (.list b) = g := rfl
theorem isNb_t (g : Bool) (b : List D) : isNb g (.tuple b) = g := rfl
theorem isNb_d (g : Bool) (b : List (D × D)) : isNb g (.dict b) = g := rfl
theorem isNb_some {α : Type} [DecidableEq α] [Datum α] (hn : ∀ a : α, toD a ≠ .none) (o : Option α) : isNb true (optD o) = o.isSome := by
  cases o with
  | none => rfl
  | some a => show isNb true (toD a) = true; have := hn a; cases h : toD a <;> first | (exact (this h).elim) | rfl
theorem isNb_none {α : Type} [DecidableEq α] [Datum α] (hn : ∀ a : α, toD a ≠ .none) (o : Option α) : isNb false (optD o) = o.isNone := by
  cases o with
  | none => rfl
  | some a => show isNb false (toD a) = false; have := hn a; cases h : toD a <;> first | (exact (this h).elim) | rfl
theorem isNb_sp {α β : Type} [DecidableEq α] [Datum α] [DecidableEq β] [Datum β] (o : Option (α × β)) : isNb true (optD o) = o.isSome := isNb_some (fun a z => by cases z) o
theorem isNb_np {α β : Type} [DecidableEq α] [Datum α] [DecidableEq β] [Datum β] (o : Option (α × β)) : isNb false (optD o) = o.isNone := isNb_none (fun a z => by cases z) o
theorem isNb_si (o : Option Int) : isNb true (optD o) = o.isSome := isNb_some (fun a z => by cases z) o
theorem isNb_ni (o : Option Int) : isNb false (optD o) = o.isNone := isNb_none (fun a z => by cases z) o
abbrev natD (n : Nat) : D := .int n
/-! ### items -/
theorem atI_f {α β : Type} (f : α → β) (xs : List α) (i : Int) : atI (xs.map f) i = (atI xs i).map f := by
  unfold atI
  rw [List.length_map]
  cases ixN xs.length i with
  | none => rfl
  | some j => show (xs.map f)[j]? = _; rw [List.getElem?_map]; rfl
theorem oIx_l {α : Type} {f : α → D} {xs : List α} {i : Int} {Q : D → Prop} : oIx (.list (xs.map f)) (.int i) Q = ∃ x, atI xs i = some x ∧ Q (f x) := by
  show (∃ d, atI (xs.map f) i = some d ∧ Q d) = _
  rw [atI_f]
  cases atI xs i with
  | none => exact propext ⟨fun ⟨_, e, _⟩ => (by cases e), fun ⟨_, e, _⟩ => (by cases e)⟩
  | some x => exact propext ⟨fun ⟨_, e, h⟩ => by cases e; exact ⟨x, rfl, h⟩, fun ⟨_, e, h⟩ => by cases e; exact ⟨_, rfl, h⟩⟩
theorem oIx_c {d : D} {ds : List D} {Q : D → Prop} : oIx (.tuple (d :: ds)) (.int 0) Q = Q d := by
  show (∃ x, atI (d :: ds) 0 = some x ∧ Q x) = _
  have : atI (d :: ds) 0 = some d := by
    unfold atI ixN
    rw [if_pos (by omega), if_pos (by rw [List.length_cons]; omega)]
    rfl
  rw [this]
  exact propext ⟨fun ⟨_, e, h⟩ => by cases e; exact h, fun h => ⟨_, rfl, h⟩⟩
theorem oIx_c1 {d d' : D} {ds : List D} {Q : D → Prop} : oIx (.tuple (d :: d' :: ds)) (.int 1) Q = Q d' := by
  show (∃ x, atI (d :: d' :: ds) 1 = some x ∧ Q x) = _
  have : atI (d :: d' :: ds) 1 = some d' := by
    unfold atI ixN
    rw [if_pos (by omega), if_pos (by rw [List.length_cons, List.length_cons]; omega)]
    rfl
  rw [this]
  exact propext ⟨fun ⟨_, e, h⟩ => by cases e; exact h, fun h => ⟨_, rfl, h⟩⟩
theorem oIx_c2 {d d' d2 : D} {ds : List D} {Q : D → Prop} : oIx (.tuple (d :: d' :: d2 :: ds)) (.int 2) Q = Q d2 := by
  show (∃ x, atI (d :: d' :: d2 :: ds) 2 = some x ∧ Q x) = _
  have : atI (d :: d' :: d2 :: ds) 2 = some d2 := by
    unfold atI ixN
    rw [if_pos (by omega), if_pos (by rw [List.length_cons, List.length_cons, List.length_cons]; omega)]
    rfl
  rw [this]
  exact propext ⟨fun ⟨_, e, h⟩ => by cases e; exact h, fun h => ⟨_, rfl, h⟩⟩
theorem atI_n {α : Type} (xs : List α) (i : Nat) : atI xs (i : Int) = xs[i]? := by
  unfold atI ixN
  rw [if_pos (by omega)]
  by_cases h : i < xs.length
  · rw [if_pos (by omega)]; rfl
  · rw [if_neg (by omega), List.getElem?_eq_none (by omega)]; rfl
theorem atI_nn {α : Type} (xs : List α) {i : Int} (h : 0 ≤ i) : atI xs i = xs[i.toNat]? := by
  have := atI_n xs i.toNat
  rwa [Int.toNat_of_nonneg h] at this
theorem atI_end {α : Type} (xs : List α) : atI xs (-1) = xs.getLast? := by
  unfold atI ixN
  rw [if_neg (by omega)]
  cases xs with
  | nil => rfl
  | cons x xs =>
    rw [if_pos (by rw [List.length_cons]; omega), List.getLast?_eq_getElem?]
    show (x :: xs)[_]? = _
    congr 1
    rw [List.length_cons]; omega
/-! ### loops by what they keep -/
section
variable {S α β : Type}
/-- the loop keeps J, of what is done and of the state -/
theorem forD_pre {gd : FG} {fb : FS} {DD : DEnds} (f : α → D) (ev : S → Ev) (xs : List α) (J : List α → S → Prop)
    (step : ∀ done x rest s, xs = done ++ x :: rest → J done s → ∀ nx : Ev → Prop, (∀ s', J (done ++ [x]) s' → nx (ev s')) → gd (f x) (ev s) fun ρ' => fb { DD with nx := nx, ct := nx, bk := DD.nx } ρ')
    (fin : ∀ s, J xs s → DD.nx (ev s)) : ∀ s, J [] s → forD gd fb (xs.map f) DD (ev s) := by
  suffices h : ∀ rest done s, xs = done ++ rest → J done s → forD gd fb (rest.map f) DD (ev s) from fun s h0 => h xs [] s rfl h0
  intro rest
  induction rest with
  | nil => intro done s e h; rw [List.append_nil] at e; subst e; exact fin s h
  | cons x rest ih =>
    intro done s e h
    exact step done x rest s e h _ fun s' h' => ih (done ++ [x]) s' (by rw [e]; simp) h'
/-- enumerate -/
theorem forD_en {gd : FG} {fb : FS} {DD : DEnds} (f : α → D) (ev : S → Ev) (xs : List α) (J : List α → S → Prop)
    (step : ∀ done x rest s, xs = done ++ x :: rest → J done s → ∀ nx : Ev → Prop, (∀ s', J (done ++ [x]) s' → nx (ev s')) → gd (.tuple [.int (done.length : Nat), f x]) (ev s) fun ρ' => fb { DD with nx := nx, ct := nx, bk := DD.nx } ρ')
    (fin : ∀ s, J xs s → DD.nx (ev s)) : ∀ s, J [] s → forD gd fb (xs.zipIdx.map fun p => .tuple [.int (p.2 : Nat), f p.1]) DD (ev s) := by
  suffices h : ∀ rest done s, xs = done ++ rest → J done s → forD gd fb ((rest.zipIdx done.length).map fun p => .tuple [.int (p.2 : Nat), f p.1]) DD (ev s) from fun s h0 => h xs [] s rfl h0
  intro rest
  induction rest with
  | nil => intro done s e h; rw [List.append_nil] at e; subst e; exact fin s h
  | cons x rest ih =>
    intro done s e h
    exact step done x rest s e h _ fun s' h' => by
      have := ih (done ++ [x]) s' (by rw [e]; simp) h'
      rw [List.length_append, List.length_singleton] at this
      exact this
theorem rg_len (n : Nat) : rgD 0 (n : Int) = (List.range n).map fun i : Nat => PyData.int (i : Nat) := by
  unfold rgD
  rw [show ((n : Int) - 0).toNat = n by omega]
  exact List.map_congr_left fun i _ => by rw [Int.zero_add]
/-- range: J of how many are done -/
theorem forD_rg {gd : FG} {fb : FS} {DD : DEnds} (lo hi : Int) (ev : S → Ev) (J : Nat → S → Prop)
    (step : ∀ (i : Nat) s, lo + i < hi → J i s → ∀ nx : Ev → Prop, (∀ s', J (i + 1) s' → nx (ev s')) → gd (.int (lo + i)) (ev s) fun ρ' => fb { DD with nx := nx, ct := nx, bk := DD.nx } ρ')
    (fin : ∀ s, J (hi - lo).toNat s → DD.nx (ev s)) (s : S) (h0 : J 0 s) : forD gd fb (rgD lo hi) DD (ev s) := by
  unfold rgD
  refine forD_pre _ ev _ (fun done s => J done.length s ∧ done = List.range done.length) (fun done x rest s e h nx hn => ?_) (fun s h => fin s (by simpa using h.1)) s ⟨h0, rfl⟩
  have hx : x = done.length := by
    have h1 : (List.range (hi - lo).toNat)[done.length]? = some x := by rw [e]; simp
    have hl : done.length < (hi - lo).toNat := by
      have := congrArg List.length e
      simp at this; omega
    rw [List.getElem?_range hl] at h1
    cases h1; rfl
  have hl : done.length < (hi - lo).toNat := by
    have := congrArg List.length e
    simp at this; omega
  rw [hx]
  exact step done.length s (by omega) h.1 nx fun s' h' => hn s' ⟨by simpa using h', by rw [List.length_append, List.length_singleton, List.range_succ, ← h.2, hx]⟩
theorem forD_n {gd : FG} {fb : FS} {DD : DEnds} (n : Nat) (ev : S → Ev) (J : Nat → S → Prop)
    (step : ∀ (i : Nat) s, i < n → J i s → ∀ nx : Ev → Prop, (∀ s', J (i + 1) s' → nx (ev s')) → gd (.int (i : Nat)) (ev s) fun ρ' => fb { DD with nx := nx, ct := nx, bk := DD.nx } ρ')
    (fin : ∀ s, J n s → DD.nx (ev s)) (s : S) (h0 : J 0 s) : forD gd fb (rgD 0 (n : Int)) DD (ev s) := by
  refine forD_rg 0 n ev J (fun i s hi hj nx hn => ?_) (fun s h => fin s (by simpa using h)) s h0
  rw [Int.zero_add]
  exact step i s (by omega) hj nx hn
theorem snoc_ind {α : Type} {P : List α → Prop} (h0 : P []) (h : ∀ xs x, P xs → P (xs ++ [x])) (xs : List α) : P xs := by
  have : ∀ ys : List α, P ys.reverse := by
    intro ys
    induction ys with
    | nil => exact h0
    | cons y ys ih => rw [List.reverse_cons]; exact h _ _ ih
  have := this xs.reverse
  rwa [List.reverse_reverse] at this
theorem take_snoc {α : Type} {xs : List α} {i : Nat} (h : i < xs.length) : xs.take (i + 1) = xs.take i ++ [xs[i]] := by simp
theorem cut_to {α : Type} (xs : List α) (k : Nat) : cut xs none (some (k : Int)) = xs.take k := by
  unfold cut
  rw [show HT.sIx xs.length 0 none = 0 from rfl, HT.sIx_nat, List.drop_zero, Nat.sub_zero]
  by_cases h : k ≤ xs.length
  · rw [Nat.min_eq_left h]
  · rw [Nat.min_eq_right (by omega), List.take_of_length_le (Nat.le_refl _), List.take_of_length_le (by omega)]
/-- a comprehension keeps J, of what is done and of what stands -/
theorem compD_pre {gd : FG} {ft : FT} {fe : FE} {ρ : Ev} {Q : D → Prop} (f : α → D) (g : β → D) (xs : List α) (J : List α → List β → Prop) (hl : xs.length ≤ sizeLine) (jl : ∀ done ys, J done ys → ys.length ≤ done.length)
    (step : ∀ done x rest ys, xs = done ++ x :: rest → J done ys → (ys.map g).length < sizeLine → ∀ nx : List D → Prop, (∀ ys', J (done ++ [x]) ys' → nx (ys'.map g)) → gd (f x) ρ fun ρ' => ft ρ' fun b => if b = true then fe ρ' fun y => (ys.map g).length < sizeLine ∧ nx (ys.map g ++ [y]) else nx (ys.map g))
    (h0 : J [] []) (fin : ∀ ys, J xs ys → Q (.list (ys.map g))) : compD gd ft fe (xs.map f) ρ [] Q := by
  suffices h : ∀ rest done ys, xs = done ++ rest → J done ys → compD gd ft fe (rest.map f) ρ (ys.map g) Q from h xs [] [] rfl h0
  intro rest
  induction rest with
  | nil => intro done s e h; rw [List.append_nil] at e; subst e; exact fin s h
  | cons x rest ih =>
    intro done ys e h
    have hk := jl done ys h
    have hx : xs.length = done.length + rest.length + 1 := by rw [e]; simp; omega
    exact step done x rest ys e h (by rw [List.length_map]; omega) (fun ds => compD gd ft fe (rest.map f) ρ ds Q) fun ys' h' => ih (done ++ [x]) ys' (by rw [e]; simp) h'
/-- a comprehension that filters and maps -/
theorem compD_pure {gd : FG} {ft : FT} {fe : FE} {ρ : Ev} {Q : D → Prop} (f : α → D) (g : β → D) (xs : List α) (p : α → Bool) (k : α → β) (hl : xs.length ≤ sizeLine)
    (step : ∀ x ∈ xs, ∀ (ds : List D) (nx : List D → Prop), ds.length < sizeLine → (if p x = true then nx (ds ++ [g (k x)]) else nx ds) → gd (f x) ρ fun ρ' => ft ρ' fun b => if b = true then fe ρ' fun y => ds.length < sizeLine ∧ nx (ds ++ [y]) else nx ds)
    (fin : Q (.list (((xs.filter p).map k).map g))) : compD gd ft fe (xs.map f) ρ [] Q := by
  refine compD_pre f g xs (fun done ys => ys = (done.filter p).map k) hl (fun done ys e => ?_) (fun done x rest ys e h hk nx hn => ?_) rfl fun ys e => by rw [e]; exact fin
  · rw [e, List.length_map]; exact List.length_filter_le _ _
  · refine step x (by rw [e]; simp) _ nx hk ?_
    have := hn ((List.filter p (done ++ [x])).map k) rfl
    subst h
    rw [List.filter_append, List.map_append, List.map_append] at this
    by_cases hp : p x = true
    · rw [if_pos hp]; simpa [hp] using this
    · rw [if_neg hp]; simpa [hp] using this
/-- .. over a range -/
theorem compD_rg {gd : FG} {ft : FT} {fe : FE} {ρ : Ev} {Q : D → Prop} (lo hi : Int) (g : β → D) (J : Nat → List β → Prop) (hl : hi - lo ≤ sizeLine) (jl : ∀ i ys, J i ys → ys.length ≤ i)
    (step : ∀ (i : Nat) ys, lo + i < hi → J i ys → (ys.map g).length < sizeLine → ∀ nx : List D → Prop, (∀ ys', J (i + 1) ys' → nx (ys'.map g)) → gd (.int (lo + i)) ρ fun ρ' => ft ρ' fun b => if b = true then fe ρ' fun y => (ys.map g).length < sizeLine ∧ nx (ys.map g ++ [y]) else nx (ys.map g))
    (h0 : J 0 []) (fin : ∀ ys, J (hi - lo).toNat ys → Q (.list (ys.map g))) : compD gd ft fe (rgD lo hi) ρ [] Q := by
  unfold rgD
  refine compD_pre _ g _ (fun done ys => J done.length ys ∧ done = List.range done.length) (by simp; omega) (fun done ys h => jl _ _ h.1) (fun done x rest ys e h hk nx hn => ?_) ⟨h0, rfl⟩ fun ys h => fin ys (by simpa using h.1)
  have hl : done.length < (hi - lo).toNat := by
    have := congrArg List.length e
    simp at this; omega
  have hx : x = done.length := by
    have h1 : (List.range (hi - lo).toNat)[done.length]? = some x := by rw [e]; simp
    rw [List.getElem?_range hl] at h1
    cases h1; rfl
  rw [hx]
  exact step done.length ys (by omega) h.1 hk nx fun s' h' => hn s' ⟨by simpa using h', by rw [List.length_append, List.length_singleton, List.range_succ, ← h.2, hx]⟩
/-- a while loop keeps J and steps down -/
theorem whD_of {gc : FT} {fb : FS} {DD : DEnds} (ev : S → Ev) (J : S → Prop) (μ : S → Nat)
    (step : ∀ s, J s → ∀ nx : Ev → Prop, (∀ s', J s' → μ s' < μ s → nx (ev s')) → gc (ev s) fun t => if t = true then fb { DD with nx := nx, ct := nx, bk := DD.nx } (ev s) else DD.nx (ev s)) (s : S) (h : J s) : ∃ n, whD gc fb n DD (ev s) := by
  refine ⟨μ s + 1, ?_⟩
  suffices q : ∀ n s, J s → μ s < n → whD gc fb n DD (ev s) from q _ s h (Nat.lt_succ_self _)
  intro n
  induction n with
  | zero => intro s _ l; omega
  | succ n ih => intro s h l; exact step s h _ fun s' h' l' => ih s' h' (by omega)
theorem enD_map (f : α → D) (xs : List α) : enD (xs.map f) = xs.zipIdx.map fun p => .tuple [.int (p.2 : Nat), f p.1] := by
  refine List.ext_getElem? fun i => ?_
  unfold enD
  rw [List.getElem?_zipWith, List.length_map, List.getElem?_map, List.getElem?_map, List.getElem?_zipIdx]
  cases e : xs[i]? with
  | none => cases (List.range xs.length)[i]? <;> rfl
  | some x =>
    have hi : i < xs.length := by
      by_cases h : i < xs.length
      · exact h
      · rw [List.getElem?_eq_none (by omega)] at e; cases e
    rw [List.getElem?_range hi]
    simp
end
end L3

/-! L3q: a dict is locked while it is walked. -/
namespace L3
open PySem PySem.Spec L2
section
variable {X : Cx} {k : Kd} {tg e : Expr} {fa : FE} {m : Md} {pos : Pos}
/-- the heap with a locked -/
def lkG {k : Kd} (g : Gh k) (a : Addr) (o : HO) : Gh k where
  Z := g.Z
  H0 := fun b => if b = a ∧ g.H0 a ≠ none then some o else g.H0 b
  vz := g.vz
theorem kps_lock {Y : Addr → Prop} {H : Hp} {a : Addr} {od : Obj} {u : HO} (ha : H a = some u) (hu : (∃ kvs, u = .dK kvs) ∨ ∃ kvs, u = .dT kvs) : Kps Y H (upd H a (.frz od u)) := fun b n => by
  by_cases q : b = a
  · subst q
    refine ⟨fun xs e => ?_, fun xs e => ?_, fun v r => ?_, fun v r => ?_⟩
    · rw [ha] at e; cases e; rcases hu with ⟨_, z⟩ | ⟨_, z⟩ <;> cases z
    · rw [ha] at e; cases e; rcases hu with ⟨_, z⟩ | ⟨_, z⟩ <;> cases z
    · rcases r with r | ⟨o, r⟩
      · rw [ha] at r; cases r; exact .inr ⟨od, upd_same⟩
      · rw [ha] at r; cases r; rcases hu with ⟨_, z⟩ | ⟨_, z⟩ <;> cases z
    · rcases r with r | ⟨o, r⟩
      · rw [ha] at r; cases r; exact .inr ⟨od, upd_same⟩
      · rw [ha] at r; cases r; rcases hu with ⟨_, z⟩ | ⟨_, z⟩ <;> cases z
  · unfold Rd
    rw [upd_ne q]
    exact ⟨fun _ e => e, fun _ e => e, fun _ e => e, fun _ e => e⟩
theorem kps_unlock {Y : Addr → Prop} {H : Hp} {a : Addr} {od : Obj} {u : HO} (ha : H a = some (.frz od u)) : Kps Y H (upd H a u) := fun b n => by
  by_cases q : b = a
  · subst q
    refine ⟨fun xs e => ?_, fun xs e => ?_, fun v r => ?_, fun v r => ?_⟩
    · rw [ha] at e; cases e
    · rw [ha] at e; cases e
    · rcases r with r | ⟨o, r⟩
      · rw [ha] at r; cases r
      · rw [ha] at r; cases r; exact .inl upd_same
    · rcases r with r | ⟨o, r⟩
      · rw [ha] at r; cases r
      · rw [ha] at r; cases r; exact .inl upd_same
  · unfold Rd
    rw [upd_ne q]
    exact ⟨fun _ e => e, fun _ e => e, fun _ e => e, fun _ e => e⟩
theorem EnvOk.lock {g : Gh k} {O : Op} {ρ : Ev} {σ : L2.St} {H : Hp} {a : Addr} {od : Obj} {u : HO} (I : EnvOk g O ρ σ H) (na : ¬ Yo g O a) (ha : H a = some u) (hu : (∃ kvs, u = .dK kvs) ∨ ∃ kvs, u = .dT kvs) : EnvOk (lkG g a (.frz od u)) O ρ σ (upd H a (.frz od u)) := by
  have nz : ∀ b, g.Z b → b ≠ a := fun b z e => na (.inl (e ▸ z))
  have no : ∀ j b, O j = some b → b ≠ a := fun j b z e => na (.inr ⟨j, by rw [z, e]⟩)
  have kp : Kps (Yo g O) H (upd H a (.frz od u)) := kps_lock ha hu
  refine ⟨I.len, I.inj, fun j b e => ⟨(I.opn j b e).1, ?_, ?_⟩, fun b z => by rw [upd_ne (nz b z)]; exact I.zdom b z, fun b z => ?_, fun b o n e => ?_, ?_, I.bnd, fun j t e => ?_⟩
  · show (if b = a ∧ _ then _ else _) = _
    rw [if_neg (fun z => no j b e z.1)]; exact (I.opn j b e).2.1
  · rw [upd_ne (no j b e)]; exact (I.opn j b e).2.2
  · by_cases q : b = a
    · subst q; rw [upd_same] at z; cases z
    · rw [upd_ne q] at z
      show (if b = a ∧ _ then _ else _) = _
      rw [if_neg (fun z => q z.1)]; exact I.dom b z
  · have e : (if b = a ∧ g.H0 a ≠ none then some (HO.frz od u) else g.H0 b) = some o := e
    by_cases q : b = a
    · subst q
      by_cases z : g.H0 b = none
      · rw [if_neg (fun y => y.2 z), z] at e; cases e
      · rw [if_pos ⟨rfl, z⟩] at e; rw [upd_same]; exact e
    · rw [if_neg (fun y => q y.1)] at e; rw [upd_ne q]; exact I.base b o n e
  · exact k.pk H _ (fun b o v e => by rw [upd_ne (nz b (g.vz b v))]; exact e) I.pl
  · have z := I.sl j t e
    have kq : ∀ b o, O j = some b → H b = some o → upd H a (.frz od u) b = some o := fun b o q e => by rw [upd_ne (no j b q)]; exact e
    cases t with
    | un => trivial
    | raw v => exact z
    | dat d => obtain ⟨v, e1, e2⟩ := z; exact ⟨v, e1, Is.mono (fun _ y => y) kp _ _ e2⟩
    | opl ds => obtain ⟨b, xs, e1, e2, e3, e4⟩ := z; exact ⟨b, xs, e1, e2, kq b _ e1 e3, IsAll.mono (fun _ y => y) kp _ _ e4⟩
    | opd es => obtain ⟨b, e1, e2, e3⟩ := z; exact ⟨b, e1, e2, e3.mono (fun _ y => y) kp fun o => kq b o e1⟩
    | lkd es =>
      obtain ⟨b, o, u', e1, n, e2, e3⟩ := z
      have q : b ≠ a := fun q => by
        rw [q, ha] at e2; cases e2
        rcases hu with ⟨_, z⟩ | ⟨_, z⟩ <;> cases z
      exact ⟨b, o, u', e1, n, by rw [upd_ne q]; exact e2, e3.mono (fun _ y => y) kp⟩
theorem EnvOk.putLk {g : Gh k} {O : Op} {ρ : Ev} {σ : L2.St} {H : Hp} {i : Nat} {es : List (D × D)} {a : Addr} {o : Obj} {u : HO} (I : EnvOk g O ρ σ H) (hs : σ[i]? = some (some (.ref a))) (na : ¬ Yo g O a) (ha : H a = some (.frz o u)) (hc : LkC (Yo g O) H u es) : EnvOk g O (ρ.set i (.lkd es)) σ H := by
  refine ⟨by rw [List.length_set]; exact I.len, I.inj, I.opn, I.zdom, I.dom, I.base, I.pl, I.bnd, fun j t e => ?_⟩
  by_cases hj : i = j
  · subst hj
    by_cases hl : i < ρ.length
    · rw [List.getElem?_set_self hl] at e; cases e
      exact ⟨a, o, u, hs, na, ha, hc⟩
    · rw [List.getElem?_eq_none (by rw [List.length_set]; omega)] at e; cases e
  · rw [List.getElem?_set_ne hj] at e; exact I.sl j t e
/-- while it is evaluated the dict at i is locked -/
def fLkE (i : Nat) (fa : FE) : FE := fun ρ Q => match ρ[i]? with
  | some (.dat (.dict es)) => fa (ρ.set i (.lkd es)) Q
  | _ => False
theorem Res.unlock {Y Z : Addr → Prop} {H H2 : Hp} {a : Addr} {od : Obj} {u : HO} {v : V} {d : D} (hH : H a ≠ none) (h2 : H2 a = some (.frz od u)) (r : Res Y Z (upd H a (.frz od u)) H2 m v d) : Res Y Z H (upd H2 a u) m v d := by
  have sub : ∀ {Y : Addr → Prop}, Kps Y H2 (upd H2 a u) := kps_unlock h2
  have nn : ∀ x, upd H a (.frz od u) x = none → H x = none ∧ x ≠ a := fun x e => by
    by_cases q : x = a
    · subst q; rw [upd_same] at e; cases e
    · rw [upd_ne q] at e; exact ⟨e, q⟩
  cases m with
  | nw =>
    obtain ⟨x, xs, ds, e1, e2, e3, e4, e5⟩ := r
    obtain ⟨e3, q⟩ := nn x e3
    exact ⟨x, xs, ds, e1, e2, e3, by rw [upd_ne q]; exact e4, IsAll.mono (fun _ y => y) sub _ _ e5⟩
  | nd =>
    obtain ⟨x, es, e1, e2, e3, e4⟩ := r
    obtain ⟨e3, q⟩ := nn x e3
    exact ⟨x, es, e1, e2, e3, e4.mono (fun _ y => y) sub fun o e => by rw [upd_ne q]; exact e⟩
  | fz => exact Is.mono (fun _ y => y) sub _ _ r
  | sh => exact IsTp.mono (fun _ y => y) sub sub r
theorem Stp.unlock {H H2 : Hp} {a : Addr} {od : Obj} {u : HO} (nv : ¬ k.Vo a) (hH : H a = some u) (s : Stp k (upd H a (.frz od u)) H2) : Stp k H (upd H2 a u) where
  kp := fun b o n e => by
    by_cases q : b = a
    · subst q; rw [hH] at e; rw [upd_same]; exact e
    · rw [upd_ne q]; exact s.kp b o n (by rw [upd_ne q]; exact e)
  dm := fun b e => by
    by_cases q : b = a
    · subst q; rw [upd_same] at e; cases e
    · rw [upd_ne q] at e; have := s.dm b e; rw [upd_ne q] at this; exact this
  pl := fun h => by
    have h1 : k.Pl (upd H a (.frz od u)) := k.pk H _ (fun b o v e => by rw [upd_ne (fun (z : b = a) => nv (z ▸ v))]; exact e) h
    exact k.pk H2 _ (fun b o v e => by rw [upd_ne (fun (z : b = a) => nv (z ▸ v))]; exact e) (s.pl h1)
theorem de_lock (i : Nat) (ha : DE X k m e fa) : DE X k m e (fLkE i fa) := by
  obtain ⟨t, p, q⟩ := ha
  refine ⟨fun σ H Q => tLockE t σ H Q ∨ t σ H Q, ⟨fun pins s σ H Q I h => h.elim (fun h => (pe_lock p).run pins s σ H Q I h) fun h => p.run pins s σ H Q I h⟩, fun g O ρ σ H Q R I hf w => ?_⟩
  unfold fLkE at hf
  split at hf
  · rename_i es e
    obtain ⟨v, e1, a, rfl, na, hc⟩ := I.sl i _ e
    have go : ∀ u, ((∃ kvs, u = HO.dK kvs) ∨ ∃ kvs, u = HO.dT kvs) → Rd H a u → LkC (Yo g O) H u es → tLockE t σ H R ∨ t σ H R := fun u hu r hc => by
      rcases r with r | ⟨o, r⟩
      · refine .inl ⟨a, u, r, ?_, fun od => ?_⟩
        · rcases hu with ⟨_, z⟩ | ⟨_, z⟩ <;> subst z <;> exact trivial
        · have I1 := (I.lock (od := od) na r hu).putLk (i := i) (es := es) e1 na upd_same (hc.mono (fun _ y => y) (kps_lock r hu))
          refine q _ O _ σ _ Q _ I1 hf fun v H2 d s rs hq => ?_
          have h2 : H2 a = some (.frz od u) := s.kp a _ (fun z => na (.inl (g.vz a z))) upd_same
          exact ⟨h2, w v _ d (s.unlock (fun z => na (.inl (g.vz a z))) r) (Res.unlock (by rw [r]; intro z; cases z) h2 rs) hq⟩
      · exact .inr (q g O _ σ H Q R (I.putLk e1 na r hc) hf w)
    rcases hc with ⟨kvs, r, h⟩ | ⟨kvs, ⟨n, r⟩, h⟩
    · exact go _ (.inl ⟨_, rfl⟩) r (.inl ⟨kvs, rfl, h⟩)
    · exact go _ (.inr ⟨_, rfl⟩) r (.inr ⟨kvs, ⟨n, rfl⟩, h⟩)
  · exact hf.elim
/-- the keys of a locked dict -/
def fKeys (i : Nat) : FI := fun ρ Q => match ρ[i]? with
  | some (.lkd es) => keysOk es ∧ Q (es.map (·.1))
  | _ => False
theorem IsKV.len {Y : Addr → Prop} {H : Hp} : ∀ {es : List (D × D)} {kvs : List (Key × V)}, IsKV Y H kvs es → kvs.length = es.length
  | [], _, h => by cases (show _ = _ from h); rfl
  | (k, d) :: es, _, ⟨k', v, r, e, ek, h1, h2⟩ => by subst e; rw [List.length_cons, List.length_cons, IsKV.len h2]
theorem IsKV.key {Y : Addr → Prop} {H : Hp} : ∀ {es : List (D × D)} {kvs : List (Key × V)} {i : Nat} {p : D × D}, IsKV Y H kvs es → es[i]? = some p → ∃ k v, kvs[i]? = some (k, v) ∧ p.1 = kD k
  | [], _, _, _, _, e => by simp at e
  | (k, d) :: es, _, 0, p, ⟨k', v, r, e, ek, h1, h2⟩, q => by subst e; simp at q; subst q; exact ⟨k', v, rfl, ek⟩
  | (k, d) :: es, _, i + 1, p, ⟨k', v, r, e, ek, h1, h2⟩, q => by subst e; exact IsKV.key (i := i) h2 (by simpa using q)
theorem di_keys {y : Str} {yp : Pos} (b : Bool) (i : Nat) (hN : X.N[i]? = some y := by rfl) (hv : Vis X.env.scope y := by first | exact Or.inl rfl | exact Or.inr (Or.inl rfl) | exact Or.inr (Or.inr rfl)) (hd : (y == ("__debug__" : Str)) = false := by decide) (hcd : (y == ("__classdict__" : Str)) = false := by decide) : DI X k b tg (.Name y yp) (fKeys i) := by
  refine ⟨_, pi_keys (pv i hN hv hd hcd), fun g O ρ σ H Q R I hf w => ?_⟩
  unfold fKeys at hf
  split at hf
  · rename_i es e
    obtain ⟨hk, hq⟩ := hf
    obtain ⟨a, o, u, e1, na, ha, hc⟩ := I.sl i _ e
    rcases hc with ⟨kvs, rfl, h⟩ | ⟨kvs, ⟨n, rfl⟩, h⟩
    · refine ⟨_, e1, a, o, rfl, .inl ⟨kvs, ha, w _ H _ (Stp.refl k H) (fun j H' kp => ?_) hq⟩⟩
      have ha' : H' a = some (.frz o (.dK kvs)) := kp a _ (fun y => na (by cases b with | true => exact y | false => exact .inl y)) ha
      refine ⟨fun hl => ⟨ha', by rw [h.len]; simpa using hl⟩, fun d hd => ?_⟩
      rw [List.getElem?_map] at hd
      cases hp : es[j]? with
      | none => rw [hp] at hd; cases hd
      | some p =>
        rw [hp] at hd
        cases (show some p.1 = some d from hd)
        obtain ⟨kk, v, hkv, ek⟩ := h.key hp
        refine ⟨⟨ha', ?_⟩, fun x H'' ⟨eH, kk', v', hkv', ex⟩ => ?_⟩
        · by_cases hl : j < kvs.length
          · exact hl
          · rw [List.getElem?_eq_none (by omega)] at hkv; cases hkv
        · subst eH
          rw [hkv] at hkv'; cases hkv'
          refine ⟨Same.refl _, fun Y' _ _ => ?_⟩
          rw [ek, ex]
          cases kk <;> rfl
    · cases es with
      | nil => exact (n (show _ = _ from h)).elim
      | cons p es =>
        obtain ⟨k', v, r, _, ek, _⟩ := h
        have := hk _ List.mem_cons_self
        rw [ek] at this
        exact this.elim
  · exact hf.elim
end
end L3

/-! L3r: is True, is False. -/
namespace L3
open PySem PySem.Spec L2 PyProof.Rows
section
variable {X : Cx}
def oIsB (neg : Bool) : D → D → (D → Prop) → Prop
  | .bool a, .bool b, Q => Q (.bool (neg ^^ decide (a = b)))
  | _, .bool _, Q => Q (.bool neg)
  | _, _, _ => False
theorem isB_v {Y Z : Addr → Prop} {H : Hp} {x : V} {d : D} {b : Bool} {v : Value} (h : IsTp Y Z H x d) (r : RelV x v) : (d = .bool b ∧ v = .bool b) ∨ ((∀ c, d = .bool c → c ≠ b) ∧ v ≠ .bool b ∧ plainIs v (.bool b) = true) := by
  cases d with
  | none => cases (show x = _ from h); cases (show v = Value.none from r); exact .inr ⟨fun c e => (by cases e), fun e => (by cases e), rfl⟩
  | bool c =>
    cases (show x = _ from h); cases (show v = Value.bool c from r)
    by_cases e : c = b
    · subst e; exact .inl ⟨rfl, rfl⟩
    · exact .inr ⟨fun c' q => (by cases q; exact e), fun q => (by cases q; exact e rfl), rfl⟩
  | int i => cases (show x = _ from h); obtain ⟨t, rfl⟩ := r; exact .inr ⟨fun c e => (by cases e), fun e => (by cases e), rfl⟩
  | str i => cases (show x = _ from h); obtain ⟨t, rfl⟩ := r; exact .inr ⟨fun c e => (by cases e), fun e => (by cases e), rfl⟩
  | list ds => obtain ⟨a, xs, rfl, _⟩ := h; cases r; exact .inr ⟨fun c e => (by cases e), fun e => (by cases e), rfl⟩
  | tuple ds => obtain ⟨a, xs, rfl, _⟩ := h; cases r; exact .inr ⟨fun c e => (by cases e), fun e => (by cases e), rfl⟩
  | dict ds => obtain ⟨a, rfl, _⟩ := h; cases r; exact .inr ⟨fun c e => (by cases e), fun e => (by cases e), rfl⟩
theorem oIsB_eq {neg : Bool} {d : D} {b : Bool} {Q : D → Prop} (h : oIsB neg d (.bool b) Q) : (d = .bool b ∧ Q (.bool (!neg))) ∨ ((∀ c, d = .bool c → c ≠ b) ∧ Q (.bool neg)) := by
  cases d with
  | bool c =>
    have h : Q (.bool (neg ^^ decide (c = b))) := h
    by_cases e : c = b
    · subst e; left; refine ⟨rfl, ?_⟩; simpa using h
    · right; refine ⟨fun c' q => by cases q; exact e, ?_⟩; simpa [e] using h
  | _ => exact .inr ⟨fun c e => (by cases e), h⟩
theorem opd_isB : OpR X (compareOp .Is) (rD2 .fz (oIsB false)) := by
  intro pins s σ H x y v u Q I rx ry ⟨Y, Z, d1, d2, P, zy, dm, h1, h2, ho, w⟩
  cases d2 with
  | bool b =>
    cases (show y = _ from h2)
    cases (show u = Value.bool b from ry)
    rcases isB_v (b := b) h1 rx with ⟨e, rfl⟩ | ⟨e, ne, pl⟩
    · rcases oIsB_eq ho with ⟨_, hq⟩ | ⟨z, _⟩
      · exact wpAny_is_self rfl ⟨.bl true, H, I, rfl, w (.bl true) H (.bool true) (Same.refl _) rfl hq⟩
      · exact (z b e rfl).elim
    · rcases oIsB_eq ho with ⟨z, _⟩ | ⟨_, hq⟩
      · exact (e b z rfl).elim
      · exact wpAny_is_other pl ne ⟨.bl false, H, I, rfl, w (.bl false) H (.bool false) (Same.refl _) rfl hq⟩
  | _ => cases d1 <;> exact (show False from ho).elim
theorem opd_isNotB : OpR X (compareOp .IsNot) (rD2 .fz (oIsB true)) := by
  intro pins s σ H x y v u Q I rx ry ⟨Y, Z, d1, d2, P, zy, dm, h1, h2, ho, w⟩
  cases d2 with
  | bool b =>
    cases (show y = _ from h2)
    cases (show u = Value.bool b from ry)
    rcases isB_v (b := b) h1 rx with ⟨e, rfl⟩ | ⟨e, ne, pl⟩
    · rcases oIsB_eq ho with ⟨_, hq⟩ | ⟨z, _⟩
      · exact wpAny_isNot_self rfl ⟨.bl false, H, I, rfl, w (.bl false) H (.bool false) (Same.refl _) rfl hq⟩
      · exact (z b e rfl).elim
    · rcases oIsB_eq ho with ⟨z, _⟩ | ⟨_, hq⟩
      · exact (e b z rfl).elim
      · exact wpAny_isNot_other pl ne ⟨.bl true, H, I, rfl, w (.bl true) H (.bool true) (Same.refl _) rfl hq⟩
  | _ => cases d1 <;> exact (show False from ho).elim
end
theorem DefAt.none {P : Program} {w : World} {K : PySem.W.Frag} {mg : Str → Option Value} {base : Heap} {x : Str} {st : Stmt} {N ps : List Str} {n : Nat} {sp : Sp} (D : DefAt K mg x st ps) (S : FnScope N ps (defScope st)) (h : ∀ vs H Q E, ¬ sp vs H Q E) : Ok P w K mg base (n + 1) x ps sp :=
  D.okV S (fun vs H Q E z => (h vs H Q E z).elim) fun _ _ _ _ _ H vs Q E _ z => (h vs H Q E z).elim
end L3

/-! L3s: dicts with a Lean type; parts of a list; what is chosen on the way. -/
namespace L3
open PySem PySem.Spec L2
open PySem.W (Datum Tup)
open PySem.W.Datum (toD)
class KeyT (κ : Type) [DecidableEq κ] [Datum κ] : Prop where
  ok : ∀ k : κ, isKey (toD k)
instance : KeyT Int := ⟨fun _ => trivial⟩
instance : KeyT Str := ⟨fun _ => trivial⟩
section
variable {κ ν : Type} [DecidableEq κ] [Datum κ] [KeyT κ] {e : ν → D}
def encm (e : ν → D) (m : List (κ × ν)) : List (D × D) := m.map fun p => (toD p.1, e p.2)
def lookM (m : List (κ × ν)) (k : κ) : Option ν := (m.find? fun p => decide (p.1 = k)).map (·.2)
def putM (m : List (κ × ν)) (k : κ) (v : ν) : List (κ × ν) := if (m.any fun p => decide (p.1 = k)) = true then m.map (fun p => if p.1 = k then (p.1, v) else p) else m ++ [(k, v)]
theorem keysOk_enc (m : List (κ × ν)) : keysOk (encm e m) := fun p hp => by
  obtain ⟨q, _, rfl⟩ := List.mem_map.mp hp
  exact KeyT.ok _
theorem lookD_enc (m : List (κ × ν)) (k : κ) : lookD (encm e m) (toD k) = (lookM m k).map e := by
  unfold lookD lookM encm
  rw [List.find?_map]
  have : ((fun p : D × D => PyData.eqv p.1 (toD k)) ∘ fun p : κ × ν => (toD p.1, e p.2)) = fun p : κ × ν => decide (p.1 = k) := by
    funext p; exact Datum.eqv p.1 k
  rw [this]
  cases m.find? fun p => decide (p.1 = k) <;> rfl
theorem putD_enc (m : List (κ × ν)) (k : κ) (v : ν) : putD (encm e m) (toD k) (e v) = encm e (putM m k v) := by
  unfold putD putM encm
  have ha : ((m.map fun p : κ × ν => ((toD p.1, e p.2) : D × D)).any fun p => PyData.eqv p.1 (toD k)) = m.any fun p => decide (p.1 = k) := by
    rw [List.any_map]; congr 1; funext p; exact Datum.eqv p.1 k
  rw [ha]
  split
  · rw [List.map_map, List.map_map]
    refine List.map_congr_left fun p _ => ?_
    show (if PyData.eqv (toD p.1) (toD k) = true then _ else _) = _
    rw [Datum.eqv]
    by_cases h : p.1 = k
    · simp [h]
    · simp [h]
  · rw [List.map_append]; rfl
theorem look_put (m : List (κ × ν)) (k k' : κ) (v : ν) : lookM (putM m k v) k' = if k' = k then some v else lookM m k' := by
  unfold putM lookM
  split
  · rename_i h
    induction m with
    | nil => simp at h
    | cons p m ih =>
      rw [List.map_cons, List.find?_cons, List.find?_cons]
      by_cases hp : p.1 = k
      · rw [if_pos hp]
        by_cases hk : k' = k
        · subst hk; simp [hp]
        · have h1 : ¬ k = k' := fun z => hk z.symm
          rw [if_neg hk]
          simp only [hp, h1, decide_false]
          clear ih h
          have : ∀ m : List (κ × ν), (List.find? (fun p => decide (p.1 = k')) (m.map fun p => if p.1 = k then (p.1, v) else p)).map (·.2) = (List.find? (fun p => decide (p.1 = k')) m).map (·.2) := by
            intro m
            induction m with
            | nil => rfl
            | cons q m ih =>
              rw [List.map_cons, List.find?_cons, List.find?_cons]
              by_cases hq : q.1 = k
              · rw [if_pos hq]; simp only [hq, h1, decide_false]; exact ih
              · rw [if_neg hq]
                by_cases hq' : q.1 = k'
                · simp [hq']
                · simp only [hq', decide_false]; exact ih
          exact this m
      · rw [if_neg hp]
        have h : (m.any fun p => decide (p.1 = k)) = true := by
          rw [List.any_cons] at h; simpa [hp] using h
        by_cases hk' : p.1 = k'
        · have : ¬ k' = k := fun z => hp (hk'.trans z)
          simp [hk', this]
        · simp only [hk', decide_false]; exact ih h
  · rename_i h
    have hn : m.find? (fun p => decide (p.1 = k)) = none := by
      rw [List.find?_eq_none]
      intro p hp
      simp only [Bool.not_eq_true, List.any_eq_false] at h
      exact fun z => by rw [h p hp] at z; cases z
    rw [List.find?_append]
    by_cases hk : k' = k
    · subst hk; rw [hn]; simp
    · rw [if_neg hk]
      have h1 : ¬ k = k' := fun z => hk z.symm
      cases m.find? (fun p => decide (p.1 = k')) <;> simp [h1]
theorem len_put (m : List (κ × ν)) (k : κ) (v : ν) : (putM m k v).length ≤ m.length + 1 := by
  unfold putM
  split <;> simp
variable {Q : D → Prop}
theorem oIn_d (neg : Bool) (k : κ) (m : List (κ × ν)) : oIn neg (toD k) (.dict (encm e m)) Q = Q (.bool (if neg then !(lookM m k).isSome else (lookM m k).isSome)) := by
  show (isKey (toD k) ∧ keysOk (encm e m) ∧ Q (.bool (if neg then !(lookD (encm e m) (toD k)).isSome else (lookD (encm e m) (toD k)).isSome))) = _
  rw [lookD_enc]
  have : ((lookM m k).map e).isSome = (lookM m k).isSome := by cases lookM m k <;> rfl
  rw [this]
  exact propext ⟨fun h => h.2.2, fun h => ⟨KeyT.ok k, keysOk_enc m, h⟩⟩
theorem oIn_ds {m : List (Str × ν)} (neg : Bool) (k : Str) : oIn neg (.str k) (.dict (encm e m)) Q = Q (.bool (if neg then !(lookM m k).isSome else (lookM m k).isSome)) := oIn_d neg k m
theorem oIn_di {m : List (Int × ν)} (neg : Bool) (k : Int) : oIn neg (.int k) (.dict (encm e m)) Q = Q (.bool (if neg then !(lookM m k).isSome else (lookM m k).isSome)) := oIn_d neg k m
theorem oIx_dd {m : List (κ × ν)} {k : D} {k' : κ} (hk : k = toD k') : oIx (.dict (encm e m)) k Q = ∃ v, lookM m k' = some v ∧ Q (e v) := by
  subst hk
  have h1 : oIx (.dict (encm e m)) (toD k') Q = (isKey (toD k') ∧ keysOk (encm e m) ∧ ∃ v, lookD (encm e m) (toD k') = some v ∧ Q v) := by
    have := KeyT.ok k'
    cases h : toD k' <;> rw [h] at this <;> first | exact this.elim | rfl
  rw [h1, lookD_enc]
  refine propext ⟨fun ⟨_, _, v, hv, hq⟩ => ?_, fun ⟨v, hv, hq⟩ => ⟨KeyT.ok _, keysOk_enc m, _, by rw [hv]; rfl, hq⟩⟩
  cases q : lookM m k' with
  | none => rw [q] at hv; cases hv
  | some u => rw [q] at hv; cases hv; exact ⟨u, rfl, hq⟩
theorem oIx_ds {m : List (Str × ν)} (k : Str) : oIx (.dict (encm e m)) (.str k) Q = ∃ v, lookM m k = some v ∧ Q (e v) := oIx_dd rfl
theorem oIx_di {m : List (Int × ν)} (k : Int) : oIx (.dict (encm e m)) (.int k) Q = ∃ v, lookM m k = some v ∧ Q (e v) := oIx_dd rfl
end
section
variable {α β : Type}
theorem cut_map (f : α → β) (xs : List α) (lo hi : Option Int) : cut (xs.map f) lo hi = (cut xs lo hi).map f := by
  unfold cut
  rw [List.length_map, List.map_take, List.map_drop]
/-- what is chosen, by what is ahead of it -/
def selGo (q : List α → α → Bool) : List α → List α → List α
  | _, [] => []
  | pre, x :: r => (if q pre x = true then [x] else []) ++ selGo q (pre ++ [x]) r
theorem sel_snoc (q : List α → α → Bool) : ∀ (xs pre : List α) (x : α), selGo q pre (xs ++ [x]) = selGo q pre xs ++ if q (pre ++ xs) x = true then [x] else []
  | [], pre, x => by simp [selGo]
  | y :: xs, pre, x => by
    rw [List.cons_append, selGo, selGo, sel_snoc q xs, List.append_assoc]
    simp
theorem sel_len (q : List α → α → Bool) : ∀ (xs pre : List α), (selGo q pre xs).length ≤ xs.length
  | [], _ => Nat.le_refl _
  | x :: xs, pre => by
    rw [selGo, List.length_append, List.length_cons]
    have := sel_len q xs (pre ++ [x])
    split <;> simp <;> omega
def firstGo (q : List α → α → Bool) : List α → List α → Option α
  | _, [] => none
  | pre, x :: r => if q pre x = true then some x else firstGo q (pre ++ [x]) r
theorem first_app (q : List α → α → Bool) : ∀ (xs pre ys : List α), firstGo q pre xs = none → firstGo q pre (xs ++ ys) = firstGo q (pre ++ xs) ys
  | [], pre, ys, _ => by simp
  | x :: xs, pre, ys, h => by
    rw [firstGo] at h
    rw [List.cons_append, firstGo]
    split at h
    · cases h
    · rename_i hq
      rw [if_neg hq, first_app q xs _ ys h]; simp
theorem first_snoc (q : List α → α → Bool) (xs pre : List α) (x : α) (h : firstGo q pre xs = none) : firstGo q pre (xs ++ [x]) = if q (pre ++ xs) x = true then some x else none := by
  rw [first_app q xs pre [x] h]; rfl
end
end L3

set_option maxHeartbeats 4000000
namespace Evb
open PySem PySem.Spec L2 L3
open PyProof.Rows (envOfC)
open PySem.W (Datum Tup)
open PySem.W.Datum (toD)
def topS (i : Nat) : Stmt := PySem.Challenge.pw_everbeat_k69_whole_fences_copies_and_tri.main.body.getD i (.Pass ⟨0, 0, 0, 0⟩)
local macro_rules | `(tactic| walk_at "l3") => `(tactic| simp only [fSeq, fAsg, fAsgL, fAsgD, fAsgG, fOp, fUn, fCB, fCBf, fV, fVs, fC, o1, o2, oInt, oMod, oAdd, oAddL, oSub, oMul, oDiv, oNeg, oLen, oRev, oAll, oAny, oSum, oListOf, oTupOf, oStr, oAbs, oMax2, oMin2, fCons, fNil, fRet, fRetO, fRetOD, fIf, fIfE, fTst, fTru, oTruP, oTru, oBool, fNotT, fAndT, fOrT, fAndV, fOrV, fNotV, fNx, fBk, fCt, fTup, fLst, oL, oDc, onL, onD, fApp, fExt, oEx, fPut, fDel, fDn, fDrop, fFz, frz,
  fFor, fRgI, oRg1, oRg2, oEn, fLstI, fTupI, oLst, oTpl, gTup', gCons', gNil', gN, fComp, wipeE, fYes, fPGet, fPSet, fPRest, fSLen, fSIx, oPow, fChain, fDraw, fPick, fNext, fCP, oDr, oPk, fIsi, isiOk, fSl, fOn, fOs, oPart, oSl, oSlL, oIsN, isNb_n, isNb_b, isNb_i, isNb_s, isNb_l, isNb_t, isNb_d, isNb_sp, isNb_np, isNb_si, isNb_ni, oIsB, fLkE, fKeys, startE, startP, startLaw, endsOf, optD_none, optD_some, toD_int, toD_str, toD_bool, toD_unit, toD_list, toD_prod, toD_t3, toD_t4, toD_tup, oEq_i, oNe_i, oEq_s, oNe_s, oEq_b, oNe_b, oEq_l, oNe_l, oEq_lnil, oNe_lnil, oLt_i, oGt_i, oLe_i, oGe_i, oIn_li, oIn_ls, oIx_l, oIx_c, oIx_c1, oIx_c2, oIn_ds, oIn_di, oIx_ds, oIx_di, cut_map, cut_to, ← List.map_take, ← List.map_drop, ← List.map_reverse, enD_map, decide_eq_true_eq, Bool.not_eq_true', decide_eq_false_iff_not, List.length_map, ite_true, ite_false, ite_self, Bool.false_eq_true, reduceIte,
  List.map_cons, List.map_nil, List.length_cons, List.length_nil, List.replicate, List.cons_append, List.nil_append, List.set_cons_zero, List.set_cons_succ, List.getElem?_cons_zero, List.getElem?_cons_succ, Nat.reduceAdd, Nat.reduceSub, Nat.zero_add, true_and, and_true])
section
variable {P : Program} {w : World} {K : PySem.W.Frag} {mg : Str → Option Value} {base : Heap}
theorem dsmall {l : Int} (h : l.natAbs < 100000) : l.natAbs < 2 ^ 4000 := Nat.lt_trans h (Nat.lt_of_lt_of_le (show 100000 < 2 ^ 20 by decide) (Nat.pow_le_pow_right (by decide) (by decide)))
theorem inR_small {j : Int} (h0 : 0 ≤ j) (h1 : j < 100000) : inR j := by unfold inR; omega
theorem dr {l : Int} {Q : Int → Prop} (h0 : 0 < l) (h1 : l < 100000) (h : ∀ v : Int, 0 ≤ v → v < l → Q v) : 0 < l ∧ l.natAbs < 2 ^ 4000 ∧ ∀ v : Int, 0 ≤ v → v < l → Q v := ⟨h0, dsmall (by omega), h⟩
abbrev Gaps := List (Int × Int)
def gapM (gs : Gaps) (t : Int) : Option (Int × Int) := gs.find? fun g => decide (g.1 ≤ t ∧ t < g.2)
theorem find_pre {α : Type} {p : α → Bool} {done rest : List α} {x : α} (h : done.find? p = none) : (done ++ x :: rest).find? p = if p x = true then some x else rest.find? p := by
  rw [List.find?_append, h, Option.none_or, List.find?_cons]
  cases p x <;> rfl
theorem find_snoc {α : Type} {p : α → Bool} {done : List α} {x : α} (h : done.find? p = none) (hx : ¬ p x = true) : (done ++ [x]).find? p = none := by
  rw [find_pre h, if_neg hx]; rfl
def o_gap_at : List D → (D → Prop) → Prop := fun ds P => ∃ (gs : Gaps) (t : Int), ds = [.list (gs.map toD), .int t] ∧ P (optD (gapM gs t))
theorem len_gap_at : ∀ ds P, o_gap_at ds P → ds.length = (["gaps", "time"] : List Str).length := fun ds P ⟨_, _, e, _⟩ => by rw [e]; rfl
abbrev s_gap_at : Stmt := topS 1
theorem sc_gap_at : FnScope ["gaps", "time", "down", "up"] ["gaps", "time"] (defScope s_gap_at) := ⟨rfl, rfl, rfl, by decide +kernel, rfl, by decide +kernel, by decide +kernel⟩
/-- gap_at: slots 0 gaps, 1 time, 2 down, 3 up -/
def F_gap_at : FS := (fSeq (fFor (fLstI (fV 0)) (gTup' (gCons' (gN 2) (gCons' (gN 3) gNil')))
  (fIf (fTst (fChain oLe oLt (fV 2) (fV 1) (fV 3)))
  (fRet (fTup (fCons (fV 2) (fCons (fV 3) fNil))))
  fNx))
  (fRet (fC .none)))
theorem sp_gap_at : ∀ ds P, o_gap_at ds P → F_gap_at (endsOf .fz P) (startE ["gaps", "time", "down", "up"] ds) := by
  rintro _ P ⟨gs, t, rfl, h⟩
  unfold F_gap_at
  try walk_at "l3"
  refine forD_pre toD (fun s : Sl × Sl => [.dat (.list (gs.map toD)), .dat (.int t), s.1, s.2]) gs (fun done _ => gapM done t = none) (fun done x rest s e hd nx hn => ?_) (fun s e => ?_) (.un, .un) rfl
  · have hy : (x.1 ≤ t ∧ t < x.2) → P (.tuple [.int x.1, .int x.2]) := fun hc => by
      have : gapM gs t = some x := by unfold gapM; rw [e, find_pre hd, if_pos (by simpa using hc)]
      rw [this] at h; exact h
    have hno : ¬ (x.1 ≤ t ∧ t < x.2) → gapM (done ++ [x]) t = none := fun hc => find_snoc hd (by simpa using hc)
    try walk_at "l3"
    split
    · rename_i h1
      split
      · rename_i h2; exact ⟨by decide, hy ⟨h1, h2⟩⟩
      · rename_i h2; exact hn (_, _) (hno fun z => h2 z.2)
    · rename_i h1; exact hn (_, _) (hno fun z => h1 z.1)
  · rw [e] at h
    try walk_at "l3"
    exact h
theorem ok_gap_at (D : DefAt K mg "gap_at" s_gap_at ["gaps", "time"]) : Ok P w K mg base 1 "gap_at" ["gaps", "time"] (spM .fz o_gap_at) :=
  D.ok sc_gap_at len_gap_at (fun f cdv A outer s H E hr => have hu := hr.units
  (dss_cons (sfor (di_list (v 0)) (dg_tup rfl (dgs_cons (tgt 2 sc_gap_at.nd) (dgs_cons (tgt 3 sc_gap_at.nd) dgs_nil)) (len1 (len1 len0 gN_ex) gN_ex))
  (dss_one (ds_if (dt_chain (opd_le hu) (opd_lt hu) (v 2) (v 1) (v 3))
  (dss_one (ds_ret (de_tup (da_cons (v 2) (da_cons (v 3) da_nil)))))
  dss_nil)))
  (dss_one (ds_ret de_non)))) sp_gap_at
def o_is_up : List D → (D → Prop) → Prop := fun ds P => ∃ (gs : Gaps) (t : Int), ds = [.list (gs.map toD), .int t] ∧ P (.bool (gapM gs t).isNone)
theorem len_is_up : ∀ ds P, o_is_up ds P → ds.length = (["gaps", "time"] : List Str).length := fun ds P ⟨_, _, e, _⟩ => by rw [e]; rfl
abbrev s_is_up : Stmt := topS 2
theorem sc_is_up : FnScope ["gaps", "time"] ["gaps", "time"] (defScope s_is_up) := ⟨rfl, rfl, rfl, by decide +kernel, rfl, by decide +kernel, by decide +kernel⟩
/-- is_up: slots 0 gaps, 1 time -/
def F_is_up : FS := (fRet (fOp (oIsN false) (fCB o_gap_at (fCons (fV 0) (fCons (fV 1) fNil))) (fC .none)))
theorem sp_is_up : ∀ ds P, o_is_up ds P → F_is_up (endsOf .fz P) (startE ["gaps", "time"] ds) := by
  rintro _ P ⟨gs, t, rfl, h⟩
  unfold F_is_up
  try walk_at "l3"
  refine ⟨gs, t, rfl, ?_⟩
  cases e : gapM gs t <;> rw [e] at h <;> exact h
theorem ok_is_up (D : DefAt K mg "is_up" s_is_up ["gaps", "time"]) (ok_gap_at : Ok P w K mg base 1 "gap_at" ["gaps", "time"] (spM .fz o_gap_at)) : Ok P w K mg base 2 "is_up" ["gaps", "time"] (spM .fz o_is_up) :=
  D.ok sc_is_up len_is_up (fun f cdv A outer s H E hr => have hu := hr.units
  (dss_one (ds_ret (de_cmp opd_is (call ok_gap_at (hr.mono (by decide)) (da_cons (v 0) (da_cons (v 1) da_nil))) de_non (nomark _))))) sp_is_up
/-- the places that stand as high as all ahead of them -/
def topM (xs : List Int) : List Nat := (List.range xs.length).filter fun k => decide (∀ y ∈ xs.take k, y ≤ xs.getD k 0)
theorem topM_snoc (xs : List Int) (x : Int) : topM (xs ++ [x]) = topM xs ++ if (∀ y ∈ xs, y ≤ x) then [xs.length] else [] := by
  unfold topM
  rw [List.length_append, List.length_singleton, List.range_succ, List.filter_append]
  congr 1
  · refine List.filter_congr fun k hk => ?_
    have hk := List.mem_range.mp hk
    rw [List.take_append_of_le_length (by omega), List.getD_eq_getElem?_getD, List.getD_eq_getElem?_getD, List.getElem?_append_left hk]
  · rw [List.filter_cons, List.take_left' rfl]
    simp
theorem topM_le (xs : List Int) : (topM xs).length ≤ xs.length := by
  unfold topM
  exact Nat.le_trans (List.length_filter_le _ _) (by simp)
def o_taken : List D → (D → Prop) → Prop := fun ds P => ∃ ns : List Int, ds = [.list (ns.map toD)] ∧ ns.length ≤ sizeLine ∧ P (.list ((topM ns).map natD))
theorem len_taken : ∀ ds P, o_taken ds P → ds.length = (["numbers"] : List Str).length := fun ds P ⟨_, e, _⟩ => by rw [e]; rfl
abbrev s_taken : Stmt := topS 4
theorem sc_taken : FnScope ["numbers", "found", "greatest", "index", "number"] ["numbers"] (defScope s_taken) := ⟨rfl, rfl, rfl, by decide +kernel, rfl, by decide +kernel, by decide +kernel⟩
/-- taken: slots 0 numbers, 1 found, 2 greatest, 3 index, 4 number -/
def F_taken : FS := (fSeq (fAsgL 1 (fLst fNil))
  (fSeq (fAsg 2 (fC .none))
  (fSeq (fFor (fRgI oEn (fCons (fV 0) fNil)) (gTup' (gCons' (gN 3) (gCons' (gN 4) gNil')))
  (fIf (fOrT (fTst (fOp (oIsN false) (fV 2) (fC .none))) (fTst (fOp oGe (fV 4) (fV 2))))
  (fSeq (fApp 1 (fV 3))
  (fAsg 2 (fV 4)))
  fNx))
  (fRetO 1))))
theorem sp_taken : ∀ ds P, o_taken ds P → F_taken (endsOf .nw P) (startE ["numbers", "found", "greatest", "index", "number"] ds) := by
  rintro _ P ⟨ns, rfl, hl, h⟩
  unfold F_taken
  try walk_at "l3"
  refine ⟨Nat.zero_le _, forD_en toD (fun s : List Nat × Option Int × Sl × Sl => [.dat (.list (ns.map toD)), .opl (s.1.map natD), .dat (optD s.2.1), s.2.2.1, s.2.2.2]) ns
    (fun done s => s.1 = topM done ∧ (s.2.1 = none → done = []) ∧ ∀ g, s.2.1 = some g → g ∈ done ∧ ∀ y ∈ done, y ≤ g) (fun done x rest s e hd nx hn => ?_) (fun s hd => ?_) ([], none, .un, .un) ⟨rfl, fun _ => rfl, fun _ z => nomatch z⟩⟩
  · obtain ⟨fs, gr, sa, sb⟩ := s
    obtain ⟨e1, h1, h2⟩ := hd
    have e1 : fs = topM done := e1
    subst e1
    have hlen : (topM done).length < sizeLine := by
      have := topM_le done
      rw [e] at hl; simp at hl; omega
    have yes : (∀ y ∈ done, y ≤ x) → nx [.dat (.list (ns.map toD)), .opl ((topM done).map natD ++ [.int (done.length : Nat)]), .dat (.int x), .dat (.int (done.length : Nat)), .dat (.int x)] := fun hy => by
      have := hn (topM (done ++ [x]), some x, .dat (.int (done.length : Nat)), .dat (.int x)) ⟨rfl, fun z => (by cases z), fun g z => by cases z; exact ⟨by simp, fun y hy' => by
        rcases List.mem_append.mp hy' with hy' | hy'
        · exact hy y hy'
        · simp at hy'; omega⟩⟩
      rw [topM_snoc, if_pos hy, List.map_append] at this
      exact this
    cases gr with
    | none =>
      try walk_at "l3"
      have := h1 rfl
      subst this
      exact ⟨hlen, yes (fun y hy => nomatch hy)⟩
    | some g =>
      obtain ⟨hg, hm⟩ := h2 g rfl
      try walk_at "l3"
      split
      · rename_i hx
        exact ⟨hlen, yes fun y hy => Int.le_trans (hm y hy) hx⟩
      · rename_i hx
        have := hn (topM (done ++ [x]), some g, .dat (.int (done.length : Nat)), .dat (.int x)) ⟨rfl, fun z => (by cases z), fun g' z => by
          cases z
          exact ⟨List.mem_append_left _ hg, fun y hy' => by
            rcases List.mem_append.mp hy' with hy' | hy'
            · exact hm y hy'
            · simp at hy'; omega⟩⟩
        rw [topM_snoc, if_neg (fun z => hx (z g hg)), List.append_nil] at this
        exact this
  · obtain ⟨fs, gr, sa, sb⟩ := s
    have e1 : fs = topM ns := hd.1
    subst e1
    try walk_at "l3"
    exact h
theorem ok_taken (D : DefAt K mg "taken" s_taken ["numbers"]) (z_enumerate : mg "enumerate" = none) : Ok P w K mg base 1 "taken" ["numbers"] (spM .nw o_taken) :=
  D.ok sc_taken len_taken (fun f cdv A outer s H E hr => have hu := hr.units
  (dss_cons (ssetL 1 sc_taken.nd (de_lst da_nil))
  (dss_cons (sset 2 sc_taken.nd de_non)
  (dss_cons (sfor (di_enum z_enumerate rfl (da_cons (v 0) da_nil)) (dg_tup rfl (dgs_cons (tgt 3 sc_taken.nd) (dgs_cons (tgt 4 sc_taken.nd) dgs_nil)) (len1 (len1 len0 gN_ex) gN_ex))
  (dss_one (ds_if (DW.t (dw_or (dt_cmp opd_is (v 2) de_non (nomark _)) (dw_or1 (dt_cmp (opd_ge hu) (v 4) (v 2) (nomark _)))))
  (dss_cons (sapp 1 (v 3))
  (dss_one (sset 2 sc_taken.nd (v 4))))
  dss_nil)))
  (dss_one (ds_retO (pv 1))))))) sp_taken
abbrev Cps := List (Int × Str)
def lastM (pre : Cps) (key : Str) : Option Int := ((pre.filter fun c => decide (c.2 = key)).map (·.1)).getLast?
theorem lastM_snoc (pre : Cps) (c : Int × Str) (key : Str) : lastM (pre ++ [c]) key = if c.2 = key then some c.1 else lastM pre key := by
  unfold lastM
  rw [List.filter_append, List.map_append]
  by_cases h : c.2 = key
  · simp [h]
  · simp [h]
def newM (keep : Int) (pre : Cps) (c : Int × Str) : Bool := match lastM pre c.2 with
  | none => true
  | some l => decide (keep ≤ c.1 - l)
def worksM (keep : Int) (xs : Cps) : Cps := selGo (newM keep) [] xs
theorem worksM_snoc (keep : Int) (xs : Cps) (c : Int × Str) : worksM keep (xs ++ [c]) = worksM keep xs ++ if newM keep xs c = true then [c] else [] := by
  unfold worksM; rw [sel_snoc]; rfl
theorem worksM_len (keep : Int) (xs : Cps) : (worksM keep xs).length ≤ xs.length := sel_len _ _ _
def o_works : List D → (D → Prop) → Prop := fun ds P => ∃ (cs : Cps) (keep : Int), ds = [.list (cs.map toD), .int keep] ∧ cs.length ≤ sizeLine ∧ P (.list ((worksM keep cs).map toD))
theorem len_works : ∀ ds P, o_works ds P → ds.length = (["copies", "keep"] : List Str).length := fun ds P ⟨_, _, e, _⟩ => by rw [e]; rfl
abbrev s_works : Stmt := topS 5
theorem sc_works : FnScope ["copies", "keep", "found", "seen", "time", "key"] ["copies", "keep"] (defScope s_works) := ⟨rfl, rfl, rfl, by decide +kernel, rfl, by decide +kernel, by decide +kernel⟩
/-- works: slots 0 copies, 1 keep, 2 found, 3 seen, 4 time, 5 key -/
def F_works : FS := (fSeq (fAsgL 2 (fLst fNil))
  (fSeq (fAsgD 3 fDn)
  (fSeq (fFor (fLstI (fV 0)) (gTup' (gCons' (gN 4) (gCons' (gN 5) gNil')))
  (fSeq (fIf (fOrT (fTst (fOp (oIn true) (fV 5) (fVs 3))) (fTst (fOp oGe (fOp oSub (fV 4) (fOp oIx (fVs 3) (fV 5))) (fV 1))))
  (fApp 2 (fTup (fCons (fV 4) (fCons (fV 5) fNil))))
  fNx)
  (fPut 3 (fV 5) (fV 4))))
  (fRetO 2))))
theorem sp_works : ∀ ds P, o_works ds P → F_works (endsOf .nw P) (startE ["copies", "keep", "found", "seen", "time", "key"] ds) := by
  rintro _ P ⟨cs, keep, rfl, hl, h⟩
  unfold F_works
  try walk_at "l3"
  refine ⟨Nat.zero_le _, forD_pre toD (fun s : List (Str × Int) × Cps × Sl × Sl => [.dat (.list (cs.map toD)), .dat (.int keep), .opl (s.2.1.map toD), .opd (encm toD s.1), s.2.2.1, s.2.2.2]) cs
    (fun done s => s.2.1 = worksM keep done ∧ (∀ key, lookM s.1 key = lastM done key) ∧ s.1.length ≤ done.length) (fun done x rest s e hd nx hn => ?_) (fun s hd => ?_) ([], [], .un, .un) ⟨rfl, fun _ => rfl, Nat.le_refl _⟩⟩
  · obtain ⟨m, fs, sa, sb⟩ := s
    obtain ⟨t, key⟩ := x
    obtain ⟨e1, h1, h2⟩ := hd
    have e1 : fs = worksM keep done := e1
    subst e1
    have h1 : ∀ key, lookM m key = lastM done key := h1
    have h2 : m.length ≤ done.length := h2
    have hlen : done.length < sizeLine := by
      rw [e] at hl; simp at hl; omega
    have hw := worksM_len keep done
    have key1 : ∀ ws, ws = worksM keep (done ++ [(t, key)]) → nx [.dat (.list (cs.map toD)), .dat (.int keep), .opl (ws.map toD), .opd (putD (encm toD m) (.str key) (.int t)), .dat (.int t), .dat (.str key)] := fun ws hws => by
      have := hn (putM m key t, ws, .dat (.int t), .dat (.str key)) ⟨hws, fun k' => ?_, ?_⟩
      · rw [← putD_enc] at this; exact this
      · show lookM (putM m key t) k' = _
        rw [look_put, lastM_snoc, h1]
        by_cases hk : k' = key
        · rw [if_pos hk, if_pos hk.symm]
        · rw [if_neg hk, if_neg (fun z => hk z.symm)]
      · show (putM m key t).length ≤ _
        have := len_put m key t
        rw [List.length_append, List.length_singleton]; omega
    have kp : ∀ R : Prop, R → isKey (.str key) ∧ keysOk (encm toD m) ∧ (encm toD m).length < sizeLine ∧ R := fun R r => ⟨trivial, keysOk_enc m, by unfold encm; rw [List.length_map]; omega, r⟩
    try walk_at "l3"
    have two : 2 ≤ sizeLine := by decide
    have hl2 : (worksM keep done).length < sizeLine := by omega
    have yes : newM keep done (t, key) = true → nx [.dat (.list (cs.map toD)), .dat (.int keep), .opl ((worksM keep done).map toD ++ [.tuple [.int t, .str key]]), .opd (putD (encm toD m) (.str key) (.int t)), .dat (.int t), .dat (.str key)] := fun hy => by
      have := key1 (worksM keep done ++ [(t, key)]) (by rw [worksM_snoc, if_pos hy])
      rw [List.map_append] at this
      exact this
    have no : newM keep done (t, key) = false → nx [.dat (.list (cs.map toD)), .dat (.int keep), .opl ((worksM keep done).map toD), .opd (putD (encm toD m) (.str key) (.int t)), .dat (.int t), .dat (.str key)] := fun hy =>
      key1 (worksM keep done) (by rw [worksM_snoc, hy]; simp)
    unfold newM at yes no
    rw [← h1 key] at yes no
    cases hk : lookM m key with
    | none =>
      rw [hk] at yes
      exact (if_pos rfl).mpr ⟨two, hl2, kp _ (yes rfl)⟩
    | some v =>
      rw [hk] at yes no
      rw [if_neg (by simp)]
      refine ⟨v, rfl, ?_⟩
      split
      · rename_i hc; exact ⟨two, hl2, kp _ (yes (by simpa using hc))⟩
      · rename_i hc; exact kp _ (no (by simpa using hc))
  · obtain ⟨m, fs, sa, sb⟩ := s
    have e1 : fs = worksM keep cs := hd.1
    subst e1
    try walk_at "l3"
    exact h
theorem ok_works (D : DefAt K mg "works" s_works ["copies", "keep"]) : Ok P w K mg base 1 "works" ["copies", "keep"] (spM .nw o_works) :=
  D.ok sc_works len_works (fun f cdv A outer s H E hr => have hu := hr.units
  (dss_cons (ssetL 2 sc_works.nd (de_lst da_nil))
  (dss_cons (ssetD 3 sc_works.nd de_dn)
  (dss_cons (sfor (di_list (v 0)) (dg_tup rfl (dgs_cons (tgt 4 sc_works.nd) (dgs_cons (tgt 5 sc_works.nd) dgs_nil)) (len1 (len1 len0 gN_ex) gN_ex))
  (dss_cons (ds_if (DW.t (dw_or (dt_cmp (opd_notIn hu) (v 5) (vs 3) (by rfl)) (dw_or1 (dt_cmp (opd_ge hu) (de_op opd_sub (v 4) (de_ix (ixd hu) (vs 3) (v 5) (fun _ _ => rfl))) (v 1) (nomark _)))))
  (dss_one (sapp 2 (de_tup (da_cons (v 4) (da_cons (v 5) da_nil)))))
  dss_nil)
  (dss_one (sput 3 (hu_of hr) (v 5) (v 4)))))
  (dss_one (ds_retO (pv 2))))))) sp_works
def twQ (pre : Cps) (c : Int × Str) : Bool := decide (c.2 ∈ pre.map (·.2))
def twiceM (ws : Cps) : Option (Str × Int) := (firstGo twQ [] ws).map fun c => (c.2, c.1)
theorem twice_yes {done rest : Cps} {x : Int × Str} (hd : firstGo twQ [] done = none) (h : x.2 ∈ done.map (·.2)) : twiceM (done ++ x :: rest) = some (x.2, x.1) := by
  unfold twiceM
  rw [first_app _ _ _ _ hd, firstGo, List.nil_append, if_pos (by unfold twQ; simpa using h)]
  rfl
theorem twice_no {done : Cps} {x : Int × Str} (hd : firstGo twQ [] done = none) (h : ¬ x.2 ∈ done.map (·.2)) : firstGo twQ [] (done ++ [x]) = none := by
  rw [first_snoc _ _ _ _ hd, List.nil_append, if_neg (by unfold twQ; simpa using h)]
def o_done_twice : List D → (D → Prop) → Prop := fun ds P => ∃ (cs : Cps) (keep : Int), ds = [.list (cs.map toD), .int keep] ∧ cs.length ≤ sizeLine ∧ P (optD (twiceM (worksM keep cs)))
theorem len_done_twice : ∀ ds P, o_done_twice ds P → ds.length = (["copies", "keep"] : List Str).length := fun ds P ⟨_, _, e, _⟩ => by rw [e]; rfl
abbrev s_done_twice : Stmt := topS 6
theorem sc_done_twice : FnScope ["copies", "keep", "done", "time", "key"] ["copies", "keep"] (defScope s_done_twice) := ⟨rfl, rfl, rfl, by decide +kernel, rfl, by decide +kernel, by decide +kernel⟩
/-- done_twice: slots 0 copies, 1 keep, 2 done, 3 time, 4 key -/
def F_done_twice : FS := (fSeq (fAsgD 2 fDn)
  (fSeq (fFor (fLstI (fCB o_works (fCons (fV 0) (fCons (fV 1) fNil)))) (gTup' (gCons' (gN 3) (gCons' (gN 4) gNil')))
  (fSeq (fIf (fTst (fOp (oIn false) (fV 4) (fVs 2)))
  (fRet (fTup (fCons (fV 4) (fCons (fV 3) fNil))))
  fNx)
  (fPut 2 (fV 4) (fC (.bool true)))))
  (fRet (fC .none))))
theorem sp_done_twice : ∀ ds P, o_done_twice ds P → F_done_twice (endsOf .fz P) (startE ["copies", "keep", "done", "time", "key"] ds) := by
  rintro _ P ⟨cs, keep, rfl, hl, h⟩
  unfold F_done_twice
  try walk_at "l3"
  refine ⟨cs, keep, rfl, hl, forD_pre toD (fun s : List (Str × Bool) × Sl × Sl => [.dat (.list (cs.map toD)), .dat (.int keep), .opd (encm toD s.1), s.2.1, s.2.2]) (worksM keep cs)
    (fun done s => firstGo twQ [] done = none ∧ (∀ key, (lookM s.1 key).isSome = decide (key ∈ done.map (·.2))) ∧ s.1.length ≤ done.length) (fun done x rest s e hd nx hn => ?_) (fun s hd => ?_) ([], .un, .un) ⟨rfl, fun _ => rfl, Nat.le_refl _⟩⟩
  · obtain ⟨m, sa, sb⟩ := s
    obtain ⟨t, key⟩ := x
    obtain ⟨hf, h1, h2⟩ := hd
    have h1 : ∀ key, (lookM m key).isSome = decide (key ∈ done.map (·.2)) := h1
    have h2 : m.length ≤ done.length := h2
    have hlen : m.length < sizeLine := by
      have := worksM_len keep cs
      rw [e] at this; simp at this; omega
    try walk_at "l3"
    by_cases hk : key ∈ done.map (·.2)
    · rw [if_pos (by rw [h1]; simpa using hk)]
      rw [e, twice_yes hf hk] at h
      exact ⟨by decide, h⟩
    · rw [if_neg (by rw [h1]; simpa using hk)]
      refine ⟨trivial, keysOk_enc m, by unfold encm; rw [List.length_map]; exact hlen, ?_⟩
      have := hn (putM m key true, .dat (.int t), .dat (.str key)) ⟨twice_no hf hk, fun k' => ?_, ?_⟩
      · rw [← putD_enc] at this; exact this
      · show (lookM (putM m key true) k').isSome = _
        rw [look_put]
        by_cases hk' : k' = key
        · rw [if_pos hk']; simp [hk']
        · rw [if_neg hk', h1]; simp [hk']
      · show (putM m key true).length ≤ _
        have := len_put m key true
        rw [List.length_append, List.length_singleton]; omega
  · obtain ⟨m, sa, sb⟩ := s
    have hf : firstGo twQ [] (worksM keep cs) = none := hd.1
    unfold twiceM at h
    rw [hf] at h
    try walk_at "l3"
    exact h
theorem ok_done_twice (D : DefAt K mg "done_twice" s_done_twice ["copies", "keep"]) (ok_works : Ok P w K mg base 1 "works" ["copies", "keep"] (spM .nw o_works)) : Ok P w K mg base 2 "done_twice" ["copies", "keep"] (spM .fz o_done_twice) :=
  D.ok sc_done_twice len_done_twice (fun f cdv A outer s H E hr => have hu := hr.units
  (dss_cons (ssetD 2 sc_done_twice.nd de_dn)
  (dss_cons (sfor (di_list (call ok_works (hr.mono (by decide)) (da_cons (v 0) (da_cons (v 1) da_nil)))) (dg_tup rfl (dgs_cons (tgt 3 sc_done_twice.nd) (dgs_cons (tgt 4 sc_done_twice.nd) dgs_nil)) (len1 (len1 len0 gN_ex) gN_ex))
  (dss_cons (ds_if (dt_cmp (opd_in hu) (v 4) (vs 2) (by rfl))
  (dss_one (ds_ret (de_tup (da_cons (v 4) (da_cons (v 3) da_nil)))))
  dss_nil)
  (dss_one (sput 2 (hu_of hr) (v 4) de_bl))))
  (dss_one (ds_ret de_non))))) sp_done_twice
def allM : Int → List Int → List Int
  | s, [] => [s]
  | s, w :: ws => s :: allM (s + w) ws
theorem allM_snoc : ∀ (ws : List Int) (s w : Int), allM s (ws ++ [w]) = allM s ws ++ [s + ws.sum + w]
  | [], s, w => by simp [allM]
  | v :: ws, s, w => by
    rw [List.cons_append, allM, allM, allM_snoc ws (s + v) w, List.sum_cons, List.cons_append, Int.add_assoc s v]
theorem allM_last : ∀ (ws : List Int) (s : Int), (allM s ws).getLast? = some (s + ws.sum)
  | [], s => by simp [allM]
  | v :: ws, s => by
    have h := allM_last ws (s + v)
    rw [allM, List.sum_cons, ← Int.add_assoc]
    cases e : allM (s + v) ws with
    | nil => rw [e] at h; cases h
    | cons y ys => rw [e] at h; rw [List.getLast?_cons_cons]; exact h
theorem allM_len : ∀ (ws : List Int) (s : Int), (allM s ws).length = ws.length + 1
  | [], _ => rfl
  | _ :: ws, s => by rw [allM, List.length_cons, List.length_cons, allM_len ws]
def o_all_tries : List D → (D → Prop) → Prop := fun ds P => ∃ (s : Int) (ws : List Int), ds = [.int s, .list (ws.map toD)] ∧ ws.length < sizeLine ∧ P (.list ((allM s ws).map toD))
theorem len_all_tries : ∀ ds P, o_all_tries ds P → ds.length = (["start", "waits"] : List Str).length := fun ds P ⟨_, _, e, _⟩ => by rw [e]; rfl
abbrev s_all_tries : Stmt := topS 7
theorem sc_all_tries : FnScope ["start", "waits", "found", "wait"] ["start", "waits"] (defScope s_all_tries) := ⟨rfl, rfl, rfl, by decide +kernel, rfl, by decide +kernel, by decide +kernel⟩
/-- all_tries: slots 0 start, 1 waits, 2 found, 3 wait -/
def F_all_tries : FS := (fSeq (fAsgL 2 (fLst (fCons (fV 0) fNil)))
  (fSeq (fFor (fLstI (fV 1)) (gN 3)
  (fApp 2 (fOp oAdd (fOp oIx (fVs 2) (fUn oNeg (fC (.int 1)))) (fV 3))))
  (fRetO 2)))
theorem sp_all_tries : ∀ ds P, o_all_tries ds P → F_all_tries (endsOf .nw P) (startE ["start", "waits", "found", "wait"] ds) := by
  rintro _ P ⟨s, ws, rfl, hl, h⟩
  unfold F_all_tries
  try walk_at "l3"
  refine ⟨by decide, forD_pre toD (fun t : List Int × Sl => [.dat (.int s), .dat (.list (ws.map toD)), .opl (t.1.map toD), t.2]) ws (fun done t => t.1 = allM s done) (fun done x rest t e hd nx hn => ?_) (fun t hd => ?_) ([s], .un) rfl⟩
  · obtain ⟨fs, sa⟩ := t
    have hd : fs = allM s done := hd
    subst hd
    try walk_at "l3"
    refine ⟨s + done.sum, by rw [atI_end, allM_last], ?_, ?_⟩
    · rw [allM_len]; rw [e] at hl; simp at hl; omega
    · have := hn (allM s (done ++ [x]), .dat (.int x)) rfl
      rw [allM_snoc, List.map_append] at this
      exact this
  · obtain ⟨fs, sa⟩ := t
    have hd : fs = allM s ws := hd
    subst hd
    try walk_at "l3"
    exact h
theorem ok_all_tries (D : DefAt K mg "all_tries" s_all_tries ["start", "waits"]) : Ok P w K mg base 1 "all_tries" ["start", "waits"] (spM .nw o_all_tries) :=
  D.ok sc_all_tries len_all_tries (fun f cdv A outer s H E hr => have hu := hr.units
  (dss_cons (ssetL 2 sc_all_tries.nd (de_lst (da_cons (v 0) da_nil)))
  (dss_cons (sfor (di_list (v 1)) (tgt 3 sc_all_tries.nd)
  (dss_one (sapp 2 (de_op opd_add (de_ix (ixd hu) (vs 2) (de_un und_neg de_int) (fun _ _ => rfl)) (v 3)))))
  (dss_one (ds_retO (pv 2)))))) sp_all_tries
def upTo (p : Int → Bool) : List Int → List Int
  | [] => []
  | x :: r => if p x = true then [x] else x :: upTo p r
theorem upTo_go {p : Int → Bool} : ∀ {done rest : List Int}, (∀ y ∈ done, p y = false) → upTo p (done ++ rest) = done ++ upTo p rest
  | [], _, _ => rfl
  | y :: done, rest, h => by
    rw [List.cons_append, upTo, if_neg (by rw [h y List.mem_cons_self]; decide), upTo_go fun z hz => h z (List.mem_cons_of_mem _ hz)]; rfl
theorem upTo_len {p : Int → Bool} : ∀ xs : List Int, (upTo p xs).length ≤ xs.length
  | [] => Nat.le_refl _
  | x :: r => by
    rw [upTo]
    have := upTo_len (p := p) r
    split <;> simp <;> omega
theorem upTo_ne {p : Int → Bool} {xs : List Int} (h : xs ≠ []) : upTo p xs ≠ [] := by
  cases xs with
  | nil => exact (h rfl).elim
  | cons x r => rw [upTo]; split <;> simp
abbrev upM (gs : Gaps) (t : Int) : Bool := (gapM gs t).isNone
def triesM (s : Int) (ws : List Int) (gs : Gaps) : List Int := upTo (upM gs) (allM s ws)
def o_tries : List D → (D → Prop) → Prop := fun ds P => ∃ (s : Int) (ws : List Int) (gs : Gaps), ds = [.int s, .list (ws.map toD), .list (gs.map toD)] ∧ ws.length < sizeLine ∧ P (.list ((triesM s ws gs).map toD))
theorem len_tries : ∀ ds P, o_tries ds P → ds.length = (["start", "waits", "gaps"] : List Str).length := fun ds P ⟨_, _, _, e, _⟩ => by rw [e]; rfl
abbrev s_tries : Stmt := topS 8
theorem sc_tries : FnScope ["start", "waits", "gaps", "found", "time"] ["start", "waits", "gaps"] (defScope s_tries) := ⟨rfl, rfl, rfl, by decide +kernel, rfl, by decide +kernel, by decide +kernel⟩
/-- tries: slots 0 start, 1 waits, 2 gaps, 3 found, 4 time -/
def F_tries : FS := (fSeq (fAsgL 3 (fLst fNil))
  (fSeq (fFor (fLstI (fCB o_all_tries (fCons (fV 0) (fCons (fV 1) fNil)))) (gN 4)
  (fSeq (fApp 3 (fV 4))
  (fIf (fTru (fCB o_is_up (fCons (fV 2) (fCons (fV 4) fNil))))
  fBk
  fNx)))
  (fRetO 3)))
theorem sp_tries : ∀ ds P, o_tries ds P → F_tries (endsOf .nw P) (startE ["start", "waits", "gaps", "found", "time"] ds) := by
  rintro _ P ⟨s, ws, gs, rfl, hl, h⟩
  unfold F_tries
  try walk_at "l3"
  refine ⟨Nat.zero_le _, s, ws, rfl, hl, forD_pre toD (fun t : List Int × Sl => [.dat (.int s), .dat (.list (ws.map toD)), .dat (.list (gs.map toD)), .opl (t.1.map toD), t.2]) (allM s ws) (fun done t => t.1 = done ∧ ∀ y ∈ done, upM gs y = false) (fun done x rest t e hd nx hn => ?_) (fun t hd => ?_) ([], .un) ⟨rfl, fun _ z => nomatch z⟩⟩
  · obtain ⟨fs, sa⟩ := t
    obtain ⟨hd, hu⟩ := hd
    have hd : fs = done := hd
    subst hd
    try walk_at "l3"
    have hlen : fs.length < sizeLine := by
      have := allM_len ws s
      rw [e] at this; simp at this; omega
    refine ⟨hlen, gs, x, rfl, ?_⟩
    try walk_at "l3"
    split
    · rename_i hx
      have : triesM s ws gs = fs ++ [x] := by unfold triesM; rw [e, upTo_go hu, upTo, if_pos hx]
      rw [this, List.map_append] at h
      exact h
    · rename_i hx
      have := hn (fs ++ [x], .dat (.int x)) ⟨rfl, fun y hy => by
        rcases List.mem_append.mp hy with hy | hy
        · exact hu y hy
        · simp at hy; subst hy; exact eq_false_of_ne_true hx⟩
      rw [List.map_append] at this
      exact this
  · obtain ⟨fs, sa⟩ := t
    obtain ⟨hd, hu⟩ := hd
    have hd : fs = allM s ws := hd
    subst hd
    have : triesM s ws gs = allM s ws := by
      have := upTo_go (rest := []) hu
      unfold triesM; rw [List.append_nil] at this; rw [this]; simp [upTo]
    rw [this] at h
    try walk_at "l3"
    exact h
theorem ok_tries (D : DefAt K mg "tries" s_tries ["start", "waits", "gaps"]) (ok_is_up : Ok P w K mg base 2 "is_up" ["gaps", "time"] (spM .fz o_is_up)) (ok_all_tries : Ok P w K mg base 1 "all_tries" ["start", "waits"] (spM .nw o_all_tries)) : Ok P w K mg base 3 "tries" ["start", "waits", "gaps"] (spM .nw o_tries) :=
  D.ok sc_tries len_tries (fun f cdv A outer s H E hr => have hu := hr.units
  (dss_cons (ssetL 3 sc_tries.nd (de_lst da_nil))
  (dss_cons (sfor (di_list (call ok_all_tries (hr.mono (by decide)) (da_cons (v 0) (da_cons (v 1) da_nil)))) (tgt 4 sc_tries.nd)
  (dss_cons (sapp 3 (v 4))
  (dss_one (ds_if (dt_tru (call ok_is_up (hr.mono (by decide)) (da_cons (v 2) (da_cons (v 4) da_nil))))
  (dss_one ds_break)
  dss_nil))))
  (dss_one (ds_retO (pv 3)))))) sp_tries
def triedM (s : Int) (ws : List Int) (gs : Gaps) : Option Int := (triesM s ws gs).getLast?.bind fun l => if upM gs l = true then some l else none
theorem tries_ne (s : Int) (ws : List Int) (gs : Gaps) : ∃ l, (triesM s ws gs).getLast? = some l := by
  cases h : (triesM s ws gs).getLast? with
  | some l => exact ⟨l, rfl⟩
  | none =>
    have := List.getLast?_eq_none_iff.mp h
    exact (upTo_ne (by intro z; have := allM_len ws s; rw [z] at this; cases this) this).elim
def o_tried : List D → (D → Prop) → Prop := fun ds P => ∃ (s : Int) (ws : List Int) (gs : Gaps), ds = [.int s, .list (ws.map toD), .list (gs.map toD)] ∧ ws.length < sizeLine ∧ P (optD (triedM s ws gs))
theorem len_tried : ∀ ds P, o_tried ds P → ds.length = (["start", "waits", "gaps"] : List Str).length := fun ds P ⟨_, _, _, e, _⟩ => by rw [e]; rfl
abbrev s_tried : Stmt := topS 9
theorem sc_tried : FnScope ["start", "waits", "gaps", "last"] ["start", "waits", "gaps"] (defScope s_tried) := ⟨rfl, rfl, rfl, by decide +kernel, rfl, by decide +kernel, by decide +kernel⟩
/-- tried: slots 0 start, 1 waits, 2 gaps, 3 last -/
def F_tried : FS := (fSeq (fAsg 3 (fOp oIx (fCB o_tries (fCons (fV 0) (fCons (fV 1) (fCons (fV 2) fNil)))) (fUn oNeg (fC (.int 1)))))
  (fRet (fIfE (fTru (fCB o_is_up (fCons (fV 2) (fCons (fV 3) fNil)))) (fV 3) (fC .none))))
theorem sp_tried : ∀ ds P, o_tried ds P → F_tried (endsOf .fz P) (startE ["start", "waits", "gaps", "last"] ds) := by
  rintro _ P ⟨s, ws, gs, rfl, hl, h⟩
  unfold F_tried
  try walk_at "l3"
  obtain ⟨l, hl'⟩ := tries_ne s ws gs
  refine ⟨s, ws, gs, rfl, hl, ?_⟩
  try walk_at "l3"
  refine ⟨l, by rw [atI_end, hl'], gs, l, rfl, ?_⟩
  try walk_at "l3"
  unfold triedM at h
  rw [hl'] at h
  split
  · rename_i hu
    rw [show ((some l).bind fun l => if upM gs l = true then some l else none) = some l from if_pos hu] at h
    exact h
  · rename_i hu
    rw [show ((some l).bind fun l => if upM gs l = true then some l else none) = none from if_neg hu] at h
    exact h
theorem ok_tried (D : DefAt K mg "tried" s_tried ["start", "waits", "gaps"]) (ok_is_up : Ok P w K mg base 2 "is_up" ["gaps", "time"] (spM .fz o_is_up)) (ok_tries : Ok P w K mg base 3 "tries" ["start", "waits", "gaps"] (spM .nw o_tries)) : Ok P w K mg base 4 "tried" ["start", "waits", "gaps"] (spM .fz o_tried) :=
  D.ok sc_tried len_tried (fun f cdv A outer s H E hr => have hu := hr.units
  (dss_cons (sset 3 sc_tried.nd (de_ix (ixd hu) (call ok_tries (hr.mono (by decide)) (da_cons (v 0) (da_cons (v 1) (da_cons (v 2) da_nil)))) (de_un und_neg de_int) (fun _ _ => rfl)))
  (dss_one (ds_ret (de_if (dt_tru (call ok_is_up (hr.mono (by decide)) (da_cons (v 2) (da_cons (v 3) da_nil)))) (v 3) de_non))))) sp_tried
def o__law_mixed : List D → (D → Prop) → Prop := fun ds P => ∃ a b : Int, ds = [.int a, .int b] ∧ ∀ r : Int, P (.int r)
theorem len__law_mixed : ∀ ds P, o__law_mixed ds P → ds.length = (["number", "place"] : List Str).length := fun ds P ⟨a, b, e, _⟩ => by rw [e]; rfl
abbrev s__law_mixed : Stmt := topS 11
theorem sc__law_mixed : FnScope ["number", "place", "first", "second", "third"] ["number", "place"] (defScope s__law_mixed) := ⟨rfl, rfl, rfl, by decide +kernel, rfl, by decide +kernel, by decide +kernel⟩
/-- _law_mixed: slots 0 number, 1 place, 2 first, 3 second, 4 third -/
def F__law_mixed : FS := (fSeq (fAsg 2 (fOp oMod (fCB (o1 oInt) (fCons (fOp oAdd (fOp oAdd (fOp oMul (fV 0) (fC (.int 48271))) (fOp oMul (fV 1) (fC (.int 69621)))) (fC (.int 11))) fNil)) (fC (.int 618970019642690137449562111))))
  (fSeq (fAsg 3 (fOp oMod (fCB (o1 oInt) (fCons (fOp oAdd (fOp oAdd (fOp oMul (fV 2) (fV 2)) (fOp oMul (fC (.int 7)) (fV 2))) (fV 1)) fNil)) (fC (.int 162259276829213363391578010288127))))
  (fSeq (fAsg 4 (fOp oMod (fCB (o1 oInt) (fCons (fOp oAdd (fOp oMul (fV 3) (fV 3)) (fV 2)) fNil)) (fC (.int 618970019642690137449562111))))
  (fRet (fOp oAdd (fOp oMul (fV 3) (fC (.int 618970019642690137449562111))) (fV 4))))))
theorem sp__law_mixed : ∀ ds P, o__law_mixed ds P → F__law_mixed (endsOf .fz P) (startE ["number", "place", "first", "second", "third"] ds) := by
  rintro _ P ⟨a, b, rfl, h⟩
  unfold F__law_mixed
  walk_at "l3"
  exact ⟨.inl (.inr (by decide)), .inl (.inr (by decide)), by decide, mok (by omega) (by omega), .inl (.inl (by decide)), by decide, mok (by omega) (by omega), by decide, mok (by omega) (by decide), h _⟩
theorem ok__law_mixed (D : DefAt K mg "_law_mixed" s__law_mixed ["number", "place"]) (z_int : mg "int" = none) : Ok P w K mg base 1 "_law_mixed" ["number", "place"] (spM .fz o__law_mixed) :=
  D.ok sc__law_mixed len__law_mixed (fun f cdv A outer s H E hr => have hu := hr.units
  (dss_cons (sset 2 sc__law_mixed.nd (de_op opd_mod (de_callTy cr_int z_int rfl (by decide +kernel) (da_consS (de_op opd_add (de_op opd_add (de_op opd_mul (v 0) de_int) (de_op opd_mul (v 1) de_int)) de_int) da_nil)) de_int))
  (dss_cons (sset 3 sc__law_mixed.nd (de_op opd_mod (de_callTy cr_int z_int rfl (by decide +kernel) (da_consS (de_op opd_add (de_op opd_add (de_op opd_mul (v 2) (v 2)) (de_op opd_mul de_int (v 2))) (v 1)) da_nil)) de_int))
  (dss_cons (sset 4 sc__law_mixed.nd (de_op opd_mod (de_callTy cr_int z_int rfl (by decide +kernel) (da_consS (de_op opd_add (de_op opd_mul (v 3) (v 3)) (v 2)) da_nil)) de_int))
  (dss_one (ds_ret (de_op opd_add (de_op opd_mul (v 3) de_int) (v 4)))))))) sp__law_mixed

abbrev s__law_rest : Stmt := topS 12
theorem sc__law_rest : FnScope ["script", "place", "fills", "number"] ["script", "place", "fills"] (defScope s__law_rest) := ⟨rfl, rfl, rfl, by decide +kernel, rfl, by decide +kernel, by decide +kernel⟩
/-- _law_rest: slots 0 script, 1 place, 2 fills, 3 number -/
def F__law_rest (sa : Addr) (ns : List Int) : FS := (fSeq (fAsg 3 (fC (.int 0)))
  (fSeq (fIf (fTst (fOp oGt (fSLen 0 sa ns) (fC (.int 0))))
  (fAsg 3 (fCB (o1 oInt) (fCons (fSIx 0 sa ns (fOp oMod (fCB (o1 oInt) (fCons (fV 1) fNil)) (fSLen 0 sa ns))) fNil)))
  fNx)
  (fSeq (fIf (fTst (fOp oLt (fV 3) (fC (.int 0))))
  (fAsg 3 (fOp oSub (fC (.int 1)) (fOp oMul (fC (.int 2)) (fV 3))))
  fNx)
  (fSeq (fIf (fAndT (fTst (fOp oEq (fV 2) (fC (.int 0)))) (fAndT (fTst (fOp oLt (fV 1) (fSLen 0 sa ns))) (fTst (fOp oGe (fV 3) (fOp oPow (fC (.int 10)) (fC (.int 18)))))))
  (fRet (fOp oSub (fV 3) (fOp oPow (fC (.int 10)) (fC (.int 18)))))
  fNx)
  (fRet (fCB o__law_mixed (fCons (fOp oAdd (fV 3) (fOp oMul (fV 2) (fC (.int 1000003)))) (fCons (fV 1) fNil))))))))
theorem atI_some {ns : List Int} {j : Int} (h0 : 0 ≤ j) (h1 : j < ns.length) : ∃ z, atI ns j = some z := by
  rw [atI_nn _ h0]
  exact ⟨_, List.getElem?_eq_getElem (by omega)⟩
theorem sp__law_rest : ∀ sa ns (a b : Int) P, ns.length ≤ 63 → (∀ r : Int, P (.int r)) → F__law_rest sa ns (endsOf .fz P) (.raw (.ref sa) :: .dat (.int a) :: .dat (.int b) :: List.replicate (["script", "place", "fills", "number"].length - 3) .un) := by
  intro sa ns a b P hl h
  unfold F__law_rest
  walk_at "l3"
  have mx : ∀ c d : Int, o__law_mixed [.int c, .int d] P := fun c d => ⟨c, d, rfl, h⟩
  have m1 : mulOk b 1000003 := .inl (.inr (by decide))
  have m2 : ∀ z : Int, mulOk 2 z := fun z => .inl (.inl (by decide))
  have hp : ((0 : Int) ≤ 18 ∧ (18 : Int) ≤ 1000000 ∧ Int.natAbs 10 < 2 ^ 64) := by decide
  have rest : ∀ z : Int, (if b = 0 then
                if a < ↑ns.length then
                  ((0 : Int) ≤ 18 ∧ (18 : Int) ≤ 1000000 ∧ Int.natAbs 10 < 2 ^ 64) ∧
                    if 10 ^ Int.toNat 18 ≤ z then
                      ((0 : Int) ≤ 18 ∧ (18 : Int) ≤ 1000000 ∧ Int.natAbs 10 < 2 ^ 64) ∧ P (PyData.int (z - 10 ^ Int.toNat 18))
                    else mulOk b 1000003 ∧ o__law_mixed [PyData.int (z + b * 1000003), PyData.int a] P
                else mulOk b 1000003 ∧ o__law_mixed [PyData.int (z + b * 1000003), PyData.int a] P
              else mulOk b 1000003 ∧ o__law_mixed [PyData.int (z + b * 1000003), PyData.int a] P) := by
    intro z
    split
    · split
      · refine ⟨hp, ?_⟩
        split
        · exact ⟨hp, h _⟩
        · exact ⟨m1, mx _ _⟩
      · exact ⟨m1, mx _ _⟩
    · exact ⟨m1, mx _ _⟩
  split
  · rename_i h0
    obtain ⟨z, hz⟩ := atI_some (ns := ns) (Int.emod_nonneg a (by omega)) (Int.emod_lt_of_pos a h0)
    refine ⟨h0, z, hz, ?_⟩
    split
    · exact ⟨m2 z, rest _⟩
    · exact rest _
  · rw [if_neg (by decide)]
    exact rest _
theorem ok__law_rest (D : DefAt K mg "_law_rest" s__law_rest ["script", "place", "fills"]) (ok__law_mixed : Ok P w K mg base 1 "_law_mixed" ["number", "place"] (spM .fz o__law_mixed)) (z_int : mg "int" = none) (z_len : mg "len" = none) : Ok P w K mg base 2 "_law_rest" ["script", "place", "fills"] (spRest K) :=
  D.okS sc__law_rest rfl (fun sa ns H0 f cdv A outer s H E hr => have hu := hr.units
  (dss_cons (sset 3 sc__law_rest.nd de_int)
  (dss_cons (ds_if (dt_cmp (opd_gt hu) (slen 0 z_len) de_int (nomark _))
  (dss_one (sset 3 sc__law_rest.nd (de_callTy cr_int z_int rfl (by decide +kernel) (da_consS (six 0 (de_op opd_mod (de_callTy cr_int z_int rfl (by decide +kernel) (da_consS (v 1) da_nil)) (slen 0 z_len)) (fun _ _ => rfl)) da_nil))))
  dss_nil)
  (dss_cons (ds_if (dt_cmp (opd_lt hu) (v 3) de_int (nomark _))
  (dss_one (sset 3 sc__law_rest.nd (de_op opd_sub de_int (de_op opd_mul de_int (v 3)))))
  dss_nil)
  (dss_cons (ds_if (DW.t (dw_and (dt_cmp (opd_eq hu) (v 2) de_int (nomark _)) (dw_and (dt_cmp (opd_lt hu) (v 1) (slen 0 z_len) (nomark _)) (dw_and1 (dt_cmp (opd_ge hu) (v 3) (de_op opd_pow de_int de_int) (nomark _))))))
  (dss_one (ds_ret (de_op opd_sub (v 3) (de_op opd_pow de_int de_int))))
  dss_nil)
  (dss_one (ds_ret (call ok__law_mixed (hr.mono (by decide)) (da_cons (de_op opd_add (v 3) (de_op opd_mul (v 2) de_int)) (da_cons (v 1) da_nil)))))))))) sp__law_rest

abbrev s__law_pool : Stmt := topS 13
theorem sc__law_pool : FnScope ["script"] ["script"] (defScope s__law_pool) := ⟨rfl, rfl, rfl, by decide +kernel, rfl, by decide +kernel, by decide +kernel⟩
theorem ok__law_pool (D : DefAt K mg "_law_pool" s__law_pool ["script"]) (ok__law_rest : Ok P w K mg base 2 "_law_rest" ["script", "place", "fills"] (spRest K)) : Ok P w K mg base 3 "_law_pool" ["script"] (spPool K) := by
  refine D.okV sc__law_pool (fun vs H Q E ⟨sa, ns, e, _⟩ => by rw [e]; rfl) fun f cdv A outer s H vs Q E hr ⟨sa, ns, ev, hs, hl, w⟩ => ?_
  subst ev
  obtain ⟨am, fm, hm, km, bm, Fm⟩ := ok__law_rest
  refine ⟨_, pss_one (ps_ret (pe_lst (pa_cons (pv 0) (pa_cons pe_int (pa_cons (pe_call Fm (hr.mono (by decide)) rfl hm km bm .nil pass0 (pa_cons (pv 0) (pa_cons pe_int (pa_cons pe_int pa_nil)))) (pa_cons pe_int pa_nil)))))), ?_⟩
  exact ⟨_, rfl, _, rfl, sa, ns, 0, 0, rfl, hs, hl, fun r H' sm => ⟨(show (4 : Nat) ≤ sizeLine by decide), fun p hp => w p r _ (sm.trans fun b o e => by rw [upd_ne (fun z => by rw [z, hp] at e; cases e)]; exact e) (by
    cases e : H p with
    | none => rfl
    | some o => rw [sm p o e] at hp; cases hp) upd_same⟩⟩
theorem len__law_next : ∀ ds P, o_next ds P → ds.length + 1 = (["pool"] : List Str).length := fun ds P ⟨e, _⟩ => by rw [e]; rfl
abbrev o__law_next := o_next
abbrev s__law_next : Stmt := topS 14
theorem sc__law_next : FnScope ["pool"] ["pool"] (defScope s__law_next) := ⟨rfl, rfl, rfl, by decide +kernel, rfl, by decide +kernel, by decide +kernel⟩
/-- _law_next: slots 0 pool -/
def F__law_next (pl : Addr) : FS := (fSeq (fPSet 0 pl (fOp oAdd (fPGet 0 pl) (fC (.int 1))))
  (fSeq (fPSet 0 pl (fPRest 0 pl (fC (.int 0))))
  (fPSet 0 pl (fC (.int 0)))))
theorem sp__law_next : ∀ pl ds P, o_next ds P → F__law_next pl (endsOf .fz P) (startP ["pool"] pl ds) := by
  rintro pl _ P ⟨rfl, h⟩
  unfold F__law_next
  walk_at "l3"
  exact fun _ _ => h
theorem ok__law_next (D : DefAt K mg "_law_next" s__law_next ["pool"]) (ok__law_rest : Ok P w K mg base 2 "_law_rest" ["script", "place", "fills"] (spRest K)) : Ok P w K mg base 3 "_law_next" ["pool"] (spP K .fz o__law_next) :=
  D.okP sc__law_next len__law_next (fun pl sa ns f cdv A outer s H E hr => have hu := hr.units
  (dss_cons (pset 0 (by decide) (de_op opd_add (pget 0 (by decide)) de_int))
  (dss_cons (pset 0 (by decide) (prest 0 ok__law_rest (hr.mono (by decide)) de_int))
  (dss_one (pset 0 (by decide) de_int))))) sp__law_next
abbrev o__law_draw := o_draw
theorem len__law_draw : ∀ ds P, o_draw ds P → ds.length + 1 = (["pool", "limit"] : List Str).length := fun ds P ⟨l, e, _⟩ => by rw [e]; rfl
abbrev s__law_draw : Stmt := topS 15
theorem sc__law_draw : FnScope ["pool", "limit", "value"] ["pool", "limit"] (defScope s__law_draw) := ⟨rfl, rfl, rfl, by decide +kernel, rfl, by decide +kernel, by decide +kernel⟩
/-- _law_draw: slots 0 pool, 1 limit, 2 value -/
def F__law_draw (pl : Addr) : FS := (fSeq (fIf (fTst (fOp oLe (fPGet 0 pl) (fC (.int 1))))
  (fSeq (fPSet 0 pl (fOp oAdd (fPGet 0 pl) (fC (.int 1))))
  (fPSet 0 pl (fPRest 0 pl (fPGet 0 pl))))
  fNx)
  (fSeq (fAsg 2 (fOp oMod (fCB (o1 oInt) (fCons (fPGet 0 pl) fNil)) (fV 1)))
  (fSeq (fPSet 0 pl (fOp oDiv (fCB (o1 oInt) (fCons (fPGet 0 pl) fNil)) (fV 1)))
  (fRet (fV 2)))))
theorem sp__law_draw : ∀ pl ds P, o_draw ds P → F__law_draw pl (endsOf .fz P) (startP ["pool", "limit", "value"] pl ds) := by
  rintro pl _ P ⟨l, rfl, h0, h1, h⟩
  unfold F__law_draw
  walk_at "l3"
  have hv : ∀ z : Int, P (.int (z % l)) := fun z => h _ (Int.emod_nonneg z (by omega)) (Int.emod_lt_of_pos z h0)
  intro z
  split
  · exact fun _ _ _ _ => ⟨h0, fun _ => ⟨⟨h0, h1⟩, hv _⟩⟩
  · exact fun _ => ⟨h0, fun _ => ⟨⟨h0, h1⟩, hv _⟩⟩

theorem ok__law_draw (D : DefAt K mg "_law_draw" s__law_draw ["pool", "limit"]) (ok__law_rest : Ok P w K mg base 2 "_law_rest" ["script", "place", "fills"] (spRest K)) (z_int : mg "int" = none) : Ok P w K mg base 3 "_law_draw" ["pool", "limit"] (spP K .fz o__law_draw) :=
  D.okP sc__law_draw len__law_draw (fun pl sa ns f cdv A outer s H E hr => have hu := hr.units
  (dss_cons (ds_if (dt_cmp (opd_le hu) (pget 0 (by decide)) de_int (nomark _))
  (dss_cons (pset 0 (by decide) (de_op opd_add (pget 0 (by decide)) de_int))
  (dss_one (pset 0 (by decide) (prest 0 ok__law_rest (hr.mono (by decide)) (pget 0 (by decide))))))
  dss_nil)
  (dss_cons (sset 2 sc__law_draw.nd (de_op opd_mod (de_callTy cr_int z_int rfl (by decide +kernel) (da_consS (pget 0 (by decide)) da_nil)) (v 1)))
  (dss_cons (pset 0 (by decide) (de_op opd_div (de_callTy cr_int z_int rfl (by decide +kernel) (da_consS (pget 0 (by decide)) da_nil)) (v 1)))
  (dss_one (ds_ret (v 2))))))) sp__law_draw
abbrev s__law_pick : Stmt := topS 16
theorem sc__law_pick : FnScope ["pool", "options"] ["pool", "options"] (defScope s__law_pick) := ⟨rfl, rfl, rfl, by decide +kernel, rfl, by decide +kernel, by decide +kernel⟩
theorem ok__law_pick (D : DefAt K mg "_law_pick" s__law_pick ["pool", "options"]) (ok__law_draw : Ok P w K mg base 3 "_law_draw" ["pool", "limit"] (spDraw K)) (z_len : mg "len" = none) : Ok P w K mg base 4 "_law_pick" ["pool", "options"] (spPick K) := by
  refine D.okV sc__law_pick (fun vs H Q E ⟨p, sa, a, ns, xs, e, _⟩ => by rw [e]; rfl) fun f cdv A outer s H vs Q E hr ⟨p, sa, a, ns, xs, ev, hp, ne, ha, h0, h1, w⟩ => ?_
  subst ev
  obtain ⟨am, fm, hm, km, bm, Fm⟩ := ok__law_draw
  rcases ha with ha | ha
  · refine ⟨_, pss_one (ps_ret (pe_ix ix_list (pv 1) (pe_call Fm (hr.mono (by decide)) rfl hm km bm .nil pass0 (pa_cons (pv 0) (pa_cons (pe_callB call_len_seq (by rfl) z_len (by decide +kernel) (pa_cons (pv 1) pa_nil)) pa_nil))) (fun _ _ => rfl))), ?_⟩
    refine ⟨_, rfl, _, rfl, _, rfl, a, xs, rfl, .inl (.of ha), p, sa, ns, xs.length, rfl, hp, by omega, ?_, fun v H' v0 v1 st => ?_⟩
    · rw [Int.natAbs_natCast]; exact Nat.lt_of_le_of_lt h1 (Nat.lt_of_lt_of_le (show sizeLine < 2 ^ 25 by decide) (Nat.pow_le_pow_right (by decide) (by decide)))
    · obtain ⟨j, rfl⟩ : ∃ j : Nat, v = j := ⟨v.toNat, by omega⟩
      have hj : j < xs.length := by omega
      exact ⟨a, xs, _, xs[j], rfl, rfl, .of (st.kp a _ ne ha), by rw [atI_n, List.getElem?_eq_getElem hj], w _ _ (List.getElem_mem hj) st⟩
  · refine ⟨_, pss_one (ps_ret (pe_ix ix_tup (pv 1) (pe_call Fm (hr.mono (by decide)) rfl hm km bm .nil pass0 (pa_cons (pv 0) (pa_cons (pe_callB call_len_seq (by rfl) z_len (by decide +kernel) (pa_cons (pv 1) pa_nil)) pa_nil))) (fun _ _ => rfl))), ?_⟩
    refine ⟨_, rfl, _, rfl, _, rfl, a, xs, rfl, .inr (.of ha), p, sa, ns, xs.length, rfl, hp, by omega, ?_, fun v H' v0 v1 st => ?_⟩
    · rw [Int.natAbs_natCast]; exact Nat.lt_of_le_of_lt h1 (Nat.lt_of_lt_of_le (show sizeLine < 2 ^ 25 by decide) (Nat.pow_le_pow_right (by decide) (by decide)))
    · obtain ⟨j, rfl⟩ : ∃ j : Nat, v = j := ⟨v.toNat, by omega⟩
      have hj : j < xs.length := by omega
      exact ⟨a, xs, _, xs[j], rfl, rfl, .of (st.kp a _ ne ha), by rw [atI_n, List.getElem?_eq_getElem hj], w _ _ (List.getElem_mem hj) st⟩
def okS : Nat → D → Prop
  | 0, _ => False
  | k + 1, .list ds => ds.length ≤ sizeLine ∧ ∀ d ∈ ds, okS k d
  | k + 1, .tuple ds => ds.length ≤ sizeLine ∧ ∀ d ∈ ds, okS k d
  | k + 1, .dict es => es.length ≤ sizeLine ∧ keysOk es ∧ ∀ p ∈ es, okS k p.2
  | _ + 1, _ => True
def o__law_same (k : Nat) : List D → (D → Prop) → Prop := fun ds P => ∃ d, ds = [d, d] ∧ okS k d ∧ P (.bool true)
theorem len__law_same : ∀ k ds P, o__law_same k ds P → ds.length = (["answer", "due"] : List Str).length := fun k ds P ⟨d, e, _⟩ => by rw [e]; rfl
theorem z__law_same : ∀ ds P, ¬ o__law_same 0 ds P := fun ds P ⟨d, _, h, _⟩ => h
abbrev s__law_same : Stmt := topS 17
theorem sc__law_same : FnScope ["answer", "due", "key", "k"] ["answer", "due"] (defScope s__law_same) := ⟨rfl, rfl, rfl, by decide +kernel, rfl, by decide +kernel, by decide +kernel⟩
/-- _law_same: slots 0 answer, 1 due, 2 key, 3 k -/
def F__law_same (k : Nat) : FS := (fSeq (fIf (fTru (fIsi "dict" (fV 1)))
  (fSeq (fIf (fOrT (fNotT (fTru (fIsi "dict" (fV 0)))) (fTst (fOp oNe (fCB (o1 oLen) (fCons (fV 0) fNil)) (fCB (o1 oLen) (fCons (fV 1) fNil)))))
  (fRet (fC (.bool false)))
  fNx)
  (fRet (fCB (o1 oAll) (fCons (fLkE 1 (fComp (fKeys 1) (gN 2) fYes (fAndV (fOp (oIn false) (fV 2) (fV 0)) (fCB (o__law_same k) (fCons (fOp oIx (fV 0) (fV 2)) (fCons (fOp oIx (fVs 1) (fV 2)) fNil)))) [2])) fNil))))
  fNx)
  (fSeq (fIf (fOrT (fTru (fIsi "list" (fV 1))) (fTru (fIsi "tuple" (fV 1))))
  (fSeq (fIf (fOrT (fTst (fOp oNe (fIsi "list" (fV 1)) (fIsi "list" (fV 0)))) (fTst (fOp oNe (fIsi "tuple" (fV 1)) (fIsi "tuple" (fV 0)))))
  (fRet (fC (.bool false)))
  fNx)
  (fRet (fAndV (fOp oEq (fCB (o1 oLen) (fCons (fV 0) fNil)) (fCB (o1 oLen) (fCons (fV 1) fNil))) (fCB (o1 oAll) (fCons (fComp (fRgI oRg1 (fCons (fCB (o1 oLen) (fCons (fV 1) fNil)) fNil)) (gN 3) fYes (fCB (o__law_same k) (fCons (fOp oIx (fV 0) (fV 3)) (fCons (fOp oIx (fV 1) (fV 3)) fNil))) [3]) fNil)))))
  fNx)
  (fSeq (fIf (fTru (fIsi "str" (fV 1)))
  (fRet (fAndV (fIsi "str" (fV 0)) (fOp oEq (fV 0) (fV 1))))
  fNx)
  (fSeq (fIf (fOrT (fTst (fOp (oIsN false) (fV 1) (fC .none))) (fOrT (fTst (fOp (oIsB false) (fV 1) (fC (.bool true)))) (fTst (fOp (oIsB false) (fV 1) (fC (.bool false))))))
  (fRet (fOrV (fAndV (fOp (oIsN false) (fV 1) (fC .none)) (fOp (oIsN false) (fV 0) (fC .none))) (fOrV (fAndV (fOp (oIsB false) (fV 1) (fC (.bool true))) (fOp (oIsB false) (fV 0) (fC (.bool true)))) (fAndV (fOp (oIsB false) (fV 1) (fC (.bool false))) (fOp (oIsB false) (fV 0) (fC (.bool false)))))))
  fNx)
  (fRet (fAndV (fIsi "int" (fV 0)) (fAndV (fNotV (fIsi "bool" (fV 0))) (fOp oEq (fV 0) (fV 1)))))))))
theorem all_id (xs : List Bool) (h : ∀ x ∈ xs, x = true) : xs.all id = true := by
  rw [List.all_eq_true]; exact h
theorem inR_of {n : Nat} (h : n ≤ sizeLine) : inR (n : Int) := by
  have : sizeLine < 2 ^ 62 := by decide
  unfold inR
  omega
theorem key_look {es : List (D × D)} {p : D × D} (hp : p ∈ es) (hk : keysOk es) : ∃ v, lookD es p.1 = some v ∧ ∃ k, (k, v) ∈ es := by
  unfold lookD
  cases e : es.find? fun q => PyData.eqv q.1 p.1 with
  | none =>
    have h1 := List.find?_eq_none.mp e p hp
    have h2 := hk p hp
    obtain ⟨d, v⟩ := p
    cases d <;> first | exact h2.elim | (simp [PyData.eqv] at h1)
  | some q => exact ⟨q.2, rfl, q.1, List.mem_of_find?_eq_some e⟩
theorem sp__law_same : ∀ k ds P, o__law_same (k + 1) ds P → F__law_same k (endsOf .fz P) (startE ["answer", "due", "key", "k"] ds) := by
  rintro k _ P ⟨d, rfl, hk, h⟩
  unfold F__law_same
  have items : ∀ (b : List D) (d : D), d = .list b ∨ d = .tuple b → b.length ≤ sizeLine → (∀ d ∈ b, okS k d) → compD (gN 3) fYes (fCB (o__law_same k) (fCons (fOp oIx (fV 0) (fV 3)) (fCons (fOp oIx (fV 1) (fV 3)) fNil))) (rgD 0 b.length) [.dat d, .dat d, .un, .un] [] fun d => oAll d P := by
    intro b d hd hl hb
    rw [rg_len]
    refine compD_pure (fun i : Nat => PyData.int (i : Nat)) PyData.bool (List.range b.length) (fun _ => true) (fun _ => true) (by simpa using hl) (fun i hi ds nx hn hx => ?_) ⟨_, rfl, ?_⟩
    · have hi' : i < b.length := List.mem_range.mp hi
      have ix : ∀ Q : D → Prop, Q b[i] → oIx d (.int i) Q := fun Q h => by
        rcases hd with rfl | rfl
        · exact ⟨_, by rw [atI_n, List.getElem?_eq_getElem hi'], h⟩
        · exact ⟨_, by rw [atI_n, List.getElem?_eq_getElem hi'], h⟩
      walk_at "l3"
      exact ix _ (ix _ ⟨_, rfl, hb _ (List.getElem_mem hi'), hn, hx⟩)
    · rw [all_id _ (fun x hx => by simp at hx; exact hx.2)]; exact h
  cases d with
  | none => walk_at "l3"; simpa [isTy] using h
  | bool b => walk_at "l3"; cases b <;> simpa [isTy] using h
  | int b => walk_at "l3"; simpa [isTy] using h
  | str b => walk_at "l3"; simpa [isTy] using h
  | list b =>
    walk_at "l3"; simp [isTy]
    exact ⟨inR_of hk.1, items b _ (.inl rfl) hk.1 hk.2⟩
  | tuple b =>
    walk_at "l3"; simp [isTy]
    exact ⟨inR_of hk.1, items b _ (.inr rfl) hk.1 hk.2⟩
  | dict b =>
    walk_at "l3"; simp [isTy]
    refine ⟨hk.2.1, ?_⟩
    refine compD_pure (fun p : D × D => p.1) PyData.bool b (fun _ => true) (fun _ => true) hk.1 (fun p hp ds nx hn hx => ?_) ⟨_, rfl, ?_⟩
    · walk_at "l3"
      obtain ⟨v, hv, j, hj⟩ := key_look hp hk.2.1
      have hkey := hk.2.1 p hp
      have inD : ∀ Q : D → Prop, Q (.bool true) → oIn false p.1 (.dict b) Q := fun Q hq => by
        unfold oIn
        exact ⟨hkey, hk.2.1, by rw [hv]; exact hq⟩
      have ixD : ∀ Q : D → Prop, Q v → oIx (.dict b) p.1 Q := fun Q hq => by
        obtain ⟨d, w⟩ := p
        cases d <;> first | exact hkey.elim | exact ⟨hkey, hk.2.1, v, hv, hq⟩
      refine inD _ ?_
      show if true = true then _ else _
      rw [if_pos rfl]
      exact ixD _ (ixD _ ⟨v, rfl, hk.2.2 _ hj, hn, hx⟩)
    · rw [all_id _ (fun x hx => by simp at hx; exact hx.2)]; exact h

theorem stp__law_same {k : Nat} (D : DefAt K mg "_law_same" s__law_same ["answer", "due"]) (z_all : mg "all" = none) (z_bool : mg "bool" = none) (z_dict : mg "dict" = none) (z_int : mg "int" = none) (z_isinstance : mg "isinstance" = none) (z_len : mg "len" = none) (z_list : mg "list" = none) (z_range : mg "range" = none) (z_str : mg "str" = none) (z_tuple : mg "tuple" = none) (ok__law_same : Ok P w K mg base (k + 1) "_law_same" ["answer", "due"] (spM .fz (o__law_same k))) : Ok P w K mg base (k + 1 + 1) "_law_same" ["answer", "due"] (spM .fz (o__law_same (k + 1))) :=
  D.ok sc__law_same (fun ds P => len__law_same (k + 1) ds P) (fun f cdv A outer s H E hr => have hu := hr.units
  (dss_cons (ds_if (dt_tru (isi (T := "dict") (v 1) (by decide) z_isinstance z_dict (by decide +kernel)))
  (dss_cons (ds_if (DW.t (dw_or (dt_not (dt_tru (isi (T := "dict") (v 0) (by decide) z_isinstance z_dict (by decide +kernel)))) (dw_or1 (dt_cmp (opd_ne hu) (de_callB cr_len z_len rfl (by decide +kernel) (da_consS (v 0) da_nil)) (de_callB cr_len z_len rfl (by decide +kernel) (da_consS (v 1) da_nil)) (nomark _)))))
  (dss_one (ds_ret de_bl))
  dss_nil)
  (dss_one (ds_ret (de_callB (cr_all' rfl) z_all rfl (by decide +kernel) (da_consS (de_lock 1 (lc sc__law_same.nd (blkOk_by (own := [("key", 2)]) (by kernel_rfl)) (by decide) (di_keys false 1) (fun _ _ _ _ _ => (tgt 2 sc__law_same.nd)) (fun _ _ _ _ _ => dts_nil) (fun _ _ _ _ _ => (de_and (de_cmp (opd_in hu) (v 2) (v 0) (by rfl)) (de_one (call ok__law_same hr (da_cons (de_ix (ixd hu) (v 0) (v 2) (fun _ _ => rfl)) (da_cons (de_ix (ixd hu) (vs 1) (v 2) (fun _ _ => rfl)) da_nil)))))))) da_nil)))))
  dss_nil)
  (dss_cons (ds_if (DW.t (dw_or (dt_tru (isi (T := "list") (v 1) (by decide) z_isinstance z_list (by decide +kernel))) (dw_or1 (dt_tru (isi (T := "tuple") (v 1) (by decide) z_isinstance z_tuple (by decide +kernel))))))
  (dss_cons (ds_if (DW.t (dw_or (dt_cmp (opd_ne hu) (isi (T := "list") (v 1) (by decide) z_isinstance z_list (by decide +kernel)) (isi (T := "list") (v 0) (by decide) z_isinstance z_list (by decide +kernel)) (nomark _)) (dw_or1 (dt_cmp (opd_ne hu) (isi (T := "tuple") (v 1) (by decide) z_isinstance z_tuple (by decide +kernel)) (isi (T := "tuple") (v 0) (by decide) z_isinstance z_tuple (by decide +kernel)) (nomark _)))))
  (dss_one (ds_ret de_bl))
  dss_nil)
  (dss_one (ds_ret (de_and (de_cmp (opd_eq hu) (de_callB cr_len z_len rfl (by decide +kernel) (da_consS (v 0) da_nil)) (de_callB cr_len z_len rfl (by decide +kernel) (da_consS (v 1) da_nil)) (nomark _)) (de_one (de_callB (cr_all' rfl) z_all rfl (by decide +kernel) (da_consS (lc sc__law_same.nd (blkOk_by (own := [("k", 3)]) (by kernel_rfl)) (by decide) (di_range1 z_range rfl (da_consS (de_callB cr_len z_len rfl (by decide +kernel) (da_consS (v 1) da_nil)) da_nil)) (fun _ _ _ _ _ => (tgt 3 sc__law_same.nd)) (fun _ _ _ _ _ => dts_nil) (fun _ _ _ _ _ => (call ok__law_same hr (da_cons (de_ix (ixd hu) (v 0) (v 3) (fun _ _ => rfl)) (da_cons (de_ix (ixd hu) (v 1) (v 3) (fun _ _ => rfl)) da_nil))))) da_nil)))))))
  dss_nil)
  (dss_cons (ds_if (dt_tru (isi (T := "str") (v 1) (by decide) z_isinstance z_str (by decide +kernel)))
  (dss_one (ds_ret (de_and (isi (T := "str") (v 0) (by decide) z_isinstance z_str (by decide +kernel)) (de_one (de_cmp (opd_eq hu) (v 0) (v 1) (nomark _))))))
  dss_nil)
  (dss_cons (ds_if (DW.t (dw_or (dt_cmp opd_is (v 1) de_non (nomark _)) (dw_or (dt_cmp opd_isB (v 1) de_bl (nomark _)) (dw_or1 (dt_cmp opd_isB (v 1) de_bl (nomark _))))))
  (dss_one (ds_ret (de_or (de_and (de_cmp opd_is (v 1) de_non (nomark _)) (de_one (de_cmp opd_is (v 0) de_non (nomark _)))) (de_or (de_and (de_cmp opd_isB (v 1) de_bl (nomark _)) (de_one (de_cmp opd_isB (v 0) de_bl (nomark _)))) (de_one (de_and (de_cmp opd_isB (v 1) de_bl (nomark _)) (de_one (de_cmp opd_isB (v 0) de_bl (nomark _)))))))))
  dss_nil)
  (dss_one (ds_ret (de_and (isi (T := "int") (v 0) (by decide) z_isinstance z_int (by decide +kernel)) (de_and (de_not (isi (T := "bool") (v 0) (by decide) z_isinstance z_bool (by decide +kernel))) (de_one (de_cmp (opd_eq hu) (v 0) (v 1) (nomark _)))))))))))) (sp__law_same k)
theorem ok__law_same (D : DefAt K mg "_law_same" s__law_same ["answer", "due"]) (z_all : mg "all" = none) (z_bool : mg "bool" = none) (z_dict : mg "dict" = none) (z_int : mg "int" = none) (z_isinstance : mg "isinstance" = none) (z_len : mg "len" = none) (z_list : mg "list" = none) (z_range : mg "range" = none) (z_str : mg "str" = none) (z_tuple : mg "tuple" = none) : Ok P w K mg base 13 "_law_same" ["answer", "due"] (spM .fz (o__law_same 12)) := by
  suffices h : ∀ k, Ok P w K mg base (k + 1) "_law_same" ["answer", "due"] (spM .fz (o__law_same k)) from h 12
  intro k
  induction k with
  | zero => exact D.none sc__law_same fun vs H Q E ⟨_, ds, P, _, _, ho, _⟩ => z__law_same ds P ho
  | succ k ih => exact stp__law_same D z_all z_bool z_dict z_int z_isinstance z_len z_list z_range z_str z_tuple ih
def gapsOk (many most : Int) (gs : Gaps) : Prop := gs.length ≤ many.toNat
def o__law_gaps_drawn : List D → (D → Prop) → Prop := fun ds P => ∃ many most : Int, ds = [.int many, .int most] ∧ 0 ≤ many ∧ many < 1000 ∧ 0 < most ∧ most < 1000 ∧ ∀ gs : Gaps, gs.length ≤ many.toNat → P (.list (gs.map toD))
theorem len__law_gaps_drawn : ∀ ds P, o__law_gaps_drawn ds P → ds.length + 1 = (["pool", "many", "most"] : List Str).length := fun ds P ⟨_, _, e, _⟩ => by rw [e]; rfl
abbrev s__law_gaps_drawn : Stmt := topS 18
theorem sc__law_gaps_drawn : FnScope ["pool", "many", "most", "found", "last", "k", "down"] ["pool", "many", "most"] (defScope s__law_gaps_drawn) := ⟨rfl, rfl, rfl, by decide +kernel, rfl, by decide +kernel, by decide +kernel⟩
/-- _law_gaps_drawn: slots 0 pool, 1 many, 2 most, 3 found, 4 last, 5 k, 6 down -/
def F__law_gaps_drawn (pl : Addr) : FS := (fSeq (fAsgL 3 (fLst fNil))
  (fSeq (fAsg 4 (fUn oNeg (fC (.int 1))))
  (fSeq (fFor (fRgI oRg1 (fCons (fDraw 0 pl (fOp oAdd (fV 1) (fC (.int 1)))) fNil)) (gN 5)
  (fSeq (fAsg 6 (fOp oAdd (fOp oAdd (fV 4) (fC (.int 1))) (fDraw 0 pl (fV 2))))
  (fSeq (fAsg 4 (fOp oAdd (fOp oAdd (fV 6) (fC (.int 1))) (fDraw 0 pl (fV 2))))
  (fApp 3 (fTup (fCons (fV 6) (fCons (fV 4) fNil)))))))
  (fRetO 3))))
theorem sp__law_gaps_drawn : ∀ pl ds P, o__law_gaps_drawn ds P → F__law_gaps_drawn pl (endsOf .nw P) (startP ["pool", "many", "most", "found", "last", "k", "down"] pl ds) := by
  rintro pl _ P ⟨many, most, rfl, m0, m1, h0, h1, h⟩
  unfold F__law_gaps_drawn
  try walk_at "l3"
  refine ⟨Nat.zero_le _, dr (by omega) (by omega) fun j j0 j1 => ⟨inR_small j0 (by omega), forD_rg 0 j (fun s : Gaps × Int × Sl × Sl => [.raw (.ref pl), .dat (.int many), .dat (.int most), .opl (s.1.map toD), .dat (.int s.2.1), s.2.2.1, s.2.2.2]) (fun i s => s.1.length = i) (fun i s hi hd nx hn => ?_) (fun s hd => ?_) ([], -1, .un, .un) rfl⟩⟩
  · obtain ⟨gs, l, sa, sb⟩ := s
    try walk_at "l3"
    have hd : gs.length = i := hd
    refine dr h0 (by omega) fun a a0 a1 => dr h0 (by omega) fun b b0 b1 => ⟨by decide, Nat.lt_trans (show gs.length < 1000 by omega) (by decide), ?_⟩
    have := hn (gs ++ [(l + 1 + a, l + 1 + a + 1 + b)], l + 1 + a + 1 + b, .dat (.int (0 + (i : Nat))), .dat (.int (l + 1 + a))) (by simp [hd])
    rw [List.map_append] at this
    exact this
  · obtain ⟨gs, l, sa, sb⟩ := s
    have hd : gs.length = (j - 0).toNat := hd
    try walk_at "l3"
    exact h gs (by omega)
theorem ok__law_gaps_drawn (D : DefAt K mg "_law_gaps_drawn" s__law_gaps_drawn ["pool", "many", "most"]) (ok__law_draw : Ok P w K mg base 3 "_law_draw" ["pool", "limit"] (spDraw K)) (z_range : mg "range" = none) : Ok P w K mg base 4 "_law_gaps_drawn" ["pool", "many", "most"] (spP K .nw o__law_gaps_drawn) :=
  D.okP sc__law_gaps_drawn len__law_gaps_drawn (fun pl sa ns f cdv A outer s H E hr => have hu := hr.units
  (dss_cons (ssetL 3 sc__law_gaps_drawn.nd (de_lst da_nil))
  (dss_cons (sset 4 sc__law_gaps_drawn.nd (de_un und_neg de_int))
  (dss_cons (sfor (di_range1 z_range rfl (da_consS (draw 0 ok__law_draw (hr.mono (by decide)) (de_op opd_add (v 1) de_int)) da_nil)) (tgt 5 sc__law_gaps_drawn.nd)
  (dss_cons (sset 6 sc__law_gaps_drawn.nd (de_op opd_add (de_op opd_add (v 4) de_int) (draw 0 ok__law_draw (hr.mono (by decide)) (v 2))))
  (dss_cons (sset 4 sc__law_gaps_drawn.nd (de_op opd_add (de_op opd_add (v 6) de_int) (draw 0 ok__law_draw (hr.mono (by decide)) (v 2))))
  (dss_one (sapp 3 (de_tup (da_cons (v 6) (da_cons (v 4) da_nil))))))))
  (dss_one (ds_retO (pv 3))))))) sp__law_gaps_drawn
abbrev o__law_gap_of := o_gap_at
theorem len__law_gap_of : ∀ ds P, o__law_gap_of ds P → ds.length = (["gaps", "time"] : List Str).length := len_gap_at
abbrev s__law_gap_of : Stmt := topS 19
theorem sc__law_gap_of : FnScope ["gaps", "time", "down", "up"] ["gaps", "time"] (defScope s__law_gap_of) := ⟨rfl, rfl, rfl, by decide +kernel, rfl, by decide +kernel, by decide +kernel⟩
/-- _law_gap_of: slots 0 gaps, 1 time, 2 down, 3 up -/
def F__law_gap_of : FS := (fSeq (fFor (fLstI (fV 0)) (gTup' (gCons' (gN 2) (gCons' (gN 3) gNil')))
  (fIf (fTst (fChain oLe oLt (fV 2) (fV 1) (fV 3)))
  (fRet (fTup (fCons (fV 2) (fCons (fV 3) fNil))))
  fNx))
  (fRet (fC .none)))
theorem sp__law_gap_of : ∀ ds P, o__law_gap_of ds P → F__law_gap_of (endsOf .fz P) (startE ["gaps", "time", "down", "up"] ds) := sp_gap_at
theorem ok__law_gap_of (D : DefAt K mg "_law_gap_of" s__law_gap_of ["gaps", "time"]) : Ok P w K mg base 1 "_law_gap_of" ["gaps", "time"] (spM .fz o__law_gap_of) :=
  D.ok sc__law_gap_of len__law_gap_of (fun f cdv A outer s H E hr => have hu := hr.units
  (dss_cons (sfor (di_list (v 0)) (dg_tup rfl (dgs_cons (tgt 2 sc__law_gap_of.nd) (dgs_cons (tgt 3 sc__law_gap_of.nd) dgs_nil)) (len1 (len1 len0 gN_ex) gN_ex))
  (dss_one (ds_if (dt_chain (opd_le hu) (opd_lt hu) (v 2) (v 1) (v 3))
  (dss_one (ds_ret (de_tup (da_cons (v 2) (da_cons (v 3) da_nil)))))
  dss_nil)))
  (dss_one (ds_ret de_non)))) sp__law_gap_of
abbrev o__law_taken := o_taken
theorem len__law_taken : ∀ ds P, o__law_taken ds P → ds.length = (["numbers"] : List Str).length := len_taken
theorem topM_lt {xs : List Int} {a : Nat} (h : a ∈ topM xs) : a < xs.length := List.mem_range.mp (List.mem_filter.mp h).1
theorem topM_ex (xs : List Int) : ∀ y ∈ xs, ∃ a ∈ topM xs, y ≤ xs.getD a 0 := by
  induction xs using snoc_ind with
  | h0 => intro y h; cases h
  | h xs x ih =>
    have old : ∀ y ∈ xs, ∃ a ∈ topM (xs ++ [x]), y ≤ (xs ++ [x]).getD a 0 := fun y hy => by
      obtain ⟨a, ha, hl⟩ := ih y hy
      refine ⟨a, by rw [topM_snoc]; exact List.mem_append_left _ ha, ?_⟩
      rw [List.getD_eq_getElem?_getD, List.getElem?_append_left (topM_lt ha), ← List.getD_eq_getElem?_getD]
      exact hl
    intro y hy
    rcases List.mem_append.mp hy with hy | hy
    · exact old y hy
    · have hy : y = x := by simpa using hy
      subst hy
      by_cases hc : ∀ z ∈ xs, z ≤ y
      · refine ⟨xs.length, by rw [topM_snoc, if_pos hc]; simp, ?_⟩
        simp
      · have : ∃ z ∈ xs, ¬ z ≤ y := by
          refine Classical.byContradiction fun hn => hc fun z hz => Classical.byContradiction fun hq => hn ⟨z, hz, hq⟩
        obtain ⟨z, hz, hq⟩ := this
        obtain ⟨a, ha, hl⟩ := old z hz
        exact ⟨a, ha, by omega⟩
theorem topM_all (xs : List Int) (x : Int) : (∀ a ∈ topM xs, xs.getD a 0 ≤ x) ↔ ∀ y ∈ xs, y ≤ x := by
  constructor
  · intro h y hy
    obtain ⟨a, ha, hl⟩ := topM_ex xs y hy
    exact Int.le_trans hl (h a ha)
  · intro h a ha
    have := topM_lt ha
    rw [List.getD_eq_getElem?_getD, List.getElem?_eq_getElem this]
    exact h _ (List.getElem_mem this)
abbrev s__law_taken : Stmt := topS 20
theorem sc__law_taken : FnScope ["numbers", "found", "k", "at"] ["numbers"] (defScope s__law_taken) := ⟨rfl, rfl, rfl, by decide +kernel, rfl, by decide +kernel, by decide +kernel⟩
/-- _law_taken: slots 0 numbers, 1 found, 2 k, 3 at -/
def F__law_taken : FS := (fSeq (fAsgL 1 (fLst fNil))
  (fSeq (fFor (fRgI oRg1 (fCons (fCB (o1 oLen) (fCons (fV 0) fNil)) fNil)) (gN 2)
  (fIf (fTru (fCB (o1 oAll) (fCons (fComp (fLstI (fVs 1)) (gN 3) fYes (fOp oLe (fOp oIx (fV 0) (fV 3)) (fOp oIx (fV 0) (fV 2))) [3]) fNil)))
  (fApp 1 (fV 2))
  fNx))
  (fRetO 1)))
theorem sp__law_taken : ∀ ds P, o__law_taken ds P → F__law_taken (endsOf .nw P) (startE ["numbers", "found", "k", "at"] ds) := by
  rintro _ P ⟨ns, rfl, hl, h⟩
  unfold F__law_taken
  try walk_at "l3"
  refine ⟨Nat.zero_le _, inR_of hl, forD_n ns.length (fun s : List Nat × Sl × Sl => [.dat (.list (ns.map toD)), .opl (s.1.map natD), s.2.1, s.2.2]) (fun i s => s.1 = topM (ns.take i)) (fun i s hi hd nx hn => ?_) (fun s hd => ?_) ([], .un, .un) rfl⟩
  · obtain ⟨fs, sa, sb⟩ := s
    have hd : fs = topM (ns.take i) := hd
    try walk_at "l3"
    have h1 : (ns.take i).length = i := by rw [List.length_take]; omega
    have hfl : fs.length ≤ i := by rw [hd]; exact Nat.le_trans (topM_le _) (by omega)
    refine compD_pure natD PyData.bool fs (fun _ => true) (fun a => decide (ns.getD a 0 ≤ ns[i])) (by omega) (fun a ha ds nx' hn' hx => ?_) ⟨_, rfl, ?_⟩
    · have ha' : a < i := by rw [hd] at ha; have := topM_lt ha; omega
      try walk_at "l3"
      refine ⟨ns[a], by rw [atI_n, List.getElem?_eq_getElem (by omega)], ns[i], by rw [atI_n, List.getElem?_eq_getElem hi], ?_⟩
      rw [List.getD_eq_getElem?_getD, List.getElem?_eq_getElem (show a < ns.length by omega)] at hx
      exact ⟨hn', hx⟩
    · have hsn := topM_snoc (ns.take i) ns[i]
      rw [← take_snoc hi, h1] at hsn
      have key : ((List.map (fun a => decide (ns.getD a 0 ≤ ns[i])) (List.filter (fun _ => true) fs)).all id = true) ↔ ∀ y ∈ ns.take i, y ≤ ns[i] := by
        rw [← topM_all, ← hd]
        simp only [List.all_eq_true, List.mem_map, List.mem_filter, and_true, forall_exists_index, and_imp, forall_apply_eq_imp_iff₂, id_eq, decide_eq_true_eq]
        refine ⟨fun h a ha => ?_, fun h a ha => ?_⟩
        · have ha' : a < i := by rw [hd] at ha; have := topM_lt ha; omega
          have := h a ha
          rw [List.getD_eq_getElem?_getD] at this ⊢
          rw [List.getElem?_take_of_lt ha']; exact this
        · have ha' : a < i := by rw [hd] at ha; have := topM_lt ha; omega
          have := h a ha
          rw [List.getD_eq_getElem?_getD] at this ⊢
          rw [List.getElem?_take_of_lt ha'] at this; exact this
      show if _ then _ else _
      split
      · rename_i hc
        rw [if_pos (key.mp hc)] at hsn
        have := hn (fs ++ [i], .dat (.int (i : Nat)), sb) (by rw [hsn, hd])
        rw [List.map_append] at this
        exact ⟨by omega, this⟩
      · rename_i hc
        rw [if_neg (fun z => hc (key.mpr z)), List.append_nil] at hsn
        exact hn (fs, .dat (.int (i : Nat)), sb) (by rw [hsn, hd])
  · obtain ⟨fs, sa, sb⟩ := s
    have hd : fs = topM (ns.take ns.length) := hd
    rw [List.take_of_length_le (Nat.le_refl _)] at hd
    subst hd
    try walk_at "l3"
    exact h
theorem ok__law_taken (D : DefAt K mg "_law_taken" s__law_taken ["numbers"]) (z_all : mg "all" = none) (z_len : mg "len" = none) (z_range : mg "range" = none) : Ok P w K mg base 1 "_law_taken" ["numbers"] (spM .nw o__law_taken) :=
  D.ok sc__law_taken len__law_taken (fun f cdv A outer s H E hr => have hu := hr.units
  (dss_cons (ssetL 1 sc__law_taken.nd (de_lst da_nil))
  (dss_cons (sfor (di_range1 z_range rfl (da_consS (de_callB cr_len z_len rfl (by decide +kernel) (da_consS (v 0) da_nil)) da_nil)) (tgt 2 sc__law_taken.nd)
  (dss_one (ds_if (dt_tru (de_callB (cr_all' rfl) z_all rfl (by decide +kernel) (da_consS (lc sc__law_taken.nd (blkOk_by (own := [("at", 3)]) (by kernel_rfl)) (by decide) (di_listS (vs 1)) (fun _ _ _ _ _ => (tgt 3 sc__law_taken.nd)) (fun _ _ _ _ _ => dts_nil) (fun _ _ _ _ _ => (de_cmp (opd_le hu) (de_ix (ixd hu) (v 0) (v 3) (fun _ _ => rfl)) (de_ix (ixd hu) (v 0) (v 2) (fun _ _ => rfl)) (nomark _)))) da_nil)))
  (dss_one (sapp 1 (v 2)))
  dss_nil)))
  (dss_one (ds_retO (pv 1)))))) sp__law_taken
abbrev o__law_works := o_works
theorem len__law_works : ∀ ds P, o__law_works ds P → ds.length = (["copies", "keep"] : List Str).length := len_works
abbrev s__law_works : Stmt := topS 21
theorem sc__law_works : FnScope ["copies", "keep", "found", "k", "before", "time", "key", "one"] ["copies", "keep"] (defScope s__law_works) := ⟨rfl, rfl, rfl, by decide +kernel, rfl, by decide +kernel, by decide +kernel⟩
/-- _law_works: slots 0 copies, 1 keep, 2 found, 3 k, 4 before, 5 time, 6 key, 7 one -/
def F__law_works : FS := (fSeq (fAsgL 2 (fLst fNil))
  (fSeq (fFor (fRgI oRg1 (fCons (fCB (o1 oLen) (fCons (fV 0) fNil)) fNil)) (gN 3)
  (fSeq (fAsgG (gTup' (gCons' (gN 5) (gCons' (gN 6) gNil'))) (fOp oIx (fV 0) (fV 3)))
  (fSeq (fAsg 4 (fComp (fLstI (fSl oSlL (fV 0) fOn (fOs (fV 3)))) (gN 7) (fTst (fOp oEq (fOp oIx (fV 7) (fC (.int 1))) (fV 6))) (fOp oIx (fV 7) (fC (.int 0))) [7]))
  (fIf (fOrT (fTst (fOp oEq (fV 4) (fLst fNil))) (fTst (fOp oGe (fOp oSub (fV 5) (fOp oIx (fV 4) (fUn oNeg (fC (.int 1))))) (fV 1))))
  (fApp 2 (fTup (fCons (fV 5) (fCons (fV 6) fNil))))
  fNx))))
  (fRetO 2)))
theorem sp__law_works : ∀ ds P, o__law_works ds P → F__law_works (endsOf .nw P) (startE ["copies", "keep", "found", "k", "time", "key", "before", "one"] ds) := by
  rintro _ P ⟨cs, keep, rfl, hl, h⟩
  unfold F__law_works
  try walk_at "l3"
  refine ⟨Nat.zero_le _, inR_of hl, forD_n cs.length (fun s : Cps × Sl × Sl × Sl × Sl × Sl => [.dat (.list (cs.map toD)), .dat (.int keep), .opl (s.1.map toD), s.2.1, s.2.2.1, s.2.2.2.1, s.2.2.2.2.1, s.2.2.2.2.2]) (fun i s => s.1 = worksM keep (cs.take i)) (fun i s hi hd nx hn => ?_) (fun s hd => ?_) ([], .un, .un, .un, .un, .un) rfl⟩
  · obtain ⟨fs, sa, sb, sc, sd, se⟩ := s
    have hd : fs = worksM keep (cs.take i) := hd
    try walk_at "l3"
    have h1 : (cs.take i).length = i := by rw [List.length_take]; omega
    have hfl : fs.length ≤ i := by rw [hd]; exact Nat.le_trans (worksM_len _ _) (by omega)
    refine ⟨cs[i], by rw [atI_n, List.getElem?_eq_getElem hi], ?_⟩
    try walk_at "l3"
    refine compD_pure toD toD (cs.take i) (fun c => decide (c.2 = cs[i].2)) (·.1) (by omega) (fun a ha ds nx' hn' hx => ?_) ?_
    · try walk_at "l3"
      by_cases hc : a.2 = cs[i].2
      · rw [if_pos (by simpa using hc)] at hx; rw [if_pos hc]; exact ⟨hn', hx⟩
      · rw [if_neg (by simpa using hc)] at hx; rw [if_neg hc]; exact hx
    · have hb : lastM (cs.take i) cs[i].2 = (List.map (fun x : Int × Str => x.fst) (List.filter (fun c => decide (c.snd = cs[i].snd)) (List.take i cs))).getLast? := rfl
      generalize List.map (fun x : Int × Str => x.fst) (List.filter (fun c => decide (c.snd = cs[i].snd)) (List.take i cs)) = bs at hb
      have hsn := worksM_snoc keep (cs.take i) cs[i]
      rw [← take_snoc hi] at hsn
      unfold newM at hsn
      rw [hb, ← hd] at hsn
      have two : 2 ≤ sizeLine := by decide
      have hlen : fs.length < sizeLine := by omega
      try walk_at "l3"
      refine ⟨Nat.zero_le _, ?_⟩
      cases hq : bs.getLast? with
      | none =>
        have := List.getLast?_eq_none_iff.mp hq
        subst this
        rw [hq] at hsn
        have := hn (fs ++ [cs[i]], .dat (.int (i : Nat)), .dat (.list []), .dat (.int cs[i].1), .dat (.str cs[i].2), se) (by rw [hsn]; rfl)
        rw [List.map_append] at this
        exact ⟨two, hlen, this⟩
      | some l =>
        rw [hq] at hsn
        have hne : bs ≠ [] := fun z => by rw [z] at hq; cases hq
        rw [if_neg hne]
        refine ⟨l, by rw [atI_end, hq], ?_⟩
        try walk_at "l3"
        split
        · rename_i hc
          rw [if_pos (by simpa using hc)] at hsn
          have := hn (fs ++ [cs[i]], .dat (.int (i : Nat)), .dat (.list (bs.map toD)), .dat (.int cs[i].1), .dat (.str cs[i].2), se) hsn.symm
          rw [List.map_append] at this
          exact ⟨two, hlen, this⟩
        · rename_i hc
          rw [if_neg (by simpa using hc), List.append_nil] at hsn
          exact hn (fs, .dat (.int (i : Nat)), .dat (.list (bs.map toD)), .dat (.int cs[i].1), .dat (.str cs[i].2), se) hsn.symm
  · obtain ⟨fs, sa, sb, sc, sd, se⟩ := s
    have hd : fs = worksM keep (cs.take cs.length) := hd
    rw [List.take_of_length_le (Nat.le_refl _)] at hd
    subst hd
    try walk_at "l3"
    exact h
theorem ok__law_works (D : DefAt K mg "_law_works" s__law_works ["copies", "keep"]) (z_len : mg "len" = none) (z_range : mg "range" = none) : Ok P w K mg base 1 "_law_works" ["copies", "keep"] (spM .nw o__law_works) :=
  D.ok sc__law_works len__law_works (fun f cdv A outer s H E hr => have hu := hr.units
  (dss_cons (ssetL 2 sc__law_works.nd (de_lst da_nil))
  (dss_cons (sfor (di_range1 z_range rfl (da_consS (de_callB cr_len z_len rfl (by decide +kernel) (da_consS (v 0) da_nil)) da_nil)) (tgt 3 sc__law_works.nd)
  (dss_cons (ds_asgG (de_ix (ixd hu) (v 0) (v 3) (fun _ _ => rfl)) (dg_tup rfl (dgs_cons (tgt 5 sc__law_works.nd) (dgs_cons (tgt 6 sc__law_works.nd) dgs_nil)) (len1 (len1 len0 gN_ex) gN_ex)))
  (dss_cons (ssetC 4 sc__law_works.nd (blkOk_by (own := [("one", 7)]) (by kernel_rfl)) (by decide) (di_listS (de_slice sldL (v 0) do_n (do_s (v 3)))) (fun _ _ _ _ _ => (tgt 7 sc__law_works.nd)) (fun _ _ _ _ _ => dts_one (dt_cmp (opd_eq hu) (de_ix (ixd hu) (v 7) de_int (fun _ _ => rfl)) (v 6) (nomark _))) (fun _ _ _ _ _ => (de_ix (ixd hu) (v 7) de_int (fun _ _ => rfl))) (sw_true rfl rfl rfl (by decide +kernel)))
  (dss_one (ds_if (DW.t (dw_or (dt_cmp (opd_eq hu) (v 4) (de_lst da_nil) (nomark _)) (dw_or1 (dt_cmp (opd_ge hu) (de_op opd_sub (v 5) (de_ix (ixd hu) (v 4) (de_un und_neg de_int) (fun _ _ => rfl))) (v 1) (nomark _)))))
  (dss_one (sapp 2 (de_tup (da_cons (v 5) (da_cons (v 6) da_nil)))))
  dss_nil)))))
  (dss_one (ds_retO (pv 2)))))) sp__law_works
abbrev o__law_again := o_done_twice
theorem len__law_again : ∀ ds P, o__law_again ds P → ds.length = (["copies", "keep"] : List Str).length := len_done_twice
abbrev s__law_again : Stmt := topS 22
theorem sc__law_again : FnScope ["copies", "keep", "keys", "time", "key"] ["copies", "keep"] (defScope s__law_again) := ⟨rfl, rfl, rfl, by decide +kernel, rfl, by decide +kernel, by decide +kernel⟩
/-- _law_again: slots 0 copies, 1 keep, 2 keys, 3 time, 4 key -/
def F__law_again : FS := (fSeq (fAsgL 2 (fLst fNil))
  (fSeq (fFor (fLstI (fCB o__law_works (fCons (fV 0) (fCons (fV 1) fNil)))) (gTup' (gCons' (gN 3) (gCons' (gN 4) gNil')))
  (fSeq (fIf (fTst (fOp (oIn false) (fV 4) (fVs 2)))
  (fRet (fTup (fCons (fV 4) (fCons (fV 3) fNil))))
  fNx)
  (fApp 2 (fV 4))))
  (fRet (fC .none))))
theorem sp__law_again : ∀ ds P, o__law_again ds P → F__law_again (endsOf .fz P) (startE ["copies", "keep", "keys", "time", "key"] ds) := by
  rintro _ P ⟨cs, keep, rfl, hl, h⟩
  unfold F__law_again
  try walk_at "l3"
  refine ⟨Nat.zero_le _, cs, keep, rfl, hl, forD_pre toD (fun s : List Str × Sl × Sl => [.dat (.list (cs.map toD)), .dat (.int keep), .opl (s.1.map toD), s.2.1, s.2.2]) (worksM keep cs)
    (fun done s => firstGo twQ [] done = none ∧ s.1 = done.map (·.2)) (fun done x rest s e hd nx hn => ?_) (fun s hd => ?_) ([], .un, .un) ⟨rfl, rfl⟩⟩
  · obtain ⟨m, sa, sb⟩ := s
    obtain ⟨t, key⟩ := x
    obtain ⟨hf, h1⟩ := hd
    have h1 : m = done.map (·.2) := h1
    have hlen : m.length < sizeLine := by
      have := worksM_len keep cs
      rw [e] at this; simp at this; rw [h1, List.length_map]; omega
    try walk_at "l3"
    split
    · rename_i hk
      rw [e, twice_yes hf (h1 ▸ hk)] at h
      exact ⟨by decide, h⟩
    · rename_i hk
      have := hn (m ++ [key], .dat (.int t), .dat (.str key)) ⟨twice_no hf (h1 ▸ hk), by simp [h1]⟩
      rw [List.map_append] at this
      exact ⟨hlen, this⟩
  · obtain ⟨m, sa, sb⟩ := s
    have hf : firstGo twQ [] (worksM keep cs) = none := hd.1
    unfold twiceM at h
    rw [hf] at h
    try walk_at "l3"
    exact h
theorem ok__law_again (D : DefAt K mg "_law_again" s__law_again ["copies", "keep"]) (ok__law_works : Ok P w K mg base 1 "_law_works" ["copies", "keep"] (spM .nw o__law_works)) : Ok P w K mg base 2 "_law_again" ["copies", "keep"] (spM .fz o__law_again) :=
  D.ok sc__law_again len__law_again (fun f cdv A outer s H E hr => have hu := hr.units
  (dss_cons (ssetL 2 sc__law_again.nd (de_lst da_nil))
  (dss_cons (sfor (di_list (call ok__law_works (hr.mono (by decide)) (da_cons (v 0) (da_cons (v 1) da_nil)))) (dg_tup rfl (dgs_cons (tgt 3 sc__law_again.nd) (dgs_cons (tgt 4 sc__law_again.nd) dgs_nil)) (len1 (len1 len0 gN_ex) gN_ex))
  (dss_cons (ds_if (dt_cmp (opd_in hu) (v 4) (vs 2) (by rfl))
  (dss_one (ds_ret (de_tup (da_cons (v 4) (da_cons (v 3) da_nil)))))
  dss_nil)
  (dss_one (sapp 2 (v 4)))))
  (dss_one (ds_ret de_non))))) sp__law_again
def wideQ (keep : Int) (pre : Cps) (c : Int × Str) : Bool := match lastM pre c.2 with
  | none => false
  | some l => decide (keep ≤ c.1 - l)
def spreadM (keep : Int) (cs : Cps) : Bool := (firstGo (wideQ keep) [] cs).isSome
def o__law_spread : List D → (D → Prop) → Prop := fun ds P => ∃ (cs : Cps) (keep : Int), ds = [.list (cs.map toD), .int keep] ∧ cs.length ≤ sizeLine ∧ P (.bool (spreadM keep cs))
theorem len__law_spread : ∀ ds P, o__law_spread ds P → ds.length = (["copies", "keep"] : List Str).length := fun ds P ⟨_, _, e, _⟩ => by rw [e]; rfl
abbrev s__law_spread : Stmt := topS 23
theorem sc__law_spread : FnScope ["copies", "keep", "k", "before", "one"] ["copies", "keep"] (defScope s__law_spread) := ⟨rfl, rfl, rfl, by decide +kernel, rfl, by decide +kernel, by decide +kernel⟩
/-- _law_spread: slots 0 copies, 1 keep, 2 k, 3 before, 4 one -/
def F__law_spread : FS := (fSeq (fFor (fRgI oRg1 (fCons (fCB (o1 oLen) (fCons (fV 0) fNil)) fNil)) (gN 2)
  (fSeq (fAsg 3 (fComp (fLstI (fSl oSlL (fV 0) fOn (fOs (fV 2)))) (gN 4) (fTst (fOp oEq (fOp oIx (fV 4) (fC (.int 1))) (fOp oIx (fOp oIx (fV 0) (fV 2)) (fC (.int 1))))) (fOp oIx (fV 4) (fC (.int 0))) [4]))
  (fIf (fAndT (fTst (fOp oNe (fV 3) (fLst fNil))) (fTst (fOp oGe (fOp oSub (fOp oIx (fOp oIx (fV 0) (fV 2)) (fC (.int 0))) (fOp oIx (fV 3) (fUn oNeg (fC (.int 1))))) (fV 1))))
  (fRet (fC (.bool true)))
  fNx)))
  (fRet (fC (.bool false))))
theorem sp__law_spread : ∀ ds P, o__law_spread ds P → F__law_spread (endsOf .fz P) (startE ["copies", "keep", "k", "before", "one"] ds) := by
  rintro _ P ⟨cs, keep, rfl, hl, h⟩
  unfold F__law_spread
  try walk_at "l3"
  refine ⟨inR_of hl, forD_n cs.length (fun s : Sl × Sl × Sl => [.dat (.list (cs.map toD)), .dat (.int keep), s.1, s.2.1, s.2.2]) (fun i s => firstGo (wideQ keep) [] (cs.take i) = none) (fun i s hi hd nx hn => ?_) (fun s hd => ?_) (.un, .un, .un) rfl⟩
  · obtain ⟨sa, sb, sc⟩ := s
    try walk_at "l3"
    have hd : firstGo (wideQ keep) [] (cs.take i) = none := hd
    have h1 : (cs.take i).length = i := by rw [List.length_take]; omega
    have ixi : ∀ Q : D → Prop, Q (toD cs[i]) → ∃ x, atI cs (i : Nat) = some x ∧ Q (toD x) := fun Q hq => ⟨cs[i], by rw [atI_n, List.getElem?_eq_getElem hi], hq⟩
    refine compD_pure toD toD (cs.take i) (fun c => decide (c.2 = cs[i].2)) (·.1) (by omega) (fun a ha ds nx' hn' hx => ?_) ?_
    · try walk_at "l3"
      refine ⟨cs[i], by rw [atI_n, List.getElem?_eq_getElem hi], ?_⟩
      try walk_at "l3"
      by_cases hc : a.2 = cs[i].2
      · rw [if_pos (by simpa using hc)] at hx; rw [if_pos hc]; exact ⟨hn', hx⟩
      · rw [if_neg (by simpa using hc)] at hx; rw [if_neg hc]; exact hx
    · have hb : lastM (cs.take i) cs[i].2 = (List.map (fun x : Int × Str => x.fst) (List.filter (fun c => decide (c.snd = cs[i].snd)) (List.take i cs))).getLast? := rfl
      generalize List.map (fun x : Int × Str => x.fst) (List.filter (fun c => decide (c.snd = cs[i].snd)) (List.take i cs)) = bs at hb
      have hsn := first_snoc (wideQ keep) (cs.take i) [] cs[i] hd
      rw [← take_snoc hi, List.nil_append] at hsn
      have hyes : wideQ keep (cs.take i) cs[i] = true → spreadM keep cs = true := fun hw => by
        unfold spreadM
        have e : cs = cs.take i ++ cs.drop i := (List.take_append_drop i cs).symm
        rw [List.drop_eq_getElem_cons hi] at e
        rw [e, first_app _ _ _ _ hd, firstGo, List.nil_append, if_pos hw]; rfl
      unfold wideQ at hsn hyes
      rw [hb] at hsn hyes
      try walk_at "l3"
      refine ⟨Nat.zero_le _, ?_⟩
      cases hq : bs.getLast? with
      | none =>
        have := List.getLast?_eq_none_iff.mp hq
        subst this
        rw [hq] at hsn
        rw [if_neg (by simp)]
        exact hn (.dat (.int (i : Nat)), .dat (.list []), sc) (hsn.trans rfl)
      | some l =>
        rw [hq] at hsn hyes
        have hne : bs ≠ [] := fun z => by rw [z] at hq; cases hq
        rw [if_pos hne]
        refine ⟨cs[i], by rw [atI_n, List.getElem?_eq_getElem hi], ?_⟩
        try walk_at "l3"
        refine ⟨l, by rw [atI_end, hq], ?_⟩
        try walk_at "l3"
        split
        · rename_i hc
          rw [hyes (by simpa using hc)] at h
          exact h
        · rename_i hc
          rw [if_neg (by simpa using hc)] at hsn
          exact hn (.dat (.int (i : Nat)), .dat (.list (bs.map toD)), sc) hsn
  · obtain ⟨sa, sb, sc⟩ := s
    have hd : firstGo (wideQ keep) [] (cs.take cs.length) = none := hd
    rw [List.take_of_length_le (Nat.le_refl _)] at hd
    unfold spreadM at h
    rw [hd] at h
    try walk_at "l3"
    exact h
theorem ok__law_spread (D : DefAt K mg "_law_spread" s__law_spread ["copies", "keep"]) (z_len : mg "len" = none) (z_range : mg "range" = none) : Ok P w K mg base 1 "_law_spread" ["copies", "keep"] (spM .fz o__law_spread) :=
  D.ok sc__law_spread len__law_spread (fun f cdv A outer s H E hr => have hu := hr.units
  (dss_cons (sfor (di_range1 z_range rfl (da_consS (de_callB cr_len z_len rfl (by decide +kernel) (da_consS (v 0) da_nil)) da_nil)) (tgt 2 sc__law_spread.nd)
  (dss_cons (ssetC 3 sc__law_spread.nd (blkOk_by (own := [("one", 4)]) (by kernel_rfl)) (by decide) (di_listS (de_slice sldL (v 0) do_n (do_s (v 2)))) (fun _ _ _ _ _ => (tgt 4 sc__law_spread.nd)) (fun _ _ _ _ _ => dts_one (dt_cmp (opd_eq hu) (de_ix (ixd hu) (v 4) de_int (fun _ _ => rfl)) (de_ix (ixd hu) (de_ix (ixd hu) (v 0) (v 2) (fun _ _ => rfl)) de_int (fun _ _ => rfl)) (nomark _))) (fun _ _ _ _ _ => (de_ix (ixd hu) (v 4) de_int (fun _ _ => rfl))) (sw_true rfl rfl rfl (by decide +kernel)))
  (dss_one (ds_if (DW.t (dw_and (dt_cmp (opd_ne hu) (v 3) (de_lst da_nil) (nomark _)) (dw_and1 (dt_cmp (opd_ge hu) (de_op opd_sub (de_ix (ixd hu) (de_ix (ixd hu) (v 0) (v 2) (fun _ _ => rfl)) de_int (fun _ _ => rfl)) (de_ix (ixd hu) (v 3) (de_un und_neg de_int) (fun _ _ => rfl))) (v 1) (nomark _)))))
  (dss_one (ds_ret de_bl))
  dss_nil))))
  (dss_one (ds_ret de_bl)))) sp__law_spread
abbrev o__law_tries := o_tries
theorem len__law_tries : ∀ ds P, o__law_tries ds P → ds.length = (["start", "waits", "gaps"] : List Str).length := len_tries
abbrev s__law_tries : Stmt := topS 24
theorem sc__law_tries : FnScope ["start", "waits", "gaps", "found", "wait"] ["start", "waits", "gaps"] (defScope s__law_tries) := ⟨rfl, rfl, rfl, by decide +kernel, rfl, by decide +kernel, by decide +kernel⟩
/-- _law_tries: slots 0 start, 1 waits, 2 gaps, 3 found, 4 wait -/
def F__law_tries : FS := (fSeq (fAsgL 3 (fLst (fCons (fV 0) fNil)))
  (fSeq (fFor (fLstI (fV 1)) (gN 4)
  (fSeq (fIf (fTst (fOp (oIsN false) (fCB o__law_gap_of (fCons (fV 2) (fCons (fOp oIx (fVs 3) (fUn oNeg (fC (.int 1)))) fNil))) (fC .none)))
  fBk
  fNx)
  (fApp 3 (fOp oAdd (fOp oIx (fVs 3) (fUn oNeg (fC (.int 1)))) (fV 4)))))
  (fRetO 3)))
theorem allM_drop : ∀ (ws : List Int) (s w : Int), (allM s (ws ++ [w])).dropLast = allM s ws := fun ws s w => by
  rw [allM_snoc, List.dropLast_concat]
theorem allM_app : ∀ (done : List Int) (s x : Int) (rest : List Int), allM s (done ++ x :: rest) = allM s done ++ allM (s + done.sum + x) rest
  | [], s, x, rest => by simp [allM]
  | d :: done, s, x, rest => by
    rw [List.cons_append, allM, allM, allM_app done, List.sum_cons, List.cons_append]
    congr 3; omega
theorem allM_end (done : List Int) (s : Int) : ∃ pre, allM s done = pre ++ [s + done.sum] := by
  induction done using snoc_ind with
  | h0 => exact ⟨[], by simp [allM]⟩
  | h xs x ih => exact ⟨allM s xs, by rw [allM_snoc, List.sum_append, List.sum_singleton, Int.add_assoc]⟩
theorem sp__law_tries : ∀ ds P, o__law_tries ds P → F__law_tries (endsOf .nw P) (startE ["start", "waits", "gaps", "found", "wait"] ds) := by
  rintro _ P ⟨s, ws, gs, rfl, hl, h⟩
  unfold F__law_tries
  try walk_at "l3"
  refine ⟨by decide, forD_pre toD (fun t : List Int × Sl => [.dat (.int s), .dat (.list (ws.map toD)), .dat (.list (gs.map toD)), .opl (t.1.map toD), t.2]) ws (fun done t => t.1 = allM s done ∧ ∀ y ∈ (allM s done).dropLast, upM gs y = false) (fun done x rest t e hd nx hn => ?_) (fun t hd => ?_) ([s], .un) ⟨rfl, fun _ z => nomatch z⟩⟩
  · obtain ⟨fs, sa⟩ := t
    obtain ⟨hd, hu⟩ := hd
    have hd : fs = allM s done := hd
    subst hd
    have hu : ∀ y ∈ (allM s done).dropLast, upM gs y = false := hu
    try walk_at "l3"
    refine ⟨s + done.sum, by rw [atI_end, allM_last], gs, s + done.sum, rfl, ?_⟩
    obtain ⟨pre, hpre⟩ := allM_end done s
    rw [hpre, List.dropLast_concat] at hu
    by_cases hx : upM gs (s + done.sum) = true
    · have hg : gapM gs (s + done.sum) = none := by simpa [upM] using hx
      rw [hg]
      try walk_at "l3"
      have : triesM s ws gs = allM s done := by
        unfold triesM
        rw [e, allM_app, hpre, List.append_assoc, upTo_go hu, List.singleton_append, upTo, if_pos hx]
      rw [this] at h
      exact h
    · have hg : ∃ p, gapM gs (s + done.sum) = some p := by
        cases q : gapM gs (s + done.sum) with
        | none => exact (hx (by unfold upM; rw [q]; rfl)).elim
        | some p => exact ⟨p, rfl⟩
      obtain ⟨p, hg⟩ := hg
      rw [hg]
      try walk_at "l3"
      refine ⟨s + done.sum, by rw [atI_end, allM_last], ?_, ?_⟩
      · rw [allM_len]; rw [e] at hl; simp at hl; omega
      · have := hn (allM s (done ++ [x]), .dat (.int x)) ⟨rfl, fun y hy => by
          rw [allM_drop, hpre] at hy
          rcases List.mem_append.mp hy with hy | hy
          · exact hu y hy
          · have hy : y = s + done.sum := by simpa using hy
            subst hy; exact eq_false_of_ne_true hx⟩
        rw [allM_snoc, List.map_append] at this
        exact this
  · obtain ⟨fs, sa⟩ := t
    obtain ⟨hd, hu⟩ := hd
    have hd : fs = allM s ws := hd
    subst hd
    have hu : ∀ y ∈ (allM s ws).dropLast, upM gs y = false := hu
    obtain ⟨pre, hpre⟩ := allM_end ws s
    rw [hpre, List.dropLast_concat] at hu
    have : triesM s ws gs = allM s ws := by
      unfold triesM
      rw [hpre, upTo_go hu, upTo]
      split <;> rfl
    rw [this] at h
    try walk_at "l3"
    exact h
theorem ok__law_tries (D : DefAt K mg "_law_tries" s__law_tries ["start", "waits", "gaps"]) (ok__law_gap_of : Ok P w K mg base 1 "_law_gap_of" ["gaps", "time"] (spM .fz o__law_gap_of)) : Ok P w K mg base 2 "_law_tries" ["start", "waits", "gaps"] (spM .nw o__law_tries) :=
  D.ok sc__law_tries len__law_tries (fun f cdv A outer s H E hr => have hu := hr.units
  (dss_cons (ssetL 3 sc__law_tries.nd (de_lst (da_cons (v 0) da_nil)))
  (dss_cons (sfor (di_list (v 1)) (tgt 4 sc__law_tries.nd)
  (dss_cons (ds_if (dt_cmp opd_is (call ok__law_gap_of (hr.mono (by decide)) (da_cons (v 2) (da_cons (de_ix (ixd hu) (vs 3) (de_un und_neg de_int) (fun _ _ => rfl)) da_nil))) de_non (nomark _))
  (dss_one ds_break)
  dss_nil)
  (dss_one (sapp 3 (de_op opd_add (de_ix (ixd hu) (vs 3) (de_un und_neg de_int) (fun _ _ => rfl)) (v 4))))))
  (dss_one (ds_retO (pv 3)))))) sp__law_tries
theorem first_some {α : Type} (q : List α → α → Bool) : ∀ (xs pre ys : List α) (y : α), firstGo q pre xs = some y → firstGo q pre (xs ++ ys) = some y
  | [], _, _, _, h => nomatch h
  | x :: xs, pre, ys, y, h => by
    rw [firstGo] at h
    rw [List.cons_append, firstGo]
    split at h
    · rename_i hq; rw [if_pos hq]; exact h
    · rename_i hq; rw [if_neg hq]; exact first_some q xs _ ys y h
theorem first_or {α : Type} (q : List α → α → Bool) (xs : List α) (x : α) : (firstGo q [] (xs ++ [x])).isSome = ((firstGo q [] xs).isSome || q xs x) := by
  cases h : firstGo q [] xs with
  | some y => rw [first_some q xs [] [x] y h]; rfl
  | none =>
    rw [first_snoc q xs [] x h, List.nil_append]
    cases q xs x <;> rfl
theorem lastM_none (xs : Cps) (k : Str) : lastM xs k = none ↔ k ∉ xs.map (·.2) := by
  induction xs using snoc_ind with
  | h0 => simp [lastM]
  | h xs x ih =>
    rw [lastM_snoc]
    by_cases h : x.2 = k
    · rw [if_pos h]; simp [h]
    · rw [if_neg h, ih]; simp; intro _ z; exact (h z.symm).elim
theorem again_spread (keep : Int) (cs : Cps) : (twiceM (worksM keep cs)).isSome = spreadM keep cs ∧ ∀ k, k ∈ (worksM keep cs).map (·.2) ↔ k ∈ cs.map (·.2) := by
  have hm : ∀ ws, (twiceM ws).isSome = (firstGo twQ [] ws).isSome := fun ws => by unfold twiceM; cases firstGo twQ [] ws <;> rfl
  induction cs using snoc_ind with
  | h0 => exact ⟨rfl, fun k => Iff.rfl⟩
  | h xs x ih =>
    obtain ⟨ih1, ih2⟩ := ih
    rw [hm] at ih1 ⊢
    unfold spreadM at ih1 ⊢
    rw [worksM_snoc, first_or, ← ih1]
    cases hl : lastM xs x.2 with
    | none =>
      have hn : newM keep xs x = true := by unfold newM; rw [hl]
      have hw : wideQ keep xs x = false := by unfold wideQ; rw [hl]
      have hk := (lastM_none xs x.2).mp hl
      rw [hn, hw, if_pos rfl, first_or]
      have : twQ (worksM keep xs) x = false := by
        unfold twQ; simpa using fun h => hk ((ih2 x.2).mp h)
      rw [this]
      refine ⟨rfl, fun k => ?_⟩
      rw [List.map_append, List.map_append, List.mem_append, List.mem_append, ih2]
    | some l =>
      have hk : x.2 ∈ xs.map (·.2) := Classical.byContradiction fun z => by
        have := (lastM_none xs x.2).mpr z; rw [hl] at this; cases this
      have hnw : newM keep xs x = wideQ keep xs x := by unfold newM wideQ; rw [hl]
      rw [hnw]
      cases hw : wideQ keep xs x with
      | true =>
        rw [if_pos rfl, first_or]
        have : twQ (worksM keep xs) x = true := by
          unfold twQ; exact decide_eq_true ((ih2 x.2).mpr hk)
        rw [this]
        refine ⟨rfl, fun k => ?_⟩
        rw [List.map_append, List.map_append, List.mem_append, List.mem_append, ih2]
      | false =>
        rw [if_neg (by decide), List.append_nil, Bool.or_false]
        refine ⟨rfl, fun k => ?_⟩
        rw [ih2, List.map_append, List.mem_append]
        refine ⟨.inl, fun h => h.elim id fun h => ?_⟩
        have : k = x.2 := by simpa using h
        rw [this]; exact hk
abbrev s_law : Stmt := topS 25
theorem sc_law : FnScope ["script", "pool", "numbers", "copies", "time", "k", "keep", "handed", "gaps", "waits", "start", "due"] ["script"] (defScope s_law) := ⟨rfl, rfl, rfl, by decide +kernel, rfl, by decide +kernel, by decide +kernel⟩
/-- law: slots 0 script, 1 pool, 2 numbers, 3 copies, 4 time, 5 k, 6 keep, 7 handed, 8 gaps, 9 waits, 10 start, 11 due -/
def F_law (pl : Addr) : FS := (fSeq (fAsg 2 (fComp (fRgI oRg1 (fCons (fDraw 1 pl (fC (.int 15))) fNil)) (gN 5) fYes (fDraw 1 pl (fC (.int 12))) [5]))
  (fSeq (fIf (fNotT (fTru (fCB (o__law_same 12) (fCons (fCB o_taken (fCons (fCB (o1 oListOf) (fCons (fV 2) fNil)) fNil)) (fCons (fCB o__law_taken (fCons (fV 2) fNil)) fNil)))))
  (fRet (fC (.bool false)))
  fNx)
  (fSeq (fAsgL 3 (fLst fNil))
  (fSeq (fAsg 4 (fC (.int 0)))
  (fSeq (fFor (fRgI oRg1 (fCons (fDraw 1 pl (fC (.int 21))) fNil)) (gN 5)
  (fSeq (fIf (fTst (fOp oEq (fOp oMod (fCB (o1 oInt) (fCons (fV 5) fNil)) (fC (.int 5))) (fC (.int 0))))
  (fDrop (fNext 1 pl))
  fNx)
  (fSeq (fAsg 4 (fOp oAdd (fOp oAdd (fV 4) (fC (.int 1))) (fDraw 1 pl (fPick 1 pl (fLst (fCons (fC (.int 1)) (fCons (fC (.int 4)) (fCons (fC (.int 12)) fNil))))))))
  (fApp 3 (fTup (fCons (fV 4) (fCons (fPick 1 pl (fLst (fCons (fC (.str "a")) (fCons (fC (.str "b")) (fCons (fC (.str "c")) fNil))))) fNil)))))))
  (fSeq (fFz 3 (fAsg 6 (fOp oAdd (fC (.int 1)) (fDraw 1 pl (fC (.int 12))))))
  (fSeq (fAsg 7 (fCB (o1 oListOf) (fCons (fV 3) fNil)))
  (fSeq (fIf (fNotT (fTru (fCB (o__law_same 12) (fCons (fLst (fCons (fCB o_works (fCons (fV 7) (fCons (fV 6) fNil))) (fCons (fCB o_done_twice (fCons (fV 7) (fCons (fV 6) fNil))) fNil))) (fCons (fLst (fCons (fCB o__law_works (fCons (fV 3) (fCons (fV 6) fNil))) (fCons (fCB o__law_again (fCons (fV 3) (fCons (fV 6) fNil))) fNil))) fNil)))))
  (fRet (fC (.bool false)))
  fNx)
  (fSeq (fIf (fOrT (fTst (fOp oNe (fOp (oIsN true) (fCB o__law_again (fCons (fV 3) (fCons (fV 6) fNil))) (fC .none)) (fCB o__law_spread (fCons (fV 3) (fCons (fV 6) fNil))))) (fTst (fOp oNe (fV 7) (fV 3))))
  (fRet (fC (.bool false)))
  fNx)
  (fSeq (fDrop (fNext 1 pl))
  (fSeq (fAsg 8 (fCP 1 pl o__law_gaps_drawn (fCons (fC (.int 4)) (fCons (fC (.int 9)) fNil))))
  (fSeq (fAsg 9 (fComp (fRgI oRg1 (fCons (fDraw 1 pl (fC (.int 6))) fNil)) (gN 5) fYes (fDraw 1 pl (fC (.int 9))) [5]))
  (fSeq (fAsg 10 (fDraw 1 pl (fC (.int 30))))
  (fSeq (fAsg 11 (fCB o__law_tries (fCons (fV 10) (fCons (fV 9) (fCons (fV 8) fNil)))))
  (fSeq (fIf (fTst (fOp (oIsN false) (fCB o__law_gap_of (fCons (fV 8) (fCons (fOp oIx (fV 11) (fUn oNeg (fC (.int 1)))) fNil))) (fC .none)))
  (fRet (fCB (o__law_same 12) (fCons (fLst (fCons (fCB o_tries (fCons (fV 10) (fCons (fV 9) (fCons (fV 8) fNil)))) (fCons (fCB o_tried (fCons (fV 10) (fCons (fV 9) (fCons (fV 8) fNil)))) fNil))) (fCons (fLst (fCons (fV 11) (fCons (fOp oIx (fV 11) (fUn oNeg (fC (.int 1)))) fNil))) fNil))))
  fNx)
  (fRet (fCB (o__law_same 12) (fCons (fLst (fCons (fCB o_tries (fCons (fV 10) (fCons (fV 9) (fCons (fV 8) fNil)))) (fCons (fCB o_tried (fCons (fV 10) (fCons (fV 9) (fCons (fV 8) fNil)))) fNil))) (fCons (fLst (fCons (fV 11) (fCons (fC .none) fNil))) fNil)))))))))))))))))))
theorem okS_i (k : Nat) (i : Int) : okS (k + 1) (.int i) := trivial
theorem okS_l {α : Type} (k : Nat) (f : α → D) (xs : List α) (hl : xs.length ≤ sizeLine) (h : ∀ x ∈ xs, okS k (f x)) : okS (k + 1) (.list (xs.map f)) := ⟨by rw [List.length_map]; exact hl, fun d hd => by
  obtain ⟨x, hx, rfl⟩ := List.mem_map.mp hd
  exact h x hx⟩
theorem okS_pr (k : Nat) (a b : D) (ha : okS k a) (hb : okS k b) : okS (k + 1) (.tuple [a, b]) := ⟨show 2 ≤ sizeLine by decide, fun d hd => by
  rcases List.mem_cons.mp hd with h | hd
  · rw [h]; exact ha
  · have h : d = b := by simpa using hd
    rw [h]; exact hb⟩
theorem okS_ls2 (k : Nat) (a b : D) (ha : okS k a) (hb : okS k b) : okS (k + 1) (.list [a, b]) := ⟨show 2 ≤ sizeLine by decide, fun d hd => by
  rcases List.mem_cons.mp hd with h | hd
  · rw [h]; exact ha
  · have h : d = b := by simpa using hd
    rw [h]; exact hb⟩
theorem lt_line {n : Nat} (h : n < 100000) : n < sizeLine := Nat.lt_trans h (by decide)
theorem le_line {n : Nat} (h : n < 100000) : n ≤ sizeLine := Nat.le_of_lt (lt_line h)
theorem lineZ {z : Int} (h : z < 100000) : z ≤ sizeLine := by
  have : (100000 : Nat) < sizeLine := by decide
  omega
theorem sp_law : ∀ pl sa, F_law pl (endsOf .fz fun d => d = .bool true) (startLaw ["script", "pool", "numbers", "copies", "time", "k", "keep", "handed", "gaps", "waits", "start", "due"] sa pl) := by
  intro pl sa
  unfold F_law
  try walk_at "l3"
  refine dr (by decide) (by decide) fun v v0 v1 => ⟨inR_small v0 (by omega), compD_rg 0 v (toD : Int → D) (fun i ys => ys.length = i) (lineZ (by omega)) (fun i ys h => Nat.le_of_eq h) (fun i ys hi hy hk nx hn => ?_) rfl fun ns hns => ?_⟩
  · try walk_at "l3"
    refine dr (by decide) (by decide) fun a a0 a1 => ⟨by simpa using hk, ?_⟩
    have := hn (ys ++ [a]) (by simp [hy])
    rw [List.map_append] at this
    exact this
  have hns : ns.length = (v - 0).toNat := hns
  have hnl : ns.length ≤ sizeLine := le_line (by omega)
  try walk_at "l3"
  refine ⟨ns, rfl, hnl, ns, rfl, hnl, _, rfl, okS_l _ _ _ (Nat.le_trans (topM_le _) hnl) (fun _ _ => trivial), ?_⟩
  try walk_at "l3"
  refine ⟨Nat.zero_le _, dr (by decide) (by decide) fun n n0 n1 => ⟨inR_small n0 (by omega), ?_⟩⟩
  have e5 : n = ((n.toNat : Nat) : Int) := by omega
  rw [e5]
  refine forD_n n.toNat (fun s : Cps × Int × Sl => [.raw (.ref sa), .raw (.ref pl), .dat (.list (ns.map toD)), .opl (s.1.map toD), .dat (.int s.2.1), s.2.2, .un, .un, .un, .un, .un, .un]) (fun i s => s.1.length = i) (fun i s hi hd nx hn => ?_) (fun s hd => ?_) ([], 0, .un) rfl
  · obtain ⟨cs, t, sk⟩ := s
    have hd : cs.length = i := hd
    try walk_at "l3"
    refine ⟨by decide, by decide, by decide, by decide, fun d hd1 => ?_⟩
    obtain ⟨l, rfl, l0, l1⟩ : ∃ l : Int, d = .int l ∧ 0 < l ∧ l < 100 := by
      simp at hd1
      rcases hd1 with rfl | rfl | rfl <;> exact ⟨_, rfl, by decide, by decide⟩
    try walk_at "l3"
    refine dr l0 (by omega) fun a a0 a1 => ⟨by decide, by decide, by decide, fun d2 hd2 => ?_⟩
    obtain ⟨c, rfl⟩ : ∃ c : Str, d2 = .str c := by
      simp at hd2
      rcases hd2 with rfl | rfl | rfl <;> exact ⟨_, rfl⟩
    refine ⟨by decide, lt_line (by omega), ?_⟩
    have := hn (cs ++ [(t + 1 + a, c)], t + 1 + a, .dat (.int (i : Nat))) (by simp [hd])
    rw [List.map_append] at this
    exact this
  · obtain ⟨cs, t, sk⟩ := s
    have hd : cs.length = n.toNat := hd
    try walk_at "l3"
    have hcl : cs.length ≤ sizeLine := le_line (by omega)
    refine dr (by decide) (by decide) fun kp k0 k1 => ?_
    refine ⟨cs, _, rfl, hcl, cs, _, rfl, hcl, by decide, cs, _, rfl, hcl, cs, _, rfl, hcl, by decide, _, rfl, okS_ls2 _ _ _ (okS_l _ _ _ (Nat.le_trans (worksM_len _ _) hcl) fun c _ => okS_pr _ _ _ trivial trivial) ?_, ?_⟩
    · cases twiceM (worksM (1 + kp) cs) with
      | none => exact trivial
      | some p => exact okS_pr _ _ _ trivial trivial
    try walk_at "l3"
    obtain ⟨has, _⟩ := again_spread (1 + kp) cs
    refine ⟨cs, _, rfl, hcl, cs, _, rfl, hcl, ?_⟩
    rw [← has]
    try walk_at "l3"
    rw [if_neg (fun z => z rfl), if_neg (fun z => z rfl)]
    refine ⟨4, 9, rfl, by decide, by decide, by decide, by decide, fun gs hgs => dr (by decide) (by decide) fun w w0 w1 => ⟨inR_small w0 (by omega), compD_rg 0 w (toD : Int → D) (fun i ys => ys.length = i) (lineZ (by omega)) (fun i ys h => Nat.le_of_eq h) (fun i ys hi hy hk nx hn => ?_) rfl fun ws hws => ?_⟩⟩
    · try walk_at "l3"
      refine dr (by decide) (by decide) fun a a0 a1 => ⟨by simpa using hk, ?_⟩
      have := hn (ys ++ [a]) (by simp [hy])
      rw [List.map_append] at this
      exact this
    have hws : ws.length = (w - 0).toNat := hws
    have hwl : ws.length < sizeLine := lt_line (by omega)
    refine dr (by decide) (by decide) fun s s0 s1 => ⟨s, ws, gs, rfl, hwl, ?_⟩
    try walk_at "l3"
    obtain ⟨l, hl⟩ := tries_ne s ws gs
    refine ⟨l, by rw [atI_end, hl], gs, l, rfl, ?_⟩
    try walk_at "l3"
    have htl : (triesM s ws gs).length ≤ sizeLine := by
      have h1 := upTo_len (p := upM gs) (allM s ws)
      rw [allM_len] at h1
      unfold triesM; omega
    have hok : okS 11 (.list ((triesM s ws gs).map toD)) := okS_l _ _ _ htl fun _ _ => trivial
    split
    · rename_i hu
      have ht : triedM s ws gs = some l := by
        unfold triedM; rw [hl]; exact if_pos hu
      refine ⟨s, ws, gs, rfl, hwl, s, ws, gs, rfl, hwl, by decide, l, by rw [atI_end, hl], by decide, ?_⟩
      rw [ht]
      exact ⟨_, rfl, okS_ls2 _ _ _ hok trivial, rfl⟩
    · rename_i hu
      have ht : triedM s ws gs = none := by
        unfold triedM; rw [hl]; exact if_neg hu
      refine ⟨s, ws, gs, rfl, hwl, s, ws, gs, rfl, hwl, by decide, by decide, ?_⟩
      rw [ht]
      exact ⟨_, rfl, okS_ls2 _ _ _ hok trivial, rfl⟩

theorem ok_law {fa : Addr} {fd : FuncData} (F : Fun K "law" "law" s_law fa fd) (ok__law_pool : Ok P w K mg base 3 "_law_pool" ["script"] (spPool K)) (ok__law_draw : Ok P w K mg base 3 "_law_draw" ["pool", "limit"] (spDraw K)) (ok__law_next : Ok P w K mg base 3 "_law_next" ["pool"] (spNext K)) (ok__law_pick : Ok P w K mg base 4 "_law_pick" ["pool", "options"] (spPick K)) (ok_taken : Ok P w K mg base 1 "taken" ["numbers"] (spM .nw o_taken)) (ok_works : Ok P w K mg base 1 "works" ["copies", "keep"] (spM .nw o_works)) (ok_done_twice : Ok P w K mg base 2 "done_twice" ["copies", "keep"] (spM .fz o_done_twice)) (ok_tries : Ok P w K mg base 3 "tries" ["start", "waits", "gaps"] (spM .nw o_tries)) (ok_tried : Ok P w K mg base 4 "tried" ["start", "waits", "gaps"] (spM .fz o_tried)) (ok__law_same : Ok P w K mg base 13 "_law_same" ["answer", "due"] (spM .fz (o__law_same 12))) (ok__law_gaps_drawn : Ok P w K mg base 4 "_law_gaps_drawn" ["pool", "many", "most"] (spP K .nw o__law_gaps_drawn)) (ok__law_gap_of : Ok P w K mg base 1 "_law_gap_of" ["gaps", "time"] (spM .fz o__law_gap_of)) (ok__law_taken : Ok P w K mg base 1 "_law_taken" ["numbers"] (spM .nw o__law_taken)) (ok__law_works : Ok P w K mg base 1 "_law_works" ["copies", "keep"] (spM .nw o__law_works)) (ok__law_again : Ok P w K mg base 2 "_law_again" ["copies", "keep"] (spM .fz o__law_again)) (ok__law_spread : Ok P w K mg base 1 "_law_spread" ["copies", "keep"] (spM .fz o__law_spread)) (ok__law_tries : Ok P w K mg base 2 "_law_tries" ["start", "waits", "gaps"] (spM .nw o__law_tries)) (z_int : mg "int" = none) (z_list : mg "list" = none) (z_range : mg "range" = none) : FnOk P w K mg base CX0 14 fa fd ["script"] (spLaw K) :=
  okLaw F sc_law (by decide) rfl (fun f cdv A outer s H E hr => law_first ok__law_pool sc_law.nd (hr.mono (by decide)))
  (fun pl sa ns f cdv A outer s H E hr => have hu := hr.units
  (dss_cons (ssetC 2 sc_law.nd (blkOk_by (own := [("k", 5)]) (by kernel_rfl)) (by decide) (di_range1 z_range rfl (da_consS (draw 1 ok__law_draw (hr.mono (by decide)) de_int) da_nil)) (fun _ _ _ _ _ => (tgt 5 sc_law.nd)) (fun _ _ _ _ _ => dts_nil) (fun _ _ _ _ _ => (draw 1 ok__law_draw (hr.mono (by decide)) de_int)) (sw_true rfl rfl rfl (by decide +kernel)))
  (dss_cons (ds_if (dt_not (dt_tru (call ok__law_same (hr.mono (by decide)) (da_cons (DE.fz (call ok_taken (hr.mono (by decide)) (da_cons (DE.fz (de_callTy cr_list z_list rfl (by decide +kernel) (da_consS (v 2) da_nil))) da_nil))) (da_cons (DE.fz (call ok__law_taken (hr.mono (by decide)) (da_cons (v 2) da_nil))) da_nil)))))
  (dss_one (ds_ret de_bl))
  dss_nil)
  (dss_cons (ssetL 3 sc_law.nd (de_lst da_nil))
  (dss_cons (sset 4 sc_law.nd de_int)
  (dss_cons (sfor (di_range1 z_range rfl (da_consS (draw 1 ok__law_draw (hr.mono (by decide)) de_int) da_nil)) (tgt 5 sc_law.nd)
  (dss_cons (ds_if (dt_cmp (opd_eq hu) (de_op opd_mod (de_callTy cr_int z_int rfl (by decide +kernel) (da_consS (v 5) da_nil)) de_int) de_int (nomark _))
  (dss_one (ds_expr (next 1 ok__law_next (hr.mono (by decide)))))
  dss_nil)
  (dss_cons (sset 4 sc_law.nd (de_op opd_add (de_op opd_add (v 4) de_int) (draw 1 ok__law_draw (hr.mono (by decide)) (pick 1 ok__law_pick (hr.mono (by decide)) (de_lst (da_cons de_int (da_cons de_int (da_cons de_int da_nil))))))))
  (dss_one (sapp 3 (de_tup (da_cons (v 4) (da_cons (pick 1 ok__law_pick (hr.mono (by decide)) (de_lst (da_cons de_str (da_cons de_str (da_cons de_str da_nil))))) da_nil))))))))
  (dss_cons (ds_frz 3 (sset 6 sc_law.nd (de_op opd_add de_int (draw 1 ok__law_draw (hr.mono (by decide)) de_int))))
  (dss_cons (sset 7 sc_law.nd (DE.fz (de_callTy cr_list z_list rfl (by decide +kernel) (da_consS (v 3) da_nil))))
  (dss_cons (ds_if (dt_not (dt_tru (call ok__law_same (hr.mono (by decide)) (da_cons (DE.fz (de_lst (da_cons (DE.fz (call ok_works (hr.mono (by decide)) (da_cons (v 7) (da_cons (v 6) da_nil)))) (da_cons (call ok_done_twice (hr.mono (by decide)) (da_cons (v 7) (da_cons (v 6) da_nil))) da_nil)))) (da_cons (DE.fz (de_lst (da_cons (DE.fz (call ok__law_works (hr.mono (by decide)) (da_cons (v 3) (da_cons (v 6) da_nil)))) (da_cons (call ok__law_again (hr.mono (by decide)) (da_cons (v 3) (da_cons (v 6) da_nil))) da_nil)))) da_nil)))))
  (dss_one (ds_ret de_bl))
  dss_nil)
  (dss_cons (ds_if (DW.t (dw_or (dt_cmp (opd_ne hu) (de_cmp opd_isNot (call ok__law_again (hr.mono (by decide)) (da_cons (v 3) (da_cons (v 6) da_nil))) de_non (nomark _)) (call ok__law_spread (hr.mono (by decide)) (da_cons (v 3) (da_cons (v 6) da_nil))) (nomark _)) (dw_or1 (dt_cmp (opd_ne hu) (v 7) (v 3) (nomark _)))))
  (dss_one (ds_ret de_bl))
  dss_nil)
  (dss_cons (ds_expr (next 1 ok__law_next (hr.mono (by decide))))
  (dss_cons (sset 8 sc_law.nd (DE.fz (callP 1 ok__law_gaps_drawn (hr.mono (by decide)) (da_cons de_int (da_cons de_int da_nil)))))
  (dss_cons (ssetC 9 sc_law.nd (blkOk_by (own := [("k", 5)]) (by kernel_rfl)) (by decide) (di_range1 z_range rfl (da_consS (draw 1 ok__law_draw (hr.mono (by decide)) de_int) da_nil)) (fun _ _ _ _ _ => (tgt 5 sc_law.nd)) (fun _ _ _ _ _ => dts_nil) (fun _ _ _ _ _ => (draw 1 ok__law_draw (hr.mono (by decide)) de_int)) (sw_true rfl rfl rfl (by decide +kernel)))
  (dss_cons (sset 10 sc_law.nd (draw 1 ok__law_draw (hr.mono (by decide)) de_int))
  (dss_cons (sset 11 sc_law.nd (DE.fz (call ok__law_tries (hr.mono (by decide)) (da_cons (v 10) (da_cons (v 9) (da_cons (v 8) da_nil))))))
  (dss_cons (ds_if (dt_cmp opd_is (call ok__law_gap_of (hr.mono (by decide)) (da_cons (v 8) (da_cons (de_ix (ixd hu) (v 11) (de_un und_neg de_int) (fun _ _ => rfl)) da_nil))) de_non (nomark _))
  (dss_one (ds_ret (call ok__law_same (hr.mono (by decide)) (da_cons (DE.fz (de_lst (da_cons (DE.fz (call ok_tries (hr.mono (by decide)) (da_cons (v 10) (da_cons (v 9) (da_cons (v 8) da_nil))))) (da_cons (call ok_tried (hr.mono (by decide)) (da_cons (v 10) (da_cons (v 9) (da_cons (v 8) da_nil)))) da_nil)))) (da_cons (DE.fz (de_lst (da_cons (v 11) (da_cons (de_ix (ixd hu) (v 11) (de_un und_neg de_int) (fun _ _ => rfl)) da_nil)))) da_nil)))))
  dss_nil)
  (dss_one (ds_ret (call ok__law_same (hr.mono (by decide)) (da_cons (DE.fz (de_lst (da_cons (DE.fz (call ok_tries (hr.mono (by decide)) (da_cons (v 10) (da_cons (v 9) (da_cons (v 8) da_nil))))) (da_cons (call ok_tried (hr.mono (by decide)) (da_cons (v 10) (da_cons (v 9) (da_cons (v 8) da_nil)))) da_nil)))) (da_cons (DE.fz (de_lst (da_cons (v 11) (da_cons de_non da_nil)))) da_nil))))))))))))))))))))) sp_law
end
/-! ### what the top has written; the law's own head -/
theorem all_mk {l : PySem.W.OpenLaw} {w : World} {K : PySem.W.Frag} {h : Heap} {mg : Str → Option Value} {fa : Addr} (X : K.In h) (G : h.Ns mainGlobals mg) (hfa : mg "law" = some (.ref fa))
    {f0 : Addr} {od0 an0 : Option Addr} {sl0 : Array (Option Value)} {oc0 kV0 dc0 pm0 cd0 ct0 : Value}
    (a0 : PySem.W.nsIn K mainGlobals "gap_at" = some (some (.ref f0))) (l0 : K.lookup f0 = some ⟨oc0, od0, .func (PySem.W.fnOf "gap_at" "gap_at" (defArgs s_gap_at) (defBody s_gap_at) (defScope s_gap_at) .none kV0 dc0 pm0 an0 cd0 ct0), sl0⟩) (c0 : PySem.W.codeIn K cd0 "gap_at" = true) (k0 : PySem.W.keepIn K (.ref f0) = true)
    {f1 : Addr} {od1 an1 : Option Addr} {sl1 : Array (Option Value)} {oc1 kV1 dc1 pm1 cd1 ct1 : Value}
    (a1 : PySem.W.nsIn K mainGlobals "is_up" = some (some (.ref f1))) (l1 : K.lookup f1 = some ⟨oc1, od1, .func (PySem.W.fnOf "is_up" "is_up" (defArgs s_is_up) (defBody s_is_up) (defScope s_is_up) .none kV1 dc1 pm1 an1 cd1 ct1), sl1⟩) (c1 : PySem.W.codeIn K cd1 "is_up" = true) (k1 : PySem.W.keepIn K (.ref f1) = true)
    {f2 : Addr} {od2 an2 : Option Addr} {sl2 : Array (Option Value)} {oc2 kV2 dc2 pm2 cd2 ct2 : Value}
    (a2 : PySem.W.nsIn K mainGlobals "taken" = some (some (.ref f2))) (l2 : K.lookup f2 = some ⟨oc2, od2, .func (PySem.W.fnOf "taken" "taken" (defArgs s_taken) (defBody s_taken) (defScope s_taken) .none kV2 dc2 pm2 an2 cd2 ct2), sl2⟩) (c2 : PySem.W.codeIn K cd2 "taken" = true) (k2 : PySem.W.keepIn K (.ref f2) = true)
    {f3 : Addr} {od3 an3 : Option Addr} {sl3 : Array (Option Value)} {oc3 kV3 dc3 pm3 cd3 ct3 : Value}
    (a3 : PySem.W.nsIn K mainGlobals "works" = some (some (.ref f3))) (l3 : K.lookup f3 = some ⟨oc3, od3, .func (PySem.W.fnOf "works" "works" (defArgs s_works) (defBody s_works) (defScope s_works) .none kV3 dc3 pm3 an3 cd3 ct3), sl3⟩) (c3 : PySem.W.codeIn K cd3 "works" = true) (k3 : PySem.W.keepIn K (.ref f3) = true)
    {f4 : Addr} {od4 an4 : Option Addr} {sl4 : Array (Option Value)} {oc4 kV4 dc4 pm4 cd4 ct4 : Value}
    (a4 : PySem.W.nsIn K mainGlobals "done_twice" = some (some (.ref f4))) (l4 : K.lookup f4 = some ⟨oc4, od4, .func (PySem.W.fnOf "done_twice" "done_twice" (defArgs s_done_twice) (defBody s_done_twice) (defScope s_done_twice) .none kV4 dc4 pm4 an4 cd4 ct4), sl4⟩) (c4 : PySem.W.codeIn K cd4 "done_twice" = true) (k4 : PySem.W.keepIn K (.ref f4) = true)
    {f5 : Addr} {od5 an5 : Option Addr} {sl5 : Array (Option Value)} {oc5 kV5 dc5 pm5 cd5 ct5 : Value}
    (a5 : PySem.W.nsIn K mainGlobals "all_tries" = some (some (.ref f5))) (l5 : K.lookup f5 = some ⟨oc5, od5, .func (PySem.W.fnOf "all_tries" "all_tries" (defArgs s_all_tries) (defBody s_all_tries) (defScope s_all_tries) .none kV5 dc5 pm5 an5 cd5 ct5), sl5⟩) (c5 : PySem.W.codeIn K cd5 "all_tries" = true) (k5 : PySem.W.keepIn K (.ref f5) = true)
    {f6 : Addr} {od6 an6 : Option Addr} {sl6 : Array (Option Value)} {oc6 kV6 dc6 pm6 cd6 ct6 : Value}
    (a6 : PySem.W.nsIn K mainGlobals "tries" = some (some (.ref f6))) (l6 : K.lookup f6 = some ⟨oc6, od6, .func (PySem.W.fnOf "tries" "tries" (defArgs s_tries) (defBody s_tries) (defScope s_tries) .none kV6 dc6 pm6 an6 cd6 ct6), sl6⟩) (c6 : PySem.W.codeIn K cd6 "tries" = true) (k6 : PySem.W.keepIn K (.ref f6) = true)
    {f7 : Addr} {od7 an7 : Option Addr} {sl7 : Array (Option Value)} {oc7 kV7 dc7 pm7 cd7 ct7 : Value}
    (a7 : PySem.W.nsIn K mainGlobals "tried" = some (some (.ref f7))) (l7 : K.lookup f7 = some ⟨oc7, od7, .func (PySem.W.fnOf "tried" "tried" (defArgs s_tried) (defBody s_tried) (defScope s_tried) .none kV7 dc7 pm7 an7 cd7 ct7), sl7⟩) (c7 : PySem.W.codeIn K cd7 "tried" = true) (k7 : PySem.W.keepIn K (.ref f7) = true)
    {f8 : Addr} {od8 an8 : Option Addr} {sl8 : Array (Option Value)} {oc8 kV8 dc8 pm8 cd8 ct8 : Value}
    (a8 : PySem.W.nsIn K mainGlobals "_law_mixed" = some (some (.ref f8))) (l8 : K.lookup f8 = some ⟨oc8, od8, .func (PySem.W.fnOf "_law_mixed" "_law_mixed" (defArgs s__law_mixed) (defBody s__law_mixed) (defScope s__law_mixed) .none kV8 dc8 pm8 an8 cd8 ct8), sl8⟩) (c8 : PySem.W.codeIn K cd8 "_law_mixed" = true) (k8 : PySem.W.keepIn K (.ref f8) = true)
    {f9 : Addr} {od9 an9 : Option Addr} {sl9 : Array (Option Value)} {oc9 kV9 dc9 pm9 cd9 ct9 : Value}
    (a9 : PySem.W.nsIn K mainGlobals "_law_rest" = some (some (.ref f9))) (l9 : K.lookup f9 = some ⟨oc9, od9, .func (PySem.W.fnOf "_law_rest" "_law_rest" (defArgs s__law_rest) (defBody s__law_rest) (defScope s__law_rest) .none kV9 dc9 pm9 an9 cd9 ct9), sl9⟩) (c9 : PySem.W.codeIn K cd9 "_law_rest" = true) (k9 : PySem.W.keepIn K (.ref f9) = true)
    {f10 : Addr} {od10 an10 : Option Addr} {sl10 : Array (Option Value)} {oc10 kV10 dc10 pm10 cd10 ct10 : Value}
    (a10 : PySem.W.nsIn K mainGlobals "_law_pool" = some (some (.ref f10))) (l10 : K.lookup f10 = some ⟨oc10, od10, .func (PySem.W.fnOf "_law_pool" "_law_pool" (defArgs s__law_pool) (defBody s__law_pool) (defScope s__law_pool) .none kV10 dc10 pm10 an10 cd10 ct10), sl10⟩) (c10 : PySem.W.codeIn K cd10 "_law_pool" = true) (k10 : PySem.W.keepIn K (.ref f10) = true)
    {f11 : Addr} {od11 an11 : Option Addr} {sl11 : Array (Option Value)} {oc11 kV11 dc11 pm11 cd11 ct11 : Value}
    (a11 : PySem.W.nsIn K mainGlobals "_law_next" = some (some (.ref f11))) (l11 : K.lookup f11 = some ⟨oc11, od11, .func (PySem.W.fnOf "_law_next" "_law_next" (defArgs s__law_next) (defBody s__law_next) (defScope s__law_next) .none kV11 dc11 pm11 an11 cd11 ct11), sl11⟩) (c11 : PySem.W.codeIn K cd11 "_law_next" = true) (k11 : PySem.W.keepIn K (.ref f11) = true)
    {f12 : Addr} {od12 an12 : Option Addr} {sl12 : Array (Option Value)} {oc12 kV12 dc12 pm12 cd12 ct12 : Value}
    (a12 : PySem.W.nsIn K mainGlobals "_law_draw" = some (some (.ref f12))) (l12 : K.lookup f12 = some ⟨oc12, od12, .func (PySem.W.fnOf "_law_draw" "_law_draw" (defArgs s__law_draw) (defBody s__law_draw) (defScope s__law_draw) .none kV12 dc12 pm12 an12 cd12 ct12), sl12⟩) (c12 : PySem.W.codeIn K cd12 "_law_draw" = true) (k12 : PySem.W.keepIn K (.ref f12) = true)
    {f13 : Addr} {od13 an13 : Option Addr} {sl13 : Array (Option Value)} {oc13 kV13 dc13 pm13 cd13 ct13 : Value}
    (a13 : PySem.W.nsIn K mainGlobals "_law_pick" = some (some (.ref f13))) (l13 : K.lookup f13 = some ⟨oc13, od13, .func (PySem.W.fnOf "_law_pick" "_law_pick" (defArgs s__law_pick) (defBody s__law_pick) (defScope s__law_pick) .none kV13 dc13 pm13 an13 cd13 ct13), sl13⟩) (c13 : PySem.W.codeIn K cd13 "_law_pick" = true) (k13 : PySem.W.keepIn K (.ref f13) = true)
    {f14 : Addr} {od14 an14 : Option Addr} {sl14 : Array (Option Value)} {oc14 kV14 dc14 pm14 cd14 ct14 : Value}
    (a14 : PySem.W.nsIn K mainGlobals "_law_same" = some (some (.ref f14))) (l14 : K.lookup f14 = some ⟨oc14, od14, .func (PySem.W.fnOf "_law_same" "_law_same" (defArgs s__law_same) (defBody s__law_same) (defScope s__law_same) .none kV14 dc14 pm14 an14 cd14 ct14), sl14⟩) (c14 : PySem.W.codeIn K cd14 "_law_same" = true) (k14 : PySem.W.keepIn K (.ref f14) = true)
    {f15 : Addr} {od15 an15 : Option Addr} {sl15 : Array (Option Value)} {oc15 kV15 dc15 pm15 cd15 ct15 : Value}
    (a15 : PySem.W.nsIn K mainGlobals "_law_gaps_drawn" = some (some (.ref f15))) (l15 : K.lookup f15 = some ⟨oc15, od15, .func (PySem.W.fnOf "_law_gaps_drawn" "_law_gaps_drawn" (defArgs s__law_gaps_drawn) (defBody s__law_gaps_drawn) (defScope s__law_gaps_drawn) .none kV15 dc15 pm15 an15 cd15 ct15), sl15⟩) (c15 : PySem.W.codeIn K cd15 "_law_gaps_drawn" = true) (k15 : PySem.W.keepIn K (.ref f15) = true)
    {f16 : Addr} {od16 an16 : Option Addr} {sl16 : Array (Option Value)} {oc16 kV16 dc16 pm16 cd16 ct16 : Value}
    (a16 : PySem.W.nsIn K mainGlobals "_law_gap_of" = some (some (.ref f16))) (l16 : K.lookup f16 = some ⟨oc16, od16, .func (PySem.W.fnOf "_law_gap_of" "_law_gap_of" (defArgs s__law_gap_of) (defBody s__law_gap_of) (defScope s__law_gap_of) .none kV16 dc16 pm16 an16 cd16 ct16), sl16⟩) (c16 : PySem.W.codeIn K cd16 "_law_gap_of" = true) (k16 : PySem.W.keepIn K (.ref f16) = true)
    {f17 : Addr} {od17 an17 : Option Addr} {sl17 : Array (Option Value)} {oc17 kV17 dc17 pm17 cd17 ct17 : Value}
    (a17 : PySem.W.nsIn K mainGlobals "_law_taken" = some (some (.ref f17))) (l17 : K.lookup f17 = some ⟨oc17, od17, .func (PySem.W.fnOf "_law_taken" "_law_taken" (defArgs s__law_taken) (defBody s__law_taken) (defScope s__law_taken) .none kV17 dc17 pm17 an17 cd17 ct17), sl17⟩) (c17 : PySem.W.codeIn K cd17 "_law_taken" = true) (k17 : PySem.W.keepIn K (.ref f17) = true)
    {f18 : Addr} {od18 an18 : Option Addr} {sl18 : Array (Option Value)} {oc18 kV18 dc18 pm18 cd18 ct18 : Value}
    (a18 : PySem.W.nsIn K mainGlobals "_law_works" = some (some (.ref f18))) (l18 : K.lookup f18 = some ⟨oc18, od18, .func (PySem.W.fnOf "_law_works" "_law_works" (defArgs s__law_works) (defBody s__law_works) (defScope s__law_works) .none kV18 dc18 pm18 an18 cd18 ct18), sl18⟩) (c18 : PySem.W.codeIn K cd18 "_law_works" = true) (k18 : PySem.W.keepIn K (.ref f18) = true)
    {f19 : Addr} {od19 an19 : Option Addr} {sl19 : Array (Option Value)} {oc19 kV19 dc19 pm19 cd19 ct19 : Value}
    (a19 : PySem.W.nsIn K mainGlobals "_law_again" = some (some (.ref f19))) (l19 : K.lookup f19 = some ⟨oc19, od19, .func (PySem.W.fnOf "_law_again" "_law_again" (defArgs s__law_again) (defBody s__law_again) (defScope s__law_again) .none kV19 dc19 pm19 an19 cd19 ct19), sl19⟩) (c19 : PySem.W.codeIn K cd19 "_law_again" = true) (k19 : PySem.W.keepIn K (.ref f19) = true)
    {f20 : Addr} {od20 an20 : Option Addr} {sl20 : Array (Option Value)} {oc20 kV20 dc20 pm20 cd20 ct20 : Value}
    (a20 : PySem.W.nsIn K mainGlobals "_law_spread" = some (some (.ref f20))) (l20 : K.lookup f20 = some ⟨oc20, od20, .func (PySem.W.fnOf "_law_spread" "_law_spread" (defArgs s__law_spread) (defBody s__law_spread) (defScope s__law_spread) .none kV20 dc20 pm20 an20 cd20 ct20), sl20⟩) (c20 : PySem.W.codeIn K cd20 "_law_spread" = true) (k20 : PySem.W.keepIn K (.ref f20) = true)
    {f21 : Addr} {od21 an21 : Option Addr} {sl21 : Array (Option Value)} {oc21 kV21 dc21 pm21 cd21 ct21 : Value}
    (a21 : PySem.W.nsIn K mainGlobals "_law_tries" = some (some (.ref f21))) (l21 : K.lookup f21 = some ⟨oc21, od21, .func (PySem.W.fnOf "_law_tries" "_law_tries" (defArgs s__law_tries) (defBody s__law_tries) (defScope s__law_tries) .none kV21 dc21 pm21 an21 cd21 ct21), sl21⟩) (c21 : PySem.W.codeIn K cd21 "_law_tries" = true) (k21 : PySem.W.keepIn K (.ref f21) = true)
    {f22 : Addr} {od22 an22 : Option Addr} {sl22 : Array (Option Value)} {oc22 kV22 dc22 pm22 cd22 ct22 : Value}
    (a22 : PySem.W.nsIn K mainGlobals "law" = some (some (.ref f22))) (l22 : K.lookup f22 = some ⟨oc22, od22, .func (PySem.W.fnOf "law" "law" (defArgs s_law) (defBody s_law) (defScope s_law) .none kV22 dc22 pm22 an22 cd22 ct22), sl22⟩) (c22 : PySem.W.codeIn K cd22 "law" = true) (k22 : PySem.W.keepIn K (.ref f22) = true)
    (z_all : PySem.W.nsIn K mainGlobals "all" = some none) (z_bool : PySem.W.nsIn K mainGlobals "bool" = some none) (z_dict : PySem.W.nsIn K mainGlobals "dict" = some none) (z_enumerate : PySem.W.nsIn K mainGlobals "enumerate" = some none) (z_int : PySem.W.nsIn K mainGlobals "int" = some none) (z_isinstance : PySem.W.nsIn K mainGlobals "isinstance" = some none) (z_len : PySem.W.nsIn K mainGlobals "len" = some none) (z_list : PySem.W.nsIn K mainGlobals "list" = some none) (z_range : PySem.W.nsIn K mainGlobals "range" = some none) (z_str : PySem.W.nsIn K mainGlobals "str" = some none) (z_tuple : PySem.W.nsIn K mainGlobals "tuple" = some none) :
    ∃ fd : FuncData, (∀ (s : Shared) (v : Value), BindsTo s fd ⟨[v], []⟩ [("script", v)]) ∧ ∀ base : Heap, K.In base → base.Ns mainGlobals mg → FnOk l.prog w K mg base CX0 14 fa fd ["script"] (spLaw K) := by
  have e := hfa.symm.trans (PySem.W.mg_of X G a22)
  cases e
  have y_all := PySem.W.mg_none_of X G z_all
  have y_bool := PySem.W.mg_none_of X G z_bool
  have y_dict := PySem.W.mg_none_of X G z_dict
  have y_enumerate := PySem.W.mg_none_of X G z_enumerate
  have y_int := PySem.W.mg_none_of X G z_int
  have y_isinstance := PySem.W.mg_none_of X G z_isinstance
  have y_len := PySem.W.mg_none_of X G z_len
  have y_list := PySem.W.mg_none_of X G z_list
  have y_range := PySem.W.mg_none_of X G z_range
  have y_str := PySem.W.mg_none_of X G z_str
  have y_tuple := PySem.W.mg_none_of X G z_tuple
  have D_gap_at := def_at (st := s_gap_at) (ps := ["gaps", "time"]) X G a0 l0 c0 k0 fun _ _ _ _ _ _ us hl => match us, hl with | [_, _], _ => rfl
  have D_is_up := def_at (st := s_is_up) (ps := ["gaps", "time"]) X G a1 l1 c1 k1 fun _ _ _ _ _ _ us hl => match us, hl with | [_, _], _ => rfl
  have D_taken := def_at (st := s_taken) (ps := ["numbers"]) X G a2 l2 c2 k2 fun _ _ _ _ _ _ us hl => match us, hl with | [_], _ => rfl
  have D_works := def_at (st := s_works) (ps := ["copies", "keep"]) X G a3 l3 c3 k3 fun _ _ _ _ _ _ us hl => match us, hl with | [_, _], _ => rfl
  have D_done_twice := def_at (st := s_done_twice) (ps := ["copies", "keep"]) X G a4 l4 c4 k4 fun _ _ _ _ _ _ us hl => match us, hl with | [_, _], _ => rfl
  have D_all_tries := def_at (st := s_all_tries) (ps := ["start", "waits"]) X G a5 l5 c5 k5 fun _ _ _ _ _ _ us hl => match us, hl with | [_, _], _ => rfl
  have D_tries := def_at (st := s_tries) (ps := ["start", "waits", "gaps"]) X G a6 l6 c6 k6 fun _ _ _ _ _ _ us hl => match us, hl with | [_, _, _], _ => rfl
  have D_tried := def_at (st := s_tried) (ps := ["start", "waits", "gaps"]) X G a7 l7 c7 k7 fun _ _ _ _ _ _ us hl => match us, hl with | [_, _, _], _ => rfl
  have D__law_mixed := def_at (st := s__law_mixed) (ps := ["number", "place"]) X G a8 l8 c8 k8 fun _ _ _ _ _ _ us hl => match us, hl with | [_, _], _ => rfl
  have D__law_rest := def_at (st := s__law_rest) (ps := ["script", "place", "fills"]) X G a9 l9 c9 k9 fun _ _ _ _ _ _ us hl => match us, hl with | [_, _, _], _ => rfl
  have D__law_pool := def_at (st := s__law_pool) (ps := ["script"]) X G a10 l10 c10 k10 fun _ _ _ _ _ _ us hl => match us, hl with | [_], _ => rfl
  have D__law_next := def_at (st := s__law_next) (ps := ["pool"]) X G a11 l11 c11 k11 fun _ _ _ _ _ _ us hl => match us, hl with | [_], _ => rfl
  have D__law_draw := def_at (st := s__law_draw) (ps := ["pool", "limit"]) X G a12 l12 c12 k12 fun _ _ _ _ _ _ us hl => match us, hl with | [_, _], _ => rfl
  have D__law_pick := def_at (st := s__law_pick) (ps := ["pool", "options"]) X G a13 l13 c13 k13 fun _ _ _ _ _ _ us hl => match us, hl with | [_, _], _ => rfl
  have D__law_same := def_at (st := s__law_same) (ps := ["answer", "due"]) X G a14 l14 c14 k14 fun _ _ _ _ _ _ us hl => match us, hl with | [_, _], _ => rfl
  have D__law_gaps_drawn := def_at (st := s__law_gaps_drawn) (ps := ["pool", "many", "most"]) X G a15 l15 c15 k15 fun _ _ _ _ _ _ us hl => match us, hl with | [_, _, _], _ => rfl
  have D__law_gap_of := def_at (st := s__law_gap_of) (ps := ["gaps", "time"]) X G a16 l16 c16 k16 fun _ _ _ _ _ _ us hl => match us, hl with | [_, _], _ => rfl
  have D__law_taken := def_at (st := s__law_taken) (ps := ["numbers"]) X G a17 l17 c17 k17 fun _ _ _ _ _ _ us hl => match us, hl with | [_], _ => rfl
  have D__law_works := def_at (st := s__law_works) (ps := ["copies", "keep"]) X G a18 l18 c18 k18 fun _ _ _ _ _ _ us hl => match us, hl with | [_, _], _ => rfl
  have D__law_again := def_at (st := s__law_again) (ps := ["copies", "keep"]) X G a19 l19 c19 k19 fun _ _ _ _ _ _ us hl => match us, hl with | [_, _], _ => rfl
  have D__law_spread := def_at (st := s__law_spread) (ps := ["copies", "keep"]) X G a20 l20 c20 k20 fun _ _ _ _ _ _ us hl => match us, hl with | [_, _], _ => rfl
  have D__law_tries := def_at (st := s__law_tries) (ps := ["start", "waits", "gaps"]) X G a21 l21 c21 k21 fun _ _ _ _ _ _ us hl => match us, hl with | [_, _, _], _ => rfl
  have F_law := fun_mk (st := s_law) l22 c22 k22
  refine ⟨PySem.W.fnOf "law" "law" (defArgs s_law) (defBody s_law) (defScope s_law) .none kV22 dc22 pm22 an22 cd22 ct22, fun s v => .of_eq rfl, fun base _ _ => ?_⟩
  have h_gap_at := ok_gap_at (P := l.prog) (w := w) (base := base) D_gap_at
  have h_is_up := ok_is_up (P := l.prog) (w := w) (base := base) D_is_up h_gap_at
  have h_taken := ok_taken (P := l.prog) (w := w) (base := base) D_taken y_enumerate
  have h_works := ok_works (P := l.prog) (w := w) (base := base) D_works
  have h_done_twice := ok_done_twice (P := l.prog) (w := w) (base := base) D_done_twice h_works
  have h_all_tries := ok_all_tries (P := l.prog) (w := w) (base := base) D_all_tries
  have h_tries := ok_tries (P := l.prog) (w := w) (base := base) D_tries h_is_up h_all_tries
  have h_tried := ok_tried (P := l.prog) (w := w) (base := base) D_tried h_is_up h_tries
  have h__law_mixed := ok__law_mixed (P := l.prog) (w := w) (base := base) D__law_mixed y_int
  have h__law_rest := ok__law_rest (P := l.prog) (w := w) (base := base) D__law_rest h__law_mixed y_int y_len
  have h__law_pool := ok__law_pool (P := l.prog) (w := w) (base := base) D__law_pool h__law_rest
  have h__law_next := (ok__law_next (P := l.prog) (w := w) (base := base) D__law_next h__law_rest).next
  have h__law_draw := (ok__law_draw (P := l.prog) (w := w) (base := base) D__law_draw h__law_rest y_int).draw
  have h__law_pick := ok__law_pick (P := l.prog) (w := w) (base := base) D__law_pick h__law_draw y_len
  have h__law_same := ok__law_same (P := l.prog) (w := w) (base := base) D__law_same y_all y_bool y_dict y_int y_isinstance y_len y_list y_range y_str y_tuple
  have h__law_gaps_drawn := ok__law_gaps_drawn (P := l.prog) (w := w) (base := base) D__law_gaps_drawn h__law_draw y_range
  have h__law_gap_of := ok__law_gap_of (P := l.prog) (w := w) (base := base) D__law_gap_of
  have h__law_taken := ok__law_taken (P := l.prog) (w := w) (base := base) D__law_taken y_all y_len y_range
  have h__law_works := ok__law_works (P := l.prog) (w := w) (base := base) D__law_works y_len y_range
  have h__law_again := ok__law_again (P := l.prog) (w := w) (base := base) D__law_again h__law_works
  have h__law_spread := ok__law_spread (P := l.prog) (w := w) (base := base) D__law_spread y_len y_range
  have h__law_tries := ok__law_tries (P := l.prog) (w := w) (base := base) D__law_tries h__law_gap_of
  exact ok_law F_law h__law_pool h__law_draw h__law_next h__law_pick h_taken h_works h_done_twice h_tries h_tried h__law_same h__law_gaps_drawn h__law_gap_of h__law_taken h__law_works h__law_again h__law_spread h__law_tries y_int y_list y_range
end Evb
open PySem PySem.W PyProof.Rows
set_option maxHeartbeats 0 in
theorem PySem.Challenge.cw_everbeat_k69_whole_fences_copies_and_tri_holds : PySem.Challenge.rw_everbeat_k69_whole_fences_copies_and_tri.Holds := by
  w_on; o_law; k_head; (case hw => w_witness2)
  k_fill
  refine L2.walk_of (l := PySem.Challenge.rw_everbeat_k69_whole_fences_copies_and_tri) (n := 63) (k := 14) (x := "script") (CX := fun _ => L2.CX0) (sp := fun w => L3.spLaw _) rfl (by decide) rfl ⟨rfl, by decide, by decide⟩ (fun w h Y => PySem.W.kIn_of Y) ?F (fun _ _ a ns hl _ hS => ⟨a, ns, rfl, hS, hl, fun _ => rfl⟩) (fun _ _ _ _ _ h => h)
  case F =>
    intro w mg fa h KX G hmg
    refine' Evb.all_mk KX G hmg ?a0 ?l0 ?c0 ?k0 ?a1 ?l1 ?c1 ?k1 ?a2 ?l2 ?c2 ?k2 ?a3 ?l3 ?c3 ?k3 ?a4 ?l4 ?c4 ?k4 ?a5 ?l5 ?c5 ?k5 ?a6 ?l6 ?c6 ?k6 ?a7 ?l7 ?c7 ?k7 ?a8 ?l8 ?c8 ?k8 ?a9 ?l9 ?c9 ?k9 ?a10 ?l10 ?c10 ?k10 ?a11 ?l11 ?c11 ?k11 ?a12 ?l12 ?c12 ?k12 ?a13 ?l13 ?c13 ?k13 ?a14 ?l14 ?c14 ?k14 ?a15 ?l15 ?c15 ?k15 ?a16 ?l16 ?c16 ?k16 ?a17 ?l17 ?c17 ?k17 ?a18 ?l18 ?c18 ?k18 ?a19 ?l19 ?c19 ?k19 ?a20 ?l20 ?c20 ?k20 ?a21 ?l21 ?c21 ?k21 ?a22 ?l22 ?c22 ?k22 ?z_all ?z_bool ?z_dict ?z_enumerate ?z_int ?z_isinstance ?z_len ?z_list ?z_range ?z_str ?z_tuple
    (case a0 => k_is); (case l0 => k_is); (case c0 => k_is); (case k0 => k_is); (case a1 => k_is); (case l1 => k_is); (case c1 => k_is); (case k1 => k_is); (case a2 => k_is); (case l2 => k_is); (case c2 => k_is); (case k2 => k_is); (case a3 => k_is); (case l3 => k_is); (case c3 => k_is); (case k3 => k_is); (case a4 => k_is); (case l4 => k_is); (case c4 => k_is); (case k4 => k_is); (case a5 => k_is); (case l5 => k_is); (case c5 => k_is); (case k5 => k_is); (case a6 => k_is); (case l6 => k_is); (case c6 => k_is); (case k6 => k_is); (case a7 => k_is); (case l7 => k_is); (case c7 => k_is); (case k7 => k_is); (case a8 => k_is); (case l8 => k_is); (case c8 => k_is); (case k8 => k_is); (case a9 => k_is); (case l9 => k_is); (case c9 => k_is); (case k9 => k_is); (case a10 => k_is); (case l10 => k_is); (case c10 => k_is); (case k10 => k_is); (case a11 => k_is); (case l11 => k_is); (case c11 => k_is); (case k11 => k_is); (case a12 => k_is); (case l12 => k_is); (case c12 => k_is); (case k12 => k_is); (case a13 => k_is); (case l13 => k_is); (case c13 => k_is); (case k13 => k_is); (case a14 => k_is); (case l14 => k_is); (case c14 => k_is); (case k14 => k_is); (case a15 => k_is); (case l15 => k_is); (case c15 => k_is); (case k15 => k_is); (case a16 => k_is); (case l16 => k_is); (case c16 => k_is); (case k16 => k_is); (case a17 => k_is); (case l17 => k_is); (case c17 => k_is); (case k17 => k_is); (case a18 => k_is); (case l18 => k_is); (case c18 => k_is); (case k18 => k_is); (case a19 => k_is); (case l19 => k_is); (case c19 => k_is); (case k19 => k_is); (case a20 => k_is); (case l20 => k_is); (case c20 => k_is); (case k20 => k_is); (case a21 => k_is); (case l21 => k_is); (case c21 => k_is); (case k21 => k_is); (case a22 => k_is); (case l22 => k_is); (case c22 => k_is); (case k22 => k_is); (case z_all => k_is); (case z_bool => k_is); (case z_dict => k_is); (case z_enumerate => k_is); (case z_int => k_is); (case z_isinstance => k_is); (case z_len => k_is); (case z_list => k_is); (case z_range => k_is); (case z_str => k_is); (case z_tuple => k_is)

