import PyProof.Rows.All
import Wide.All
import OpenK.AllK
import Wide.FinOn
import HandS.ForExc
import HandS.ForMost
import HandS.Wide
import HandS.TupAny
import HandS.Walk
import HandS.Zip
import HandS.Deep
import HandS.Conv
import KE.KeyNested
import HandS.IsInst
import HandS.Strs
import PyProof.StrLaws
import PyProof.AutoSeq1
import HandS.EndBits
import HandS.Codes
import HandS.TupLen
import KE.GoesMore
import PySem.Challenge.RW_shapefree_k62_products
set_option Elab.async false
set_option linter.all false
set_option maxRecDepth 100000
set_option maxHeartbeats 4000000
/-! Layer G, part 1: data, the relation between slots and data, the judgements. -/
namespace G
open PySem PySem.Spec PyProof.Rows L2
/-- the fragment, the program, the world -/
structure Kn where
  K : PySem.W.Frag
  P : Program
  w : World
instance : Coe Kn PySem.W.Frag := ⟨Kn.K⟩
abbrev kx (X : Cx) : Kn := ⟨X.K, X.prog, X.w⟩
abbrev U := PyData
/-- more is known in the second heap -/
abbrev HLe (H H' : Hp) : Prop := ∀ b o, H b = some o → H' b = some o
theorem hle_refl (H : Hp) : HLe H H := fun _ _ h => h
theorem hle_trans {H H1 H2 : Hp} (a : HLe H H1) (b : HLe H1 H2) : HLe H H2 := fun c o h => b c o (a c o h)
theorem hle_none {H H' : Hp} (a : HLe H H') {p : Addr} (h : H' p = none) : H p = none := by
  cases q : H p with
  | none => rfl
  | some o => rw [a p o q] at h; cases h
theorem hle_rd {H H' : Hp} (a : HLe H H') {p : Addr} {u : HO} (h : Rd H p u) : Rd H' p u := by
  rcases h with h | ⟨o, h⟩
  · exact .inl (a _ _ h)
  · exact .inr ⟨o, a _ _ h⟩
theorem hle_sqL {K : Kn} {H H' : Hp} (a : HLe H H') {p : Addr} {xs : List V} (h : SqL K H p xs) : SqL K H' p xs := by
  rcases h with h | h
  · exact .inl (hle_rd a h)
  · exact .inr h
theorem hle_sqT {K : Kn} {H H' : Hp} (a : HLe H H') {p : Addr} {xs : List V} (h : SqT K H p xs) : SqT K H' p xs := by
  rcases h with h | h
  · exact .inl (hle_rd a h)
  · exact .inr h
/-- a tuple that is read, known to have no dict of its own -/
def SqTs (K : Kn) (H : Hp) (a : Addr) (xs : List V) : Prop :=
  (∃ o : Obj, H a = some (.frz o (.tup xs)) ∧ o.dict = none) ∨
    ∃ (o : Obj) (its : Array Value) (n : Nat), K.K.lookup a = some o ∧ o.cls = .type "tuple" ∧ o.dict = none ∧ o.data = .seq its n ∧ its.size ≤ sizeLine ∧ Vals xs its.toList
theorem SqTs.sq {K : Kn} {H : Hp} {a : Addr} {xs : List V} (h : SqTs K H a xs) : SqT K H a xs := by
  rcases h with ⟨o, h, _⟩ | ⟨o, its, n, h1, h2, _, h3⟩
  · exact .inl (.inr ⟨o, h⟩)
  · exact .inr ⟨o, its, n, h1, h2, h3⟩
theorem SqTs.of {K : Kn} {H : Hp} {a : Addr} {xs : List V} {o : Obj} (h : H a = some (.frz o (.tup xs))) (d : o.dict = none) : SqTs K H a xs := .inl ⟨o, h, d⟩
theorem hle_sqTs {K : Kn} {H H' : Hp} (a : HLe H H') {p : Addr} {xs : List V} (h : SqTs K H p xs) : SqTs K H' p xs := by
  rcases h with ⟨o, h, d⟩ | h
  · exact .inl ⟨o, a _ _ h, d⟩
  · exact .inr h
theorem hle_upd {H H' : Hp} (a : HLe H H') {p : Addr} (o : HO) (h : H p = none) : HLe H (upd H' p o) := fun b u e => by
  rw [upd_ne (ne_of_none e h)]; exact a b u e
theorem hle_updB {H H' : Hp} (a : HLe H H') (p : Addr) (o : HO) : HLe (upd H p o) (upd H' p o) := fun b u e => by
  by_cases hb : b = p
  · subst hb; rw [upd_same] at e ⊢; exact e
  · rw [upd_ne hb] at e ⊢; exact a b u e
theorem hle_updL {H H' : Hp} (a : HLe H H') {p : Addr} {o : HO} (h : H' p = some o) : HLe (upd H p o) H' := fun b u e => by
  by_cases hb : b = p
  · subst hb; rw [upd_same] at e; rw [h]; exact e
  · rw [upd_ne hb] at e; exact a b u e
theorem hle_new {H : Hp} {p : Addr} (o : HO) (h : H p = none) : HLe H (upd H p o) := hle_upd (hle_refl H) o h

/-- a key as data -/
def keyU : Key → U
  | .inl i => .int i
  | .inr x => .str x
/-- a dict whose keys are tuples (of ints, texts, None, tuples): what its one object says -/
def dxO (P : Program) (w : World) (a : Addr) (kvs : List (NestedKey × Addr × V)) : HO := .ext fun h => kvs.length ≤ sizeLine ∧ (a == sysModules) = false ∧ (∀ p ∈ kvs, p.1.depth ≤ 8) ∧
  ∃ xs : List (NestedKey × Addr × Value), Paired (fun (p : NestedKey × Addr × V) (q : NestedKey × Addr × Value) => p.1 = q.1 ∧ p.2.1 = q.2.1 ∧ RelV p.2.2 q.2.2) kvs xs ∧
    ∃ o es ep, h.get? a = some o ∧ o.ExactDict ∧ o.data = .dict es ep ∧ es.toList = xs.map (entryOfKey (nestedKind P w)) ∧ (xs.map (·.1)).Nodup
/-- the mark of a dict whose keys are tuples: it stands ahead of its pairs -/
def mkD : U × U := (.dict [], .none)
/-- a value in a heap is that data -/
inductive Rp (K : Kn) (H : Hp) : V → U → Prop
  | non : Rp K H .non .none
  | bl (b : Bool) : Rp K H (.bl b) (.bool b)
  | int (i : Int) : Rp K H (.int i) (.int i)
  | str (x : Str) : x.length ≤ sizeLine → Rp K H (.str x) (.str x)
  | lst {a : Addr} {xs : List V} {ds : List U} : SqL K H a xs → Paired (Rp K H) xs ds → ds.length ≤ sizeLine → Rp K H (.ref a) (.list ds)
  | tup {a : Addr} {xs : List V} {ds : List U} : SqTs K H a xs → Paired (Rp K H) xs ds → ds.length ≤ sizeLine → Rp K H (.ref a) (.tuple ds)
  | dK {a : Addr} {kvs : List (Key × V)} {ds : List (U × U)} : Rd H a (.dK kvs) → kvs.map (fun p => keyU p.1) = ds.map (·.1) → Paired (Rp K H) (kvs.map (·.2)) (ds.map (·.2)) → ds.length ≤ sizeLine → Rp K H (.ref a) (.dict ds)
  | dX {a : Addr} {kvs : List (NestedKey × Addr × V)} {ds : List (U × U)} : H a = some (dxO K.P K.w a kvs) → kvs.map (fun p => p.1.data) = ds.map (·.1) → Paired (Rp K H) (kvs.map fun p => .ref p.2.1) (ds.map (·.1)) → Paired (Rp K H) (kvs.map (·.2.2)) (ds.map (·.2)) → (mkD :: ds).length ≤ sizeLine → Rp K H (.ref a) (.dict (mkD :: ds))
abbrev Rps (K : Kn) (H : Hp) : List V → List U → Prop := Paired (Rp K H)
theorem pairedGet {α β : Type} {G : α → β → Prop} {l₁ : List α} {l₂ : List β} (h : Paired G l₁ l₂) : ∀ {i : Nat} {b : β}, l₂[i]? = some b → ∃ a, l₁[i]? = some a ∧ G a b := by
  induction h with
  | nil => intro i b e; simp at e
  | cons r t ih =>
    intro i b e
    cases i with
    | zero => simp at e; subst e; exact ⟨_, rfl, r⟩
    | succ i => simp at e; obtain ⟨a, h1, h2⟩ := ih e; exact ⟨a, by simpa using h1, h2⟩
theorem pairedOf {α β : Type} {G : α → β → Prop} : ∀ {l₁ : List α} {l₂ : List β}, l₁.length = l₂.length → (∀ (i : Nat) (a : α) (b : β), l₁[i]? = some a → l₂[i]? = some b → G a b) → Paired G l₁ l₂
  | [], [], _, _ => .nil
  | [], _ :: _, h, _ => by simp at h
  | _ :: _, [], h, _ => by simp at h
  | a :: l₁, b :: l₂, h, f => .cons (f 0 a b rfl rfl) (pairedOf (by simpa using h) fun i x y h1 h2 => f (i + 1) x y (by simpa using h1) (by simpa using h2))
mutual
theorem rp_mono {K : Kn} {H H' : Hp} (le : HLe H H') : ∀ (d : U) {v : V}, Rp K H v d → Rp K H' v d
  | .none, _, h => by cases h; exact .non
  | .bool b, _, h => by cases h; exact .bl b
  | .int i, _, h => by cases h; exact .int i
  | .str x, _, h => by cases h with | str _ l => exact .str x l
  | .list ds, _, h => by cases h with | lst q r l => exact .lst (hle_sqL le q) (rps_mono le ds r) l
  | .tuple ds, _, h => by cases h with | tup q r l => exact .tup (hle_sqTs le q) (rps_mono le ds r) l
  | .dict [], _, h => by
    cases h with
    | dK q k r l => exact .dK (hle_rd le q) k (rkv_mono le [] r) l
  | .dict (p :: ds), _, h => by
    cases h with
    | dK q k r l =>
      rename_i kvs
      match kvs, k, r with
      | kv :: kvs, k, .cons r t => exact .dK (hle_rd le q) k (.cons (rp_mono le p.2 r) (rkv_mono le ds t)) l
    | dX q k r1 r l => exact .dX (le _ _ q) k (rkk_mono le ds r1) (rkv_mono le ds r) l
theorem rps_mono {K : Kn} {H H' : Hp} (le : HLe H H') : ∀ (ds : List U) {vs : List V}, Rps K H vs ds → Rps K H' vs ds
  | [], _, h => by cases h; exact .nil
  | d :: ds, _, h => by cases h with | cons r t => exact .cons (rp_mono le d r) (rps_mono le ds t)
theorem rkv_mono {K : Kn} {H H' : Hp} (le : HLe H H') : ∀ (ds : List (U × U)) {vs : List V}, Rps K H vs (ds.map (·.2)) → Rps K H' vs (ds.map (·.2))
  | [], _, h => by cases h; exact .nil
  | (k, d) :: ds, _, h => by
    cases h with | cons r t => exact .cons (rp_mono le d r) (rkv_mono le ds t)
theorem rkk_mono {K : Kn} {H H' : Hp} (le : HLe H H') : ∀ (ds : List (U × U)) {vs : List V}, Rps K H vs (ds.map (·.1)) → Rps K H' vs (ds.map (·.1))
  | [], _, h => by cases h; exact .nil
  | (k, d) :: ds, _, h => by
    cases h with | cons r t => exact .cons (rp_mono le k r) (rkk_mono le ds t)
end
theorem Paired.len {α β : Type} {G : α → β → Prop} {l₁ : List α} {l₂ : List β} (h : Paired G l₁ l₂) : l₁.length = l₂.length := _root_.PySem.Paired.length h

/-! ### the mirror's slots -/
inductive En where
  | no | sh (u : U) | ow (u : U)
abbrev Rho := List En
/-- an object of ours (not shared) holds that data -/
def OwnAt (K : Kn) (Hs H : Hp) (u : U) (a : Addr) : Prop := match u with
  | .list ds => ds.length ≤ sizeLine ∧ ∃ xs, H a = some (.lst xs) ∧ Rps K Hs xs ds
  | .dict ds => ds.length ≤ sizeLine ∧ ((∃ kvs, H a = some (.dK kvs) ∧ kvs.map (fun p => keyU p.1) = ds.map (·.1) ∧ Rps K Hs (kvs.map (·.2)) (ds.map (·.2)))
      ∨ ∃ (kvs : List (NestedKey × Addr × V)) (es : List (U × U)), H a = some (dxO K.P K.w a kvs) ∧ ds = mkD :: es ∧ kvs.map (fun p => p.1.data) = es.map (·.1) ∧ Rps K Hs (kvs.map fun p => .ref p.2.1) (es.map (·.1)) ∧ Rps K Hs (kvs.map (·.2.2)) (es.map (·.2)))
  | _ => False
/-- what stands at our object -/
def OwnO (K : Kn) (Hs : Hp) (u : U) (a : Addr) (o : HO) : Prop := match u with
  | .list ds => ds.length ≤ sizeLine ∧ ∃ xs, o = .lst xs ∧ Rps K Hs xs ds
  | .dict ds => ds.length ≤ sizeLine ∧ ((∃ kvs, o = .dK kvs ∧ kvs.map (fun p => keyU p.1) = ds.map (·.1) ∧ Rps K Hs (kvs.map (·.2)) (ds.map (·.2)))
      ∨ ∃ (kvs : List (NestedKey × Addr × V)) (es : List (U × U)), o = dxO K.P K.w a kvs ∧ ds = mkD :: es ∧ kvs.map (fun p => p.1.data) = es.map (·.1) ∧ Rps K Hs (kvs.map fun p => .ref p.2.1) (es.map (·.1)) ∧ Rps K Hs (kvs.map (·.2.2)) (es.map (·.2)))
  | _ => False
theorem OwnAt.obj {K : Kn} {Hs H : Hp} {u : U} {a : Addr} (h : OwnAt K Hs H u a) : ∃ o, H a = some o ∧ OwnO K Hs u a o := by
  cases u with
  | list ds => obtain ⟨l, xs, e, r⟩ := h; exact ⟨_, e, l, xs, rfl, r⟩
  | dict ds =>
    obtain ⟨l, h⟩ := h
    rcases h with ⟨kvs, e, r⟩ | ⟨kvs, es, e, r⟩
    · exact ⟨_, e, l, .inl ⟨kvs, rfl, r⟩⟩
    · exact ⟨_, e, l, .inr ⟨kvs, es, rfl, r⟩⟩
  | none => exact h.elim
  | bool _ => exact h.elim
  | int _ => exact h.elim
  | str _ => exact h.elim
  | tuple _ => exact h.elim
theorem OwnO.at {K : Kn} {Hs H : Hp} {u : U} {a : Addr} {o : HO} (h : OwnO K Hs u a o) (e : H a = some o) : OwnAt K Hs H u a := by
  cases u with
  | list ds => obtain ⟨l, xs, rfl, r⟩ := h; exact ⟨l, xs, e, r⟩
  | dict ds =>
    obtain ⟨l, h⟩ := h
    rcases h with ⟨kvs, rfl, r⟩ | ⟨kvs, es, rfl, r⟩
    · exact ⟨l, .inl ⟨kvs, e, r⟩⟩
    · exact ⟨l, .inr ⟨kvs, es, e, r⟩⟩
  | none => exact h.elim
  | bool _ => exact h.elim
  | int _ => exact h.elim
  | str _ => exact h.elim
  | tuple _ => exact h.elim
theorem OwnO.mono {K : Kn} {Hs Hs' : Hp} {u : U} {a : Addr} {o : HO} (le : HLe Hs Hs') (h : OwnO K Hs u a o) : OwnO K Hs' u a o := by
  cases u with
  | list ds => obtain ⟨l, xs, e, r⟩ := h; exact ⟨l, xs, e, rps_mono le _ r⟩
  | dict ds =>
    obtain ⟨l, h⟩ := h
    rcases h with ⟨kvs, e, k, r⟩ | ⟨kvs, es, e, ed, k, r1, r⟩
    · exact ⟨l, .inl ⟨kvs, e, k, rkv_mono le _ r⟩⟩
    · exact ⟨l, .inr ⟨kvs, es, e, ed, k, rkk_mono le _ r1, rkv_mono le _ r⟩⟩
  | none => exact h.elim
  | bool _ => exact h.elim
  | int _ => exact h.elim
  | str _ => exact h.elim
  | tuple _ => exact h.elim
theorem OwnAt.keep {K : Kn} {Hs Hs' H H' : Hp} {u : U} {a : Addr} (h : OwnAt K Hs H u a) (le : HLe Hs Hs') (e : ∀ o, H a = some o → H' a = some o) : OwnAt K Hs' H' u a := by
  obtain ⟨o, e1, r⟩ := h.obj
  exact (r.mono le).at (e o e1)
theorem OwnO.rp {K : Kn} {Hs H : Hp} {u : U} {a : Addr} {o : HO} (h : OwnO K Hs u a o) (le : HLe Hs H) (e : H a = some o) : Rp K H (.ref a) u := by
  cases u with
  | list ds => obtain ⟨l, xs, rfl, r⟩ := h; exact .lst (SqL.of e) (rps_mono le _ r) l
  | dict ds =>
    obtain ⟨l, h⟩ := h
    rcases h with ⟨kvs, rfl, k, r⟩ | ⟨kvs, es, rfl, rfl, k, r1, r⟩
    · exact .dK (.inl e) k (rkv_mono le _ r) l
    · exact .dX e k (rkk_mono le _ r1) (rkv_mono le _ r) l
  | none => exact h.elim
  | bool _ => exact h.elim
  | int _ => exact h.elim
  | str _ => exact h.elim
  | tuple _ => exact h.elim

/-- slots, heap, what is shared there, what is others', the mirror's slots; as: the slots whose objects are handed back -/
structure Rel (K : Kn) (as : List (Nat × Addr)) (σ : L2.St) (H Hs Fz : Hp) (ρ : Rho) : Prop where
  len : σ.length = ρ.length
  s : HLe Hs H
  f : HLe Fz H
  d : ∀ b o, Fz b = some o → Hs b = none
  sh : ∀ (i : Nat) (u : U), ρ[i]? = some (En.sh u) → ∃ v, σ[i]? = some (some v) ∧ Rp K Hs v u
  ow : ∀ (i : Nat) (u : U), ρ[i]? = some (En.ow u) → ∃ a : Addr, σ[i]? = some (some (V.ref a)) ∧ Hs a = none ∧ Fz a = none ∧ OwnAt K Hs H u a
  inj : ∀ (i j : Nat) (u w : U) (a : Addr), ρ[i]? = some (En.ow u) → ρ[j]? = some (En.ow w) → σ[i]? = some (some (V.ref a)) → σ[j]? = some (some (V.ref a)) → i = j
  io : ∀ p ∈ as, σ[p.1]? = some (some (V.ref p.2))
/-- what an expression gives: data, or an object of a slot -/
inductive TV where
  | val (u : U) | own (i : Nat)
def RT (K : Kn) (Hs : Hp) (σ : L2.St) : TV → V → Prop
  | .val u, v => Rp K Hs v u
  | .own i, v => σ[i]? = some (some v)
def deref (ρ : Rho) : TV → Option U
  | .val u => some u
  | .own i => match ρ[i]? with
    | some (.ow u) => some u
    | some (.sh u) => some u
    | _ => none
/-- the top read in one heap, what is in it in another -/
def Rp2 (K : Kn) (Hs H : Hp) (v : V) : U → Prop
  | .none => v = .non
  | .bool b => v = .bl b
  | .int i => v = .int i
  | .str x => v = .str x ∧ x.length ≤ sizeLine
  | .list ds => ds.length ≤ sizeLine ∧ ∃ a xs, v = .ref a ∧ SqL K H a xs ∧ Rps K Hs xs ds
  | .tuple ds => ds.length ≤ sizeLine ∧ ∃ a xs, v = .ref a ∧ SqTs K Hs a xs ∧ Rps K Hs xs ds
  | .dict ds => ds.length ≤ sizeLine ∧ ((∃ a kvs, v = .ref a ∧ Rd H a (.dK kvs) ∧ kvs.map (fun p => keyU p.1) = ds.map (·.1) ∧ Rps K Hs (kvs.map (·.2)) (ds.map (·.2)))
      ∨ ∃ (a : Addr) (kvs : List (NestedKey × Addr × V)) (es : List (U × U)), v = .ref a ∧ H a = some (dxO K.P K.w a kvs) ∧ ds = mkD :: es ∧ kvs.map (fun p => p.1.data) = es.map (·.1) ∧ Rps K Hs (kvs.map fun p => .ref p.2.1) (es.map (·.1)) ∧ Rps K Hs (kvs.map (·.2.2)) (es.map (·.2)))
theorem Rp2.of {K : Kn} {Hs H : Hp} {v : V} {u : U} (h : Rp K Hs v u) (le : HLe Hs H) : Rp2 K Hs H v u := by
  cases h with
  | non => rfl
  | bl b => rfl
  | int i => rfl
  | str x l => exact ⟨rfl, l⟩
  | lst q r l => exact ⟨l, _, _, rfl, hle_sqL le q, r⟩
  | tup q r l => exact ⟨l, _, _, rfl, q, r⟩
  | dK q k r l => exact ⟨l, .inl ⟨_, _, rfl, hle_rd le q, k, r⟩⟩
  | dX q k r1 r l => exact ⟨l, .inr ⟨_, _, _, rfl, le _ _ q, rfl, k, r1, r⟩⟩
theorem Rp2.rp {K : Kn} {Hs H : Hp} {v : V} {u : U} (h : Rp2 K Hs H v u) (le : HLe Hs H) : Rp K H v u := by
  cases u with
  | none => cases h; exact .non
  | bool b => cases h; exact .bl b
  | int i => cases h; exact .int i
  | str x => obtain ⟨rfl, l⟩ := h; exact .str x l
  | list ds => obtain ⟨l, a, xs, rfl, q, r⟩ := h; exact .lst q (rps_mono le _ r) l
  | tuple ds => obtain ⟨l, a, xs, rfl, q, r⟩ := h; exact .tup (hle_sqTs le q) (rps_mono le _ r) l
  | dict ds =>
    obtain ⟨l, h⟩ := h
    rcases h with ⟨a, kvs, rfl, q, k, r⟩ | ⟨a, kvs, es, rfl, q, rfl, k, r1, r⟩
    · exact .dK q k (rkv_mono le _ r) l
    · exact .dX q k (rkk_mono le _ r1) (rkv_mono le _ r) l
theorem Rp2.sh {K : Kn} {Hs H : Hp} {v : V} {u : U} (h : Rp2 K Hs H v u) (n : ∀ ds, u ≠ .list ds) (n' : ∀ ds, u ≠ .dict ds) : Rp K Hs v u := by
  cases u with
  | none => cases h; exact .non
  | bool b => cases h; exact .bl b
  | int i => cases h; exact .int i
  | str x => obtain ⟨rfl, l⟩ := h; exact .str x l
  | list ds => exact absurd rfl (n ds)
  | tuple ds => obtain ⟨l, a, xs, rfl, q, r⟩ := h; exact .tup q r l
  | dict ds => exact absurd rfl (n' ds)
theorem Rp2.own {K : Kn} {Hs H : Hp} {a : Addr} {u : U} (h : OwnAt K Hs H u a) : Rp2 K Hs H (.ref a) u := by
  cases u with
  | list ds => obtain ⟨l, xs, e, r⟩ := h; exact ⟨l, a, xs, rfl, SqL.of e, r⟩
  | dict ds =>
    obtain ⟨l, h⟩ := h
    rcases h with ⟨kvs, e, k, r⟩ | ⟨kvs, es, e, r⟩
    · exact ⟨l, .inl ⟨a, kvs, rfl, .inl e, k, r⟩⟩
    · exact ⟨l, .inr ⟨a, kvs, es, rfl, e, r⟩⟩
  | none => exact h.elim
  | bool _ => exact h.elim
  | int _ => exact h.elim
  | str _ => exact h.elim
  | tuple _ => exact h.elim
section
variable {K : Kn} {as : List (Nat × Addr)} {σ : L2.St} {H H' Hs Hs' Fz : Hp} {ρ : Rho} {v : V} {u : U} {tv : TV}
/-- what is looked at -/
theorem Rel.look (R : Rel K as σ H Hs Fz ρ) (r : RT K Hs σ tv v) (e : deref ρ tv = some u) : Rp2 K Hs H v u := by
  cases tv with
  | val w =>
    have e' : w = u := Option.some.inj e
    subst e'
    exact Rp2.of r R.s
  | own i =>
    have r' : σ[i]? = some (some v) := r
    simp only [deref] at e
    split at e
    · rename_i w hw
      cases e
      obtain ⟨a, h1, _, _, h4⟩ := R.ow i _ hw
      rw [r'] at h1; cases h1
      exact Rp2.own h4
    · rename_i w hw
      cases e
      obtain ⟨x, h1, h2⟩ := R.sh i _ hw
      rw [r'] at h1; cases h1
      exact Rp2.of h2 R.s
    · cases e
theorem RT.mono (le : HLe Hs Hs') (r : RT K Hs σ tv v) : RT K Hs' σ tv v := by
  cases tv with
  | val w => exact rp_mono le _ r
  | own i => exact r
/-- the heap and what is shared grow; our objects stand -/
theorem Rel.grow (R : Rel K as σ H Hs Fz ρ) (s : HLe Hs' H') (le : HLe Hs Hs') (f : HLe Fz H') (d : ∀ b o, Fz b = some o → Hs' b = none)
    (ow : ∀ (i : Nat) (w : U) (a : Addr), ρ[i]? = some (En.ow w) → σ[i]? = some (some (V.ref a)) → Hs' a = none ∧ ∀ o, H a = some o → H' a = some o) : Rel K as σ H' Hs' Fz ρ where
  len := R.len
  s := s
  f := f
  d := d
  sh := fun i u e => let ⟨v, h1, h2⟩ := R.sh i u e; ⟨v, h1, rp_mono le _ h2⟩
  ow := fun i u e => by
    obtain ⟨a, h1, h2, h3, h4⟩ := R.ow i u e
    obtain ⟨q1, q2⟩ := ow i u a e h1
    exact ⟨a, h1, q1, h3, h4.keep le q2⟩
  inj := R.inj
  io := R.io
/-- a new object is laid, not told of -/
theorem Rel.lay (R : Rel K as σ H Hs Fz ρ) {p : Addr} (o : HO) (hp : H p = none) : Rel K as σ (upd H p o) Hs Fz ρ :=
  R.grow (hle_upd R.s o (hle_none R.s hp)) (hle_refl _) (hle_upd R.f o (hle_none R.f hp)) R.d fun i w a e h => by
    obtain ⟨a', h1, h2, h3, h4⟩ := R.ow i w e
    rw [h] at h1; cases h1
    exact ⟨h2, fun ob q => by rw [upd_ne (ne_of_none q hp)]; exact q⟩
/-- a new object is laid and shared -/
theorem Rel.layS (R : Rel K as σ H Hs Fz ρ) {p : Addr} (o : HO) (hp : H p = none) : Rel K as σ (upd H p o) (upd Hs p o) Fz ρ :=
  R.grow (hle_updB R.s p o) (hle_new o (hle_none R.s hp)) (hle_upd R.f o (hle_none R.f hp)) (fun b ob e => by
      have nb : b ≠ p := ne_of_none (R.f b ob e) hp
      rw [upd_ne nb]; exact R.d b ob e) fun i w a e h => by
    obtain ⟨a', h1, h2, h3, h4⟩ := R.ow i w e
    rw [h] at h1; cases h1
    obtain ⟨ob, q, _⟩ := h4.obj
    have na : a ≠ p := ne_of_none q hp
    exact ⟨by rw [upd_ne na]; exact h2, fun ob q => by rw [upd_ne na]; exact q⟩
/-- an object of nobody's slot becomes shared -/
theorem Rel.freeze (R : Rel K as σ H Hs Fz ρ) {p : Addr} {o : HO} (hp : H p = some o) (n1 : Hs p = none) (n2 : Fz p = none) (no : ∀ (i : Nat) (w : U), ρ[i]? = some (En.ow w) → σ[i]? ≠ some (some (V.ref p))) : Rel K as σ H (upd Hs p o) Fz ρ :=
  R.grow (hle_updL R.s hp) (hle_new o n1) R.f (fun b ob e => by
      have nb : b ≠ p := fun q => by rw [q, n2] at e; cases e
      rw [upd_ne nb]; exact R.d b ob e) fun i w a e h => by
    obtain ⟨a', h1, h2, h3, h4⟩ := R.ow i w e
    rw [h] at h1; cases h1
    have na : a ≠ p := fun q => no i w e (by rw [← q]; exact h)
    exact ⟨by rw [upd_ne na]; exact h2, fun ob q => q⟩
/-- our object at slot i holds other data -/
theorem Rel.put (R : Rel K as σ H Hs Fz ρ) {i : Nat} {w : U} {a : Addr} {o : HO} (e : ρ[i]? = some (.ow w)) (ha : σ[i]? = some (some (.ref a))) (ho : OwnO K Hs u a o) : Rel K as σ (upd H a o) Hs Fz (ρ.set i (.ow u)) := by
  obtain ⟨a', h1, h2, h3, h4⟩ := R.ow i w e
  rw [ha] at h1; cases h1
  have hlen : i < ρ.length := (List.getElem?_eq_some_iff.mp e).1
  refine ⟨by rw [List.length_set]; exact R.len, hle_upd R.s o h2, hle_upd R.f o h3, R.d, fun j u' q => ?_, fun j u' q => ?_, fun j k x y b q1 q2 q3 q4 => ?_, R.io⟩
  · by_cases hj : j = i
    · subst hj; rw [List.getElem?_set_self hlen] at q; cases q
    · rw [List.getElem?_set_ne (Ne.symm hj)] at q; exact R.sh j u' q
  · by_cases hj : j = i
    · subst hj; rw [List.getElem?_set_self hlen] at q; cases q
      exact ⟨a, ha, h2, h3, ho.at upd_same⟩
    · rw [List.getElem?_set_ne (Ne.symm hj)] at q
      obtain ⟨b, g1, g2, g3, g4⟩ := R.ow j u' q
      refine ⟨b, g1, g2, g3, g4.keep (hle_refl _) fun ob hb => ?_⟩
      have nb : b ≠ a := fun z => hj (R.inj j i u' w a q e (by rw [← z]; exact g1) ha)
      rw [upd_ne nb]; exact hb
  · have fix : ∀ {j : Nat} {x : U}, (ρ.set i (.ow u))[j]? = some (En.ow x) → ∃ y, ρ[j]? = some (En.ow y) := fun {j x} q => by
      by_cases hj : j = i
      · subst hj; exact ⟨w, e⟩
      · rw [List.getElem?_set_ne (Ne.symm hj)] at q; exact ⟨x, q⟩
    obtain ⟨x', q1⟩ := fix q1
    obtain ⟨y', q2⟩ := fix q2
    exact R.inj j k x' y' b q1 q2 q3 q4
/-- our object at slot i becomes shared -/
theorem Rel.share (R : Rel K as σ H Hs Fz ρ) {i : Nat} (e : ρ[i]? = some (.ow u)) : ∃ a o, σ[i]? = some (some (.ref a)) ∧ H a = some o ∧ Rel K as σ H (upd Hs a o) Fz (ρ.set i (.sh u)) ∧ HLe Hs (upd Hs a o) ∧ Rp K (upd Hs a o) (.ref a) u := by
  obtain ⟨a, h1, h2, h3, h4⟩ := R.ow i u e
  obtain ⟨o, ho, hr⟩ := h4.obj
  have hlen : i < ρ.length := (List.getElem?_eq_some_iff.mp e).1
  have le : HLe Hs (upd Hs a o) := hle_new o h2
  have rp : Rp K (upd Hs a o) (.ref a) u := hr.rp le upd_same
  refine ⟨a, o, h1, ho, ⟨by rw [List.length_set]; exact R.len, hle_updL R.s ho, R.f, fun b ob q => ?_, fun j u' q => ?_, fun j u' q => ?_, fun j k x y b q1 q2 q3 q4 => ?_, R.io⟩, le, rp⟩
  · have nb : b ≠ a := fun z => by rw [z, h3] at q; cases q
    rw [upd_ne nb]; exact R.d b ob q
  · by_cases hj : j = i
    · subst hj; rw [List.getElem?_set_self hlen] at q; cases q
      exact ⟨_, h1, rp⟩
    · rw [List.getElem?_set_ne (Ne.symm hj)] at q
      obtain ⟨v, g1, g2⟩ := R.sh j u' q
      exact ⟨v, g1, rp_mono le _ g2⟩
  · by_cases hj : j = i
    · subst hj; rw [List.getElem?_set_self hlen] at q; cases q
    · rw [List.getElem?_set_ne (Ne.symm hj)] at q
      obtain ⟨b, g1, g2, g3, g4⟩ := R.ow j u' q
      have nb : b ≠ a := fun z => hj (R.inj j i u' u a q e (by rw [← z]; exact g1) h1)
      exact ⟨b, g1, by rw [upd_ne nb]; exact g2, g3, g4.keep le fun _ z => z⟩
  · have fix : ∀ {j : Nat} {x : U}, (ρ.set i (.sh u))[j]? = some (En.ow x) → ρ[j]? = some (En.ow x) := fun {j x} q => by
      by_cases hj : j = i
      · subst hj; rw [List.getElem?_set_self hlen] at q; cases q
      · rw [List.getElem?_set_ne (Ne.symm hj)] at q; exact q
    exact R.inj j k x y b (fix q1) (fix q2) q3 q4
/-- a slot is stored with shared data -/
theorem Rel.store (R : Rel K as σ H Hs Fz ρ) {i : Nat} (hi : i < ρ.length) (hio : ∀ p ∈ as, p.1 ≠ i) (r : Rp K Hs v u) : Rel K as (σ.set i (some v)) H Hs Fz (ρ.set i (.sh u)) := by
  have hi' : i < σ.length := by rw [R.len]; exact hi
  refine ⟨by rw [List.length_set, List.length_set]; exact R.len, R.s, R.f, R.d, fun j u' q => ?_, fun j u' q => ?_, fun j k x y b q1 q2 q3 q4 => ?_, fun p hp => by rw [List.getElem?_set_ne (Ne.symm (hio p hp))]; exact R.io p hp⟩
  · by_cases hj : j = i
    · subst hj; rw [List.getElem?_set_self hi] at q; cases q
      exact ⟨v, List.getElem?_set_self hi', r⟩
    · rw [List.getElem?_set_ne (Ne.symm hj)] at q ⊢
      exact R.sh j u' q
  · by_cases hj : j = i
    · subst hj; rw [List.getElem?_set_self hi] at q; cases q
    · rw [List.getElem?_set_ne (Ne.symm hj)] at q ⊢
      exact R.ow j u' q
  · have fix : ∀ {j : Nat} {x : U}, (ρ.set i (.sh u))[j]? = some (En.ow x) → j ≠ i ∧ ρ[j]? = some (En.ow x) := fun {j x} q => by
      by_cases hj : j = i
      · subst hj; rw [List.getElem?_set_self hi] at q; cases q
      · rw [List.getElem?_set_ne (Ne.symm hj)] at q; exact ⟨hj, q⟩
    obtain ⟨n1, q1⟩ := fix q1
    obtain ⟨n2, q2⟩ := fix q2
    rw [List.getElem?_set_ne (Ne.symm n1)] at q3
    rw [List.getElem?_set_ne (Ne.symm n2)] at q4
    exact R.inj j k x y b q1 q2 q3 q4
/-- a slot is stored with an object of nobody's -/
theorem Rel.storeO (R : Rel K as σ H Hs Fz ρ) {i : Nat} {a : Addr} (hi : i < ρ.length) (hio : ∀ p ∈ as, p.1 ≠ i) (n1 : Hs a = none) (n2 : Fz a = none) (ho : OwnAt K Hs H u a) (no : ∀ (j : Nat) (w : U), ρ[j]? = some (En.ow w) → σ[j]? ≠ some (some (V.ref a))) :
    Rel K as (σ.set i (some (.ref a))) H Hs Fz (ρ.set i (.ow u)) := by
  have hi' : i < σ.length := by rw [R.len]; exact hi
  refine ⟨by rw [List.length_set, List.length_set]; exact R.len, R.s, R.f, R.d, fun j u' q => ?_, fun j u' q => ?_, fun j k x y b q1 q2 q3 q4 => ?_, fun p hp => by rw [List.getElem?_set_ne (Ne.symm (hio p hp))]; exact R.io p hp⟩
  · by_cases hj : j = i
    · subst hj; rw [List.getElem?_set_self hi] at q; cases q
    · rw [List.getElem?_set_ne (Ne.symm hj)] at q ⊢
      exact R.sh j u' q
  · by_cases hj : j = i
    · subst hj; rw [List.getElem?_set_self hi] at q; cases q
      exact ⟨a, List.getElem?_set_self hi', n1, n2, ho⟩
    · rw [List.getElem?_set_ne (Ne.symm hj)] at q ⊢
      exact R.ow j u' q
  · by_cases hj : j = i
    · by_cases hk : k = i
      · rw [hj, hk]
      · subst hj
        rw [List.getElem?_set_ne (Ne.symm hk)] at q2 q4
        rw [List.getElem?_set_self hi'] at q3; cases q3
        exact absurd q4 (no k y q2)
    · rw [List.getElem?_set_ne (Ne.symm hj)] at q1 q3
      by_cases hk : k = i
      · subst hk
        rw [List.getElem?_set_self hi'] at q4; cases q4
        exact absurd q3 (no j x q1)
      · rw [List.getElem?_set_ne (Ne.symm hk)] at q2 q4
        exact R.inj j k x y b q1 q2 q3 q4
end
end G

/-! Layer G, part 2: expressions. -/
namespace G
open PySem PySem.Spec PyProof.Rows L2
abbrev MX := Rho → Option (TV × Rho)
abbrev MF := Rho → Option (U × Rho)
abbrev MB := Rho → Option (Bool × Rho)
abbrev MA := Rho → Option (List TV × Rho)
def tE (K : Kn) (m : MX) : TE := fun σ H Q => ∃ as Hs Fz ρ tv ρ', Rel K as σ H Hs Fz ρ ∧ m ρ = some (tv, ρ') ∧ ∀ v H' Hs', Rel K as σ H' Hs' Fz ρ' → HLe Hs Hs' → RT K Hs' σ tv v → Q v H'
/-- a new object of nobody's -/
def Fresh (K : Kn) (Hs H Fz : Hp) (σ : L2.St) (ρ : Rho) (a : Addr) (u : U) : Prop :=
  Hs a = none ∧ Fz a = none ∧ OwnAt K Hs H u a ∧ ∀ (i : Nat) (w : U), ρ[i]? = some (En.ow w) → σ[i]? ≠ some (some (V.ref a))
def tF (K : Kn) (m : MF) : TE := fun σ H Q => ∃ as Hs Fz ρ u ρ', Rel K as σ H Hs Fz ρ ∧ m ρ = some (u, ρ') ∧ ∀ a H' Hs', Rel K as σ H' Hs' Fz ρ' → HLe Hs Hs' → Fresh K Hs' H' Fz σ ρ' a u → Q (.ref a) H'
def tT (K : Kn) (m : MB) : TT := fun σ H Q => ∃ as Hs Fz ρ b ρ', Rel K as σ H Hs Fz ρ ∧ m ρ = some (b, ρ') ∧ ∀ H' Hs', Rel K as σ H' Hs' Fz ρ' → HLe Hs Hs' → Q b H'
def tA (K : Kn) (m : MA) : TA := fun σ H Q => ∃ as Hs Fz ρ tvs ρ', Rel K as σ H Hs Fz ρ ∧ m ρ = some (tvs, ρ') ∧ ∀ vs H' Hs', Rel K as σ H' Hs' Fz ρ' → HLe Hs Hs' → Paired (fun tv v => RT K Hs' σ tv v) tvs vs → Q vs H'
abbrev EX (X : Cx) (e : Expr) (m : MX) : Prop := PE X e (tE (kx X) m)
abbrev FX (X : Cx) (e : Expr) (m : MF) : Prop := PE X e (tF (kx X) m)
abbrev TX (X : Cx) (e : Expr) (m : MB) : Prop := PT X e (tT (kx X) m)
abbrev WX (X : Cx) (e : Expr) (m : MB) : Prop := PW X e (tT (kx X) m)
abbrev AX (X : Cx) (es : List Expr) (m : MA) : Prop := PA X es (tA (kx X) m)
theorem pe_imp {X : Cx} {e : Expr} {t t' : TE} (h : PE X e t) (k : ∀ σ H Q, t' σ H Q → t σ H Q) : PE X e t' := ⟨fun pins s σ H Q I q => h.run pins s σ H Q I (k σ H Q q)⟩
theorem pt_imp {X : Cx} {e : Expr} {t t' : TT} (h : PT X e t) (k : ∀ σ H Q, t' σ H Q → t σ H Q) : PT X e t' := ⟨fun pins s σ H Q I q => h.run pins s σ H Q I (k σ H Q q)⟩
theorem pw_imp {X : Cx} {e : Expr} {t t' : TT} (h : PW X e t) (k : ∀ σ H Q, t' σ H Q → t σ H Q) : PW X e t' := ⟨fun wh pins s σ H Q I q => h.run wh pins s σ H Q I (k σ H Q q)⟩
theorem pa_imp {X : Cx} {es : List Expr} {t t' : TA} (h : PA X es t) (k : ∀ σ H Q, t' σ H Q → t σ H Q) : PA X es t' := ⟨fun pos pins s σ H Q I q => h.run pos pins s σ H Q I (k σ H Q q)⟩
theorem obind {α β : Type} {o : Option α} {f : α → Option β} {b : β} (h : o.bind f = some b) : ∃ a, o = some a ∧ f a = some b := Option.bind_eq_some_iff.mp h
theorem obind2 {α β γ : Type} {o : Option (α × γ)} {f : α × γ → Option β} {b : β} (h : o.bind f = some b) : ∃ a c, o = some (a, c) ∧ f (a, c) = some b := by
  obtain ⟨⟨a, c⟩, h1, h2⟩ := obind h
  exact ⟨a, c, h1, h2⟩

/-! ### names, constants -/
/-- a name as a value: what is ours is shared from here on -/
def mName (i : Nat) : MX := fun ρ => match ρ[i]? with
  | some (.sh u) => some (.val u, ρ)
  | some (.ow u) => some (.val u, ρ.set i (.sh u))
  | _ => none
/-- a name that is looked at -/
def mPeek (i : Nat) : MX := fun ρ => match ρ[i]? with
  | some (.sh u) => some (.val u, ρ)
  | some (.ow _) => some (.own i, ρ)
  | _ => none
def mC (u : U) : MX := fun ρ => some (.val u, ρ)
section
variable {X : Cx}
theorem x_of (i : Nat) {e : Expr} (h : PE X e (tVar i)) : EX X e (mName i) := by
  refine pe_imp h fun σ H Q q => ?_
  obtain ⟨as, Hs, Fz, ρ, tv, ρ', R, e, k⟩ := q
  unfold mName at e
  split at e
  · rename_i u hu
    cases e
    obtain ⟨v, h1, h2⟩ := R.sh i u hu
    exact ⟨v, h1, k v H Hs R (hle_refl _) h2⟩
  · rename_i u hu
    cases e
    obtain ⟨a, o, h1, h2, R', le, rp⟩ := R.share hu
    exact ⟨_, h1, k _ H _ R' le rp⟩
  · cases e
theorem xp_of (i : Nat) {e : Expr} (h : PE X e (tVar i)) : EX X e (mPeek i) := by
  refine pe_imp h fun σ H Q q => ?_
  obtain ⟨as, Hs, Fz, ρ, tv, ρ', R, e, k⟩ := q
  unfold mPeek at e
  split at e
  · rename_i u hu
    cases e
    obtain ⟨v, h1, h2⟩ := R.sh i u hu
    exact ⟨v, h1, k v H Hs R (hle_refl _) h2⟩
  · rename_i u hu
    cases e
    obtain ⟨a, h1, h2⟩ := R.ow i u hu
    exact ⟨_, h1, k _ H _ R (hle_refl _) h1⟩
  · cases e
theorem x_name (i : Nat) {x : Str} {pos : Pos} (hN : X.N[i]? = some x := by rfl) (hv : Vis X.env.scope x := by first | exact Or.inl rfl | exact Or.inr (Or.inl rfl) | exact Or.inr (Or.inr rfl)) (hd : (x == ("__debug__" : Str)) = false := by decide)
    (hcd : (x == ("__classdict__" : Str)) = false := by decide) : EX X (.Name x pos) (mName i) := x_of i (pe_var hN hv hd hcd)
theorem x_peek (i : Nat) {x : Str} {pos : Pos} (hN : X.N[i]? = some x := by rfl) (hv : Vis X.env.scope x := by first | exact Or.inl rfl | exact Or.inr (Or.inl rfl) | exact Or.inr (Or.inr rfl)) (hd : (x == ("__debug__" : Str)) = false := by decide)
    (hcd : (x == ("__classdict__" : Str)) = false := by decide) : EX X (.Name x pos) (mPeek i) := xp_of i (pe_var hN hv hd hcd)
theorem x_c {e : Expr} {v : V} {u : U} (h : PE X e (tC v)) (r : ∀ K H, Rp K H v u) : EX X e (mC u) := by
  refine pe_imp h fun σ H Q q => ?_
  obtain ⟨as, Hs, Fz, ρ, tv, ρ', R, e, k⟩ := q
  cases e
  exact k v H Hs R (hle_refl _) (r _ _)
end
end G

/-! Layer G, part 3: operators, comparisons, tests, displays. -/
namespace G
open PySem PySem.Spec PyProof.Rows L2
/-- what an operation on values hands on: a value as it stands, or a new tuple -/
def ResV (K : Kn) (Hs H : Hp) (z : U) (v : V) (H' : Hp) : Prop := (H' = H ∧ Rp K Hs v z) ∨ ∃ p vs ds o, H p = none ∧ v = .ref p ∧ z = .tuple ds ∧ H' = upd H p (.frz o (.tup vs)) ∧ o.dict = none ∧ Rps K Hs vs ds ∧ ds.length ≤ sizeLine
/-- .. or a new list, shared at once -/
def ResA (K : Kn) (Hs H : Hp) (z : U) (v : V) (H' : Hp) : Prop := ResV K Hs H z v H' ∨ ∃ p vs ds, H p = none ∧ v = .ref p ∧ z = .list ds ∧ H' = upd H p (.lst vs) ∧ Rps K Hs vs ds ∧ ds.length ≤ sizeLine
/-- .. a new list -/
def ResL (K : Kn) (Hs H : Hp) (z : U) (v : V) (H' : Hp) : Prop := ∃ p vs ds, H p = none ∧ v = .ref p ∧ z = .list ds ∧ H' = upd H p (.lst vs) ∧ Rps K Hs vs ds ∧ ds.length ≤ sizeLine
theorem ResV.end {K : Kn} {as : List (Nat × Addr)} {σ : L2.St} {H H' Hs Fz : Hp} {ρ : Rho} {v : V} {z : U} (R : Rel K as σ H Hs Fz ρ) (h : ResV K Hs H z v H') : ∃ Hs', Rel K as σ H' Hs' Fz ρ ∧ HLe Hs Hs' ∧ Rp K Hs' v z := by
  rcases h with ⟨rfl, r⟩ | ⟨p, vs, ds, o, hp, rfl, rfl, rfl, hd, r, l⟩
  · exact ⟨Hs, R, hle_refl _, r⟩
  · have le := hle_new (.frz o (.tup vs)) (hle_none R.s hp)
    exact ⟨_, R.layS _ hp, le, .tup (SqTs.of upd_same hd) (rps_mono le _ r) l⟩
theorem ResA.end {K : Kn} {as : List (Nat × Addr)} {σ : L2.St} {H H' Hs Fz : Hp} {ρ : Rho} {v : V} {z : U} (R : Rel K as σ H Hs Fz ρ) (h : ResA K Hs H z v H') : ∃ Hs', Rel K as σ H' Hs' Fz ρ ∧ HLe Hs Hs' ∧ Rp K Hs' v z := by
  rcases h with h | ⟨p, vs, ds, hp, rfl, rfl, rfl, r, l⟩
  · exact h.end R
  · have le := hle_new (.lst vs) (hle_none R.s hp)
    exact ⟨_, R.layS _ hp, le, .lst (SqL.of upd_same) (rps_mono le _ r) l⟩
theorem ResL.end {K : Kn} {as : List (Nat × Addr)} {σ : L2.St} {H H' Hs Fz : Hp} {ρ : Rho} {v : V} {z : U} (R : Rel K as σ H Hs Fz ρ) (h : ResL K Hs H z v H') : ∃ a, v = .ref a ∧ Rel K as σ H' Hs Fz ρ ∧ Fresh K Hs H' Fz σ ρ a z := by
  obtain ⟨p, vs, ds, hp, rfl, rfl, rfl, r, l⟩ := h
  refine ⟨p, rfl, R.lay _ hp, hle_none R.s hp, hle_none R.f hp, ⟨l, vs, upd_same, r⟩, fun i w e q => ?_⟩
  obtain ⟨a, h1, _, _, h4⟩ := R.ow i w e
  rw [q] at h1; cases h1
  obtain ⟨o, ho, _⟩ := h4.obj
  rw [hp] at ho; cases ho
/-- what is nobody's becomes shared -/
theorem Fresh.share {K : Kn} {as : List (Nat × Addr)} {σ : L2.St} {H Hs Fz : Hp} {ρ : Rho} {a : Addr} {u : U} (R : Rel K as σ H Hs Fz ρ) (h : Fresh K Hs H Fz σ ρ a u) : ∃ Hs', Rel K as σ H Hs' Fz ρ ∧ HLe Hs Hs' ∧ Rp K Hs' (.ref a) u := by
  obtain ⟨n1, n2, ho, no⟩ := h
  obtain ⟨o, e, r⟩ := ho.obj
  have le := hle_new o n1
  exact ⟨_, R.freeze e n1 n2 no, le, r.rp le upd_same⟩
def mSh (m : MF) : MX := fun ρ => (m ρ).bind fun p => some (.val p.1, p.2)
theorem fx_ex {X : Cx} {e : Expr} {m : MF} (h : FX X e m) : EX X e (mSh m) := by
  refine pe_imp h fun σ H Q q => ?_
  obtain ⟨as, Hs, Fz, ρ, tv, ρ', R, e, k⟩ := q
  obtain ⟨u, ρ1, e1, e2⟩ := obind2 e
  cases e2
  refine ⟨as, Hs, Fz, ρ, u, _, R, e1, fun a H' Hs' R' le fr => ?_⟩
  obtain ⟨Hs2, R2, le2, rp⟩ := fr.share R'
  exact k _ _ _ R2 (hle_trans le le2) rp

/-! ### by values -/
/-- a two-place reading gives g -/
def Gv (K : Kn) (Rs : Kn → Hp → Hp → U → V → Hp → Prop) (g : U → U → Option U) (r : R2) : Prop :=
  ∀ (Hs H : Hp) (x y : V) (u w z : U) (Q : VK), HLe Hs H → Rp2 K Hs H x u → Rp2 K Hs H y w → g u w = some z → (∀ v H', Rs K Hs H z v H' → Q v H') → r x y H Q
theorem Gv.a {K g r} (h : Gv K ResV g r) : Gv K ResA g r := fun Hs H x y u w z Q le rx ry e k => h Hs H x y u w z Q le rx ry e fun v H' q => k v H' (.inl q)
theorem Gv.la {K g r} (h : Gv K ResL g r) : Gv K ResA g r := fun Hs H x y u w z Q le rx ry e k => h Hs H x y u w z Q le rx ry e fun v H' q => k v H' (.inr q)
def OpG (X : Cx) (f : Value → Value → Sem Value) (g : U → U → Option U) : Prop := ∃ r : R2, OpR X f r ∧ Gv (kx X) ResV g r
/-- with lists as well -/
def OpA (X : Cx) (f : Value → Value → Sem Value) (g : U → U → Option U) : Prop := ∃ r : R2, OpR X f r ∧ Gv (kx X) ResA g r
def OpGL (X : Cx) (f : Value → Value → Sem Value) (g : U → U → Option U) : Prop := ∃ r : R2, OpR X f r ∧ Gv (kx X) ResL g r
def IxG (X : Cx) (g : U → U → Option U) : Prop := ∃ r : R2, IxR X r ∧ Gv (kx X) ResV g r
def orG (g g' : U → U → Option U) : U → U → Option U := fun u w => (g u w).or (g' u w)
theorem Gv.or {K Rs g g'} {r r' : R2} (h : Gv K Rs g r) (h' : Gv K Rs g' r') : Gv K Rs (orG g g') (fun x y H Q => r x y H Q ∨ r' x y H Q) := fun Hs H x y u w z Q le rx ry e k => by
  unfold orG at e
  cases q : g u w with
  | some z' => rw [q] at e; have e' : z' = z := Option.some.inj e; subst e'; exact .inl (h Hs H x y u w z' Q le rx ry q k)
  | none => rw [q] at e; exact .inr (h' Hs H x y u w z Q le rx ry e k)
theorem OpG.or {X f g g'} (h : OpG X f g) (h' : OpG X f g') : OpG X f (orG g g') := let ⟨_, a, b⟩ := h; let ⟨_, c, d⟩ := h'; ⟨_, a.or c, b.or d⟩
theorem OpG.a {X f g} (h : OpG X f g) : OpA X f g := let ⟨_, a, b⟩ := h; ⟨_, a, b.a⟩
theorem OpGL.a {X f g} (h : OpGL X f g) : OpA X f g := let ⟨_, a, b⟩ := h; ⟨_, a, b.la⟩
theorem OpA.or {X f g g'} (h : OpA X f g) (h' : OpA X f g') : OpA X f (orG g g') := let ⟨_, a, b⟩ := h; let ⟨_, c, d⟩ := h'; ⟨_, a.or c, b.or d⟩
theorem IxG.or {X g g'} (h : IxG X g) (h' : IxG X g') : IxG X (orG g g') := let ⟨_, a, b⟩ := h; let ⟨_, c, d⟩ := h'; ⟨_, a.or c, b.or d⟩
def mBin (g : U → U → Option U) (ma mb : MX) : MX := fun ρ => (ma ρ).bind fun p => (mb p.2).bind fun q => (deref q.2 p.1).bind fun u => (deref q.2 q.1).bind fun w => (g u w).bind fun z => some (.val z, q.2)
def mBinF (g : U → U → Option U) (ma mb : MX) : MF := fun ρ => (ma ρ).bind fun p => (mb p.2).bind fun q => (deref q.2 p.1).bind fun u => (deref q.2 q.1).bind fun w => (g u w).bind fun z => some (z, q.2)
section
variable {X : Cx} {a b c : Expr} {ma mb mc : MX} {g g' : U → U → Option U} {pos : Pos}
theorem rd_bin {K : Kn} {r : R2} (hr : Gv K ResA g r) (σ : L2.St) (H : Hp) (Q : VK) (h : tE K (mBin g ma mb) σ H Q) : tOp r (tE K ma) (tE K mb) σ H Q := by
  obtain ⟨as, Hs, Fz, ρ, tv, ρ', R, e, k⟩ := h
  obtain ⟨ta, ρ1, e1, e⟩ := obind2 e
  obtain ⟨tb, ρ2, e2, e⟩ := obind2 e
  obtain ⟨u, e3, e⟩ := obind e
  obtain ⟨w, e4, e⟩ := obind e
  obtain ⟨z, e5, e⟩ := obind e
  cases e
  refine ⟨as, Hs, Fz, ρ, ta, ρ1, R, e1, fun x H1 Hs1 R1 le1 rx => ⟨as, Hs1, Fz, ρ1, tb, _, R1, e2, fun y H2 Hs2 R2 le2 ry => ?_⟩⟩
  refine hr Hs2 H2 x y u w z Q R2.s (R2.look (rx.mono le2) e3) (R2.look ry e4) e5 fun v H' res => ?_
  obtain ⟨Hs3, R3, le3, rp⟩ := res.end R2
  exact k v H' Hs3 R3 (hle_trans le1 (hle_trans le2 le3)) rp
theorem rd_binF {K : Kn} {r : R2} (hr : Gv K ResL g r) (σ : L2.St) (H : Hp) (Q : VK) (h : tF K (mBinF g ma mb) σ H Q) : tOp r (tE K ma) (tE K mb) σ H Q := by
  obtain ⟨as, Hs, Fz, ρ, tv, ρ', R, e, k⟩ := h
  obtain ⟨ta, ρ1, e1, e⟩ := obind2 e
  obtain ⟨tb, ρ2, e2, e⟩ := obind2 e
  obtain ⟨u, e3, e⟩ := obind e
  obtain ⟨w, e4, e⟩ := obind e
  obtain ⟨z, e5, e⟩ := obind e
  cases e
  refine ⟨as, Hs, Fz, ρ, ta, ρ1, R, e1, fun x H1 Hs1 R1 le1 rx => ⟨as, Hs1, Fz, ρ1, tb, _, R1, e2, fun y H2 Hs2 R2 le2 ry => ?_⟩⟩
  refine hr Hs2 H2 x y u w _ Q R2.s (R2.look (rx.mono le2) e3) (R2.look ry e4) e5 fun v H' res => ?_
  obtain ⟨a, rfl, R3, fr⟩ := res.end R2
  exact k a H' Hs2 R3 (hle_trans le1 le2) fr
theorem x_opA {op : Operator} (ho : OpA X (binaryOp op) g) (ha : EX X a ma) (hb : EX X b mb) : EX X (.BinOp a op b pos) (mBin g ma mb) := by
  obtain ⟨r, h1, h2⟩ := ho
  exact pe_imp (pe_op h1 ha hb) (rd_bin h2)
theorem x_op {op : Operator} (ho : OpG X (binaryOp op) g) (ha : EX X a ma) (hb : EX X b mb) : EX X (.BinOp a op b pos) (mBin g ma mb) := by
  obtain ⟨r, h1, h2⟩ := ho
  exact pe_imp (pe_op h1 ha hb) (rd_bin h2.a)
theorem f_op {op : Operator} (ho : OpGL X (binaryOp op) g) (ha : EX X a ma) (hb : EX X b mb) : FX X (.BinOp a op b pos) (mBinF g ma mb) := by
  obtain ⟨r, h1, h2⟩ := ho
  exact pe_imp (pe_op h1 ha hb) (rd_binF h2)
theorem x_cmp {op : CmpOp} (ho : OpG X (compareOp op) g) (ha : EX X a ma) (hb : EX X b mb) (hm : behindInMarks op b = false := by first | exact nomark _ | rfl) : EX X (.Compare a [op] [b] pos) (mBin g ma mb) := by
  obtain ⟨r, h1, h2⟩ := ho
  exact pe_imp (pe_cmpR h1 ha hb hm) (rd_bin h2.a)
theorem x_ix (ho : IxG X g) (ha : EX X a ma) (hb : EX X b mb) (hs : PlainIx b := by exact fun _ _ => rfl) : EX X (.Subscript a b pos) (mBin g ma mb) := by
  obtain ⟨r, h1, h2⟩ := ho
  exact pe_imp (pe_ix h1 ha hb hs) (rd_bin h2.a)
/-! tests -/
def mTest (m : MX) : MB := fun ρ => (m ρ).bind fun p => match p.1 with
  | .val (.bool b) => some (b, p.2)
  | _ => none
theorem rd_test {K : Kn} {m : MX} (σ : L2.St) (H : Hp) (Q : Bool → Hp → Prop) (h : tT K (mTest m) σ H Q) : tTest (tE K m) σ H Q := by
  obtain ⟨as, Hs, Fz, ρ, tv, ρ', R, e, k⟩ := h
  obtain ⟨t1, ρ1, e1, e2⟩ := obind2 e
  refine ⟨as, Hs, Fz, ρ, t1, ρ1, R, e1, fun v H' Hs' R' le r => ?_⟩
  simp only at e2
  split at e2
  · rename_i b0
    cases e2
    have r' : Rp K Hs' v (.bool tv) := r
    cases r'
    exact ⟨tv, rfl, k H' Hs' R' le⟩
  · cases e2
theorem tTest_mono {t t' : TE} (h : ∀ σ H Q, t' σ H Q → t σ H Q) (σ : L2.St) (H : Hp) (Q : Bool → Hp → Prop) (q : tTest t' σ H Q) : tTest t σ H Q := h _ _ _ q
theorem t_cmp {op : CmpOp} (ho : OpG X (compareOp op) g) (ha : EX X a ma) (hb : EX X b mb) (hm : behindInMarks op b = false := by first | exact nomark _ | rfl) : TX X (.Compare a [op] [b] pos) (mTest (mBin g ma mb)) := by
  obtain ⟨r, h1, h2⟩ := ho
  exact pt_imp (pt_cmpR h1 ha hb hm) fun σ H Q q => tTest_mono (rd_bin h2.a) σ H Q (rd_test σ H Q q)
/-- any expression that gives a truth -/
theorem t_val {e : Expr} {m : MX} (h : EX X e m) (he : ∀ whole, isTrue e X.env whole = (do let v ← whole; standAt e.pos; holding [v] (truthy v)) := by intro _; rfl) : TX X e (mTest m) :=
  pt_imp (pt_val h he) fun σ H Q q => rd_test σ H Q q
/-- a op1 b op2 c -/
def mChain (g g' : U → U → Option U) (ma mb mc : MX) : MX := fun ρ => (ma ρ).bind fun p => (mb p.2).bind fun q => (deref q.2 p.1).bind fun u => (deref q.2 q.1).bind fun w => (g u w).bind fun z => match z with
  | .bool true => (mc q.2).bind fun s => (deref s.2 q.1).bind fun w => (deref s.2 s.1).bind fun w' => (g' w w').bind fun z' => some (.val z', s.2)
  | .bool false => some (.val (.bool false), q.2)
  | _ => none
theorem rd_chain {K : Kn} {r r' : R2} (hr : Gv K ResV g r) (hr' : Gv K ResV g' r') (σ : L2.St) (H : Hp) (Q : VK) (h : tE K (mChain g g' ma mb mc) σ H Q) : tChain r r' (tE K ma) (tE K mb) (tE K mc) σ H Q := by
  obtain ⟨as, Hs, Fz, ρ, tv, ρ', R, e, k⟩ := h
  obtain ⟨ta, ρ1, e1, e⟩ := obind2 e
  obtain ⟨tb, ρ2, e2, e⟩ := obind2 e
  obtain ⟨u, e3, e⟩ := obind e
  obtain ⟨w, e4, e⟩ := obind e
  obtain ⟨z, e5, e⟩ := obind e
  refine ⟨as, Hs, Fz, ρ, ta, ρ1, R, e1, fun x H1 Hs1 R1 le1 rx => ⟨as, Hs1, Fz, ρ1, tb, _, R1, e2, fun y H2 Hs2 R2 le2 ry => ?_⟩⟩
  refine hr Hs2 H2 x y u w z _ R2.s (R2.look (rx.mono le2) e3) (R2.look ry e4) e5 fun v H' res => ?_
  obtain ⟨Hs3, R3, le3, rp⟩ := res.end R2
  simp only at e
  split at e
  · cases rp
    obtain ⟨tc, ρ3, e6, e⟩ := obind2 e
    obtain ⟨w2, e7, e⟩ := obind e
    obtain ⟨w3, e8, e⟩ := obind e
    obtain ⟨z3, e9, e⟩ := obind e
    cases e
    refine ⟨true, rfl, ?_⟩
    rw [if_pos rfl]
    refine ⟨as, Hs3, Fz, ρ2, tc, _, R3, e6, fun c' H4 Hs4 R4 le4 rc => ?_⟩
    refine hr' Hs4 H4 y c' w2 w3 z3 Q R4.s (R4.look (ry.mono (hle_trans le3 le4)) e7) (R4.look rc e8) e9 fun v5 H5 res5 => ?_
    obtain ⟨Hs5, R5, le5, rp5⟩ := res5.end R4
    exact k v5 H5 Hs5 R5 (hle_trans le1 (hle_trans le2 (hle_trans le3 (hle_trans le4 le5)))) rp5
  · cases rp
    cases e
    refine ⟨false, rfl, ?_⟩
    rw [if_neg (by decide)]
    exact k _ _ _ R3 (hle_trans le1 (hle_trans le2 le3)) (.bl false)
  · cases e
theorem x_chain {op op' : CmpOp} (ho : OpG X (compareOp op) g) (ho' : OpG X (compareOp op') g') (ha : EX X a ma) (hb : EX X b mb) (hc : EX X c mc) (hm : lastMarks [op, op'] [b, c] = false := by with_unfolding_all rfl) : EX X (.Compare a [op, op'] [b, c] pos) (mChain g g' ma mb mc) := by
  obtain ⟨r, h1, h2⟩ := ho
  obtain ⟨r', h1', h2'⟩ := ho'
  exact pe_imp (pe_chain h1 h1' ha hb hc hm) (rd_chain h2 h2')
theorem t_chain {op op' : CmpOp} (ho : OpG X (compareOp op) g) (ho' : OpG X (compareOp op') g') (ha : EX X a ma) (hb : EX X b mb) (hc : EX X c mc) (hm : lastMarks [op, op'] [b, c] = false := by with_unfolding_all rfl) : TX X (.Compare a [op, op'] [b, c] pos) (mTest (mChain g g' ma mb mc)) := by
  obtain ⟨r, h1, h2⟩ := ho
  obtain ⟨r', h1', h2'⟩ := ho'
  exact pt_imp (pt_chain h1 h1' ha hb hc hm) fun σ H Q q => tTest_mono (rd_chain h2 h2') σ H Q (rd_test σ H Q q)
/-! and, or, not: tests -/
variable {t u : MB} {rest : List Expr}
def mAnd (t u : MB) : MB := fun ρ => (t ρ).bind fun p => if p.1 = true then u p.2 else some (false, p.2)
def mOr (t u : MB) : MB := fun ρ => (t ρ).bind fun p => if p.1 = true then some (true, p.2) else u p.2
def mNot (t : MB) : MB := fun ρ => (t ρ).bind fun p => some (!p.1, p.2)
theorem w_one_and (ha : TX X a t) : WX X (.BoolOp .And [a] pos) t := pw_and1 ha
theorem w_one_or (ha : TX X a t) : WX X (.BoolOp .Or [a] pos) t := pw_or1 ha
theorem w_and (ha : TX X a t) (hb : WX X (.BoolOp .And (b :: rest) pos) u) : WX X (.BoolOp .And (a :: b :: rest) pos) (mAnd t u) := by
  refine pw_imp (pw_and ha hb) fun σ H Q q => ?_
  obtain ⟨as, Hs, Fz, ρ, tv, ρ', R, e, k⟩ := q
  obtain ⟨b1, ρ1, e1, e⟩ := obind2 e
  refine ⟨as, Hs, Fz, ρ, b1, ρ1, R, e1, fun H1 Hs1 R1 le1 => ?_⟩
  cases b1 with
  | true =>
    rw [if_pos rfl]
    exact ⟨as, Hs1, Fz, ρ1, tv, ρ', R1, (by simpa using e), fun H2 Hs2 R2 le2 => k H2 Hs2 R2 (hle_trans le1 le2)⟩
  | false =>
    rw [if_neg (by decide)]
    simp at e
    obtain ⟨rfl, rfl⟩ := e
    exact k H1 Hs1 R1 le1
theorem w_or (ha : TX X a t) (hb : WX X (.BoolOp .Or (b :: rest) pos) u) : WX X (.BoolOp .Or (a :: b :: rest) pos) (mOr t u) := by
  refine pw_imp (pw_or ha hb) fun σ H Q q => ?_
  obtain ⟨as, Hs, Fz, ρ, tv, ρ', R, e, k⟩ := q
  obtain ⟨b1, ρ1, e1, e⟩ := obind2 e
  refine ⟨as, Hs, Fz, ρ, b1, ρ1, R, e1, fun H1 Hs1 R1 le1 => ?_⟩
  cases b1 with
  | true =>
    rw [if_pos rfl]
    simp at e
    obtain ⟨rfl, rfl⟩ := e
    exact k H1 Hs1 R1 le1
  | false =>
    rw [if_neg (by decide)]
    exact ⟨as, Hs1, Fz, ρ1, tv, ρ', R1, (by simpa using e), fun H2 Hs2 R2 le2 => k H2 Hs2 R2 (hle_trans le1 le2)⟩
theorem t_w {e : Expr} (h : WX X e t) : TX X e t := h.pt
theorem t_not (ha : TX X a t) : TX X (.UnaryOp .Not a pos) (mNot t) := by
  refine pt_imp (pt_not ha) fun σ H Q q => ?_
  obtain ⟨as, Hs, Fz, ρ, tv, ρ', R, e, k⟩ := q
  obtain ⟨b1, ρ1, e1, e⟩ := obind2 e
  cases e
  exact ⟨as, Hs, Fz, ρ, b1, ρ1, R, e1, fun H1 Hs1 R1 le1 => k H1 Hs1 R1 le1⟩
/-! as values -/
def mAndV (m n : MX) : MX := fun ρ => (mTest m ρ).bind fun p => if p.1 = true then n p.2 else some (.val (.bool false), p.2)
def mOrV (m n : MX) : MX := fun ρ => (mTest m ρ).bind fun p => if p.1 = true then some (.val (.bool true), p.2) else n p.2
def mNotV (m : MX) : MX := fun ρ => (mTest m ρ).bind fun p => some (.val (.bool (!p.1)), p.2)
theorem x_one {op} (ha : EX X a ma) : EX X (.BoolOp op [a] pos) ma := pe_one ha
theorem rd_testV {K : Kn} {m : MX} {as : List (Nat × Addr)} {σ : L2.St} {H Hs Fz : Hp} {ρ ρ1 : Rho} {b : Bool} (R : Rel K as σ H Hs Fz ρ) (e : mTest m ρ = some (b, ρ1)) {Q : VK}
    (k : ∀ H' Hs', Rel K as σ H' Hs' Fz ρ1 → HLe Hs Hs' → Q (.bl b) H') : tE K m σ H Q := by
  obtain ⟨t1, ρ2, e1, e2⟩ := obind2 e
  refine ⟨as, Hs, Fz, ρ, t1, ρ2, R, e1, fun v H' Hs' R' le r => ?_⟩
  simp only at e2
  split at e2
  · cases e2
    have r' : Rp K Hs' v (.bool b) := r
    cases r'
    exact k H' Hs' R' le
  · cases e2
theorem x_and (ha : EX X a ma) (hb : EX X (.BoolOp .And (b :: rest) pos) mb) : EX X (.BoolOp .And (a :: b :: rest) pos) (mAndV ma mb) := by
  refine pe_imp (pe_and ha hb) fun σ H Q q => ?_
  obtain ⟨as, Hs, Fz, ρ, tv, ρ', R, e, k⟩ := q
  obtain ⟨b1, ρ1, e1, e⟩ := obind2 e
  refine rd_testV R e1 fun H1 Hs1 R1 le1 => ⟨b1, rfl, ?_⟩
  cases b1 with
  | true =>
    rw [if_pos rfl]
    exact ⟨as, Hs1, Fz, ρ1, tv, ρ', R1, (by simpa using e), fun v H2 Hs2 R2 le2 r => k v H2 Hs2 R2 (hle_trans le1 le2) r⟩
  | false =>
    rw [if_neg (by decide)]
    simp at e
    obtain ⟨rfl, rfl⟩ := e
    exact k _ H1 Hs1 R1 le1 (.bl false)
theorem x_or (ha : EX X a ma) (hb : EX X (.BoolOp .Or (b :: rest) pos) mb) : EX X (.BoolOp .Or (a :: b :: rest) pos) (mOrV ma mb) := by
  refine pe_imp (pe_or ha hb) fun σ H Q q => ?_
  obtain ⟨as, Hs, Fz, ρ, tv, ρ', R, e, k⟩ := q
  obtain ⟨b1, ρ1, e1, e⟩ := obind2 e
  refine rd_testV R e1 fun H1 Hs1 R1 le1 => ⟨b1, rfl, ?_⟩
  cases b1 with
  | true =>
    rw [if_pos rfl]
    simp at e
    obtain ⟨rfl, rfl⟩ := e
    exact k _ H1 Hs1 R1 le1 (.bl true)
  | false =>
    rw [if_neg (by decide)]
    exact ⟨as, Hs1, Fz, ρ1, tv, ρ', R1, (by simpa using e), fun v H2 Hs2 R2 le2 r => k v H2 Hs2 R2 (hle_trans le1 le2) r⟩
theorem x_not (ha : EX X a ma) : EX X (.UnaryOp .Not a pos) (mNotV ma) := by
  refine pe_imp (pe_not ha) fun σ H Q q => ?_
  obtain ⟨as, Hs, Fz, ρ, tv, ρ', R, e, k⟩ := q
  obtain ⟨b1, ρ1, e1, e⟩ := obind2 e
  cases e
  exact rd_testV R e1 fun H1 Hs1 R1 le1 => ⟨b1, rfl, k _ H1 Hs1 R1 le1 (.bl _)⟩
/-- a if t else b -/
def mIf (t : MB) (ma mb : MX) : MX := fun ρ => (t ρ).bind fun p => if p.1 = true then ma p.2 else mb p.2
theorem x_if (hc : TX X c t) (ha : EX X a ma) (hb : EX X b mb) : EX X (.IfExp c a b pos) (mIf t ma mb) := by
  refine pe_imp (pe_ifExp hc ha hb) fun σ H Q q => ?_
  obtain ⟨as, Hs, Fz, ρ, tv, ρ', R, e, k⟩ := q
  obtain ⟨b1, ρ1, e1, e⟩ := obind2 e
  refine ⟨as, Hs, Fz, ρ, b1, ρ1, R, e1, fun H1 Hs1 R1 le1 => ?_⟩
  cases b1 with
  | true =>
    rw [if_pos rfl]
    exact ⟨as, Hs1, Fz, ρ1, tv, ρ', R1, (by simpa using e), fun v H2 Hs2 R2 le2 r => k v H2 Hs2 R2 (hle_trans le1 le2) r⟩
  | false =>
    rw [if_neg (by decide)]
    exact ⟨as, Hs1, Fz, ρ1, tv, ρ', R1, (by simpa using e), fun v H2 Hs2 R2 le2 r => k v H2 Hs2 R2 (hle_trans le1 le2) r⟩
/-! argument lists, displays -/
variable {es : List Expr} {m : MX} {ms : MA}
def mNil : MA := fun ρ => some ([], ρ)
def mCons (m : MX) (ms : MA) : MA := fun ρ => (m ρ).bind fun p => (ms p.2).bind fun q => some (p.1 :: q.1, q.2)
theorem a_nil : AX X [] mNil := by
  refine pa_imp pa_nil fun σ H Q q => ?_
  obtain ⟨as, Hs, Fz, ρ, tv, ρ', R, e, k⟩ := q
  cases e
  exact k [] H Hs R (hle_refl _) .nil
theorem rts_mono {K : Kn} {Hs Hs' : Hp} {σ : L2.St} (le : HLe Hs Hs') {tvs : List TV} {vs : List V} (h : Paired (fun tv v => RT K Hs σ tv v) tvs vs) : Paired (fun tv v => RT K Hs' σ tv v) tvs vs := by
  induction h with
  | nil => exact .nil
  | cons r _ ih => exact .cons (r.mono le) ih
theorem a_cons {e : Expr} (he : EX X e m) (hr : AX X es ms) (hs : starEach (e :: es) X.env = (false, eval e X.env) :: starEach es X.env := by rfl) : AX X (e :: es) (mCons m ms) := by
  refine pa_imp (pa_cons he hr hs) fun σ H Q q => ?_
  obtain ⟨as, Hs, Fz, ρ, tv, ρ', R, e, k⟩ := q
  obtain ⟨t1, ρ1, e1, e⟩ := obind2 e
  obtain ⟨ts, ρ2, e2, e⟩ := obind2 e
  cases e
  exact ⟨as, Hs, Fz, ρ, t1, ρ1, R, e1, fun v H1 Hs1 R1 le1 r1 => ⟨as, Hs1, Fz, ρ1, ts, _, R1, e2, fun vs H2 Hs2 R2 le2 r2 => k (v :: vs) H2 Hs2 R2 (hle_trans le1 le2) (.cons (r1.mono le2) r2)⟩⟩
/-- data alone -/
def vals : List TV → Option (List U)
  | [] => some []
  | .val u :: r => (vals r).bind fun us => some (u :: us)
  | .own _ :: _ => none
theorem vals_rps {K : Kn} {Hs : Hp} {σ : L2.St} : ∀ {tvs : List TV} {vs : List V} {us : List U}, Paired (fun tv v => RT K Hs σ tv v) tvs vs → vals tvs = some us → Rps K Hs vs us
  | [], _, us, h, e => by cases h; cases e; exact .nil
  | .val u :: r, _, us, h, e => by
    cases h with | cons r1 t =>
    obtain ⟨us', e1, e2⟩ := obind e
    cases e2
    exact .cons r1 (vals_rps t e1)
  | .own _ :: _, _, _, _, e => by cases e
def mTup (ms : MA) : MX := fun ρ => (ms ρ).bind fun p => (vals p.1).bind fun us => if us.length ≤ sizeLine then some (.val (.tuple us), p.2) else none
def mLst (ms : MA) : MF := fun ρ => (ms ρ).bind fun p => (vals p.1).bind fun us => if us.length ≤ sizeLine then some (.list us, p.2) else none
/-- a tuple display: the object is known -/
def tTupD (t : TA) : TE := fun σ H Q => t σ H fun xs H1 => xs.length ≤ sizeLine ∧ ∀ p o, o.dict = none → H1 p = none → Q (.ref p) (upd H1 p (.frz o (.tup xs)))
theorem pe_tupD {t : TA} {x1} (h : PA X es t) : PE X (.Tuple es x1 pos) (tTupD t) := by
  refine ⟨fun pins s σ H Q I hq => ?_⟩
  refine wpAny_Tuple_spliced (thn (h.run pos pins s σ H _ I hq) fun us s1 ⟨xs, H1, I1, r, z, q⟩ => ⟨by rw [← r.length]; exact z, ?_⟩)
  have hf : H1 s1.heap.objs.size = none := I1.hok.fresh (Nat.le_refl _)
  have hg := Heap.get?_push_size s1.heap (o := { cls := .type "tuple", data := .seq us.toArray }) rfl
  refine ⟨.ref s1.heap.objs.size, upd H1 s1.heap.objs.size (.frz { cls := .type "tuple", data := .seq us.toArray } (.tup xs)), I1.laid (t' := s1.toks) (fun b u e => Heap.get?_push_of_some _ e) (Nat.le_refl _) ?_, rfl, q _ _ rfl hf⟩
  exact ⟨hg, z, us, r, ⟨_, hg, rfl, _, rfl⟩⟩
theorem x_tup {x1} (h : AX X es ms) : EX X (.Tuple es x1 pos) (mTup ms) := by
  refine pe_imp (pe_tupD h) fun σ H Q q => ?_
  obtain ⟨as, Hs, Fz, ρ, tv, ρ', R, e, k⟩ := q
  obtain ⟨ts, ρ1, e1, e⟩ := obind2 e
  obtain ⟨us, e2, e⟩ := obind e
  split at e
  · rename_i hl
    cases e
    refine ⟨as, Hs, Fz, ρ, ts, _, R, e1, fun vs H1 Hs1 R1 le1 r1 => ?_⟩
    have r2 := vals_rps r1 e2
    refine ⟨by rw [Paired.len r2]; exact hl, fun p o hd hp => ?_⟩
    obtain ⟨Hs3, R3, le3, rp⟩ := ResV.end R1 (.inr ⟨p, vs, us, o, hp, rfl, rfl, rfl, hd, r2, hl⟩)
    exact k _ _ Hs3 R3 (hle_trans le1 le3) rp
  · cases e
theorem f_lst (h : AX X es ms) : FX X (.List es pos) (mLst ms) := by
  refine pe_imp (pe_lst h) fun σ H Q q => ?_
  obtain ⟨as, Hs, Fz, ρ, tv, ρ', R, e, k⟩ := q
  obtain ⟨ts, ρ1, e1, e⟩ := obind2 e
  obtain ⟨us, e2, e⟩ := obind e
  split at e
  · rename_i hl
    cases e
    refine ⟨as, Hs, Fz, ρ, ts, _, R, e1, fun vs H1 Hs1 R1 le1 r1 => ?_⟩
    have r2 := vals_rps r1 e2
    refine ⟨by rw [Paired.len r2]; exact hl, fun p hp => ?_⟩
    obtain ⟨a, ea, R3, fr⟩ := ResL.end R1 ⟨p, vs, us, hp, rfl, rfl, rfl, r2, hl⟩
    cases ea
    exact k _ _ _ R3 le1 fr
  · cases e
end
end G

/-! Layer G, part 4: defs and their calls. -/
namespace G
open PySem PySem.Spec PyProof.Rows L2
/-- a def's mirror: the arguments' data; the answer, and what the arguments that are handed back hold behind it -/
abbrev FM := List U → Option (U × List U)
def enOf (b : Bool) (u : U) : En := if b = true then .ow u else .sh u
def argsRho : List Bool → List U → Rho
  | b :: bs, u :: us => enOf b u :: argsRho bs us
  | _, _ => []
def RetV (K : Kn) (fr : Bool) (Hs H Fz : Hp) (σ : L2.St) (ρ : Rho) (v : V) (u : U) : Prop := if fr = true then ∃ a, v = .ref a ∧ Fresh K Hs H Fz σ ρ a u else Rp K Hs v u
def spOf (K : Kn) (mask : List Bool) (fr : Bool) (m : FM) : Sp := fun vs H Q _ => vs.length = mask.length ∧ ∃ Hs Fz us r us', us.length = mask.length ∧ Rel K [] (vs.map some) H Hs Fz (argsRho mask us) ∧ m us = some (r, us') ∧
  ∀ v H' Hs', Rel K [] (vs.map some) H' Hs' Fz (argsRho mask us') → HLe Hs Hs' → RetV K fr Hs' H' Fz (vs.map some) (argsRho mask us') v r → Q v H'
theorem argsRho_get : ∀ {bs : List Bool} {us : List U} {i : Nat} {e : En}, (argsRho bs us)[i]? = some e → ∃ b u, bs[i]? = some b ∧ us[i]? = some u ∧ e = enOf b u
  | b :: bs, u :: us, 0, e, h => by simp [argsRho] at h; exact ⟨b, u, rfl, rfl, h.symm⟩
  | b :: bs, u :: us, i + 1, e, h => by simp [argsRho] at h; obtain ⟨b', u', h1, h2, h3⟩ := argsRho_get h; exact ⟨b', u', by simpa using h1, by simpa using h2, h3⟩
  | [], us, i, e, h => by simp [argsRho] at h
  | _ :: _, [], i, e, h => by simp [argsRho] at h
theorem argsRho_at : ∀ {bs : List Bool} {us : List U} {i : Nat} {b : Bool} {u : U}, bs[i]? = some b → us[i]? = some u → (argsRho bs us)[i]? = some (enOf b u)
  | b :: bs, u :: us, 0, _, _, h1, h2 => by simp at h1 h2; subst h1; subst h2; rfl
  | b :: bs, u :: us, i + 1, _, _, h1, h2 => by simp at h1 h2; simp [argsRho]; exact argsRho_at h1 h2
  | [], us, i, _, _, h1, _ => by simp at h1
  | _ :: _, [], i, _, _, _, h2 => by simp at h2
theorem argsRho_len : ∀ {bs : List Bool} {us : List U}, us.length = bs.length → (argsRho bs us).length = bs.length
  | [], [], _ => rfl
  | b :: bs, u :: us, h => by simp [argsRho]; exact argsRho_len (by simpa using h)
  | [], _ :: _, h => by simp at h
  | _ :: _, [], h => by simp at h
theorem argsRho_len2 : ∀ {bs : List Bool} {us : List U}, (argsRho bs us).length = bs.length → bs.length ≤ us.length
  | [], _, _ => Nat.zero_le _
  | b :: bs, u :: us, h => by simp [argsRho] at h ⊢; exact argsRho_len2 h
  | _ :: _, [], h => by simp [argsRho] at h
theorem enOf_ow {b : Bool} {u w : U} (h : En.ow w = enOf b u) : b = true ∧ w = u := by
  cases b <;> simp [enOf] at h ⊢
  exact h
theorem enOf_sh {b : Bool} {u w : U} (h : En.sh w = enOf b u) : b = false ∧ w = u := by
  cases b <;> simp [enOf] at h ⊢
  exact h
theorem enOf_no {b : Bool} {u : U} (h : En.no = enOf b u) : False := by
  cases b <;> simp [enOf] at h

/-! ### calls -/
def ownIx : List TV → List Nat
  | [] => []
  | .own i :: r => i :: ownIx r
  | .val _ :: r => ownIx r
def argOk (ρ : Rho) : List Bool → List TV → Option (List U)
  | [], [] => some []
  | true :: bs, .own i :: ts => match ρ[i]? with
    | some (.ow u) => (argOk ρ bs ts).bind fun us => some (u :: us)
    | _ => none
  | false :: bs, .val u :: ts => (argOk ρ bs ts).bind fun us => some (u :: us)
  | _, _ => none
def wb : List TV → List U → Rho → Rho
  | .own i :: ts, u :: us, ρ => wb ts us (ρ.set i (.ow u))
  | .val _ :: ts, _ :: us, ρ => wb ts us ρ
  | _, _, ρ => ρ
def mCall (mask : List Bool) (m : FM) (ms : MA) : MX := fun ρ => (ms ρ).bind fun p => if (ownIx p.1).Nodup then (argOk p.2 mask p.1).bind fun us => (m us).bind fun r => some (.val r.1, wb p.1 r.2 p.2) else none
def mCallF (mask : List Bool) (m : FM) (ms : MA) : MF := fun ρ => (ms ρ).bind fun p => if (ownIx p.1).Nodup then (argOk p.2 mask p.1).bind fun us => (m us).bind fun r => some (r.1, wb p.1 r.2 p.2) else none
theorem argOk_len {ρ : Rho} : ∀ {bs : List Bool} {ts : List TV} {us : List U}, argOk ρ bs ts = some us → ts.length = bs.length ∧ us.length = bs.length
  | [], [], us, h => by cases h; exact ⟨rfl, rfl⟩
  | true :: bs, .own i :: ts, us, h => by
    unfold argOk at h
    split at h
    · obtain ⟨us', h1, h2⟩ := obind h
      cases h2
      have q := argOk_len h1
      simp [q.1, q.2]
    · cases h
  | false :: bs, .val u :: ts, us, h => by
    unfold argOk at h
    obtain ⟨us', h1, h2⟩ := obind h
    cases h2
    have q := argOk_len h1
    simp [q.1, q.2]
  | [], _ :: _, _, h => by simp [argOk] at h
  | true :: _, [], _, h => by simp [argOk] at h
  | false :: _, [], _, h => by simp [argOk] at h
  | true :: _, .val _ :: _, _, h => by simp [argOk] at h
  | false :: _, .own _ :: _, _, h => by simp [argOk] at h
theorem argOk_get {ρ : Rho} : ∀ {bs : List Bool} {ts : List TV} {us : List U}, argOk ρ bs ts = some us → ∀ (j : Nat) (b : Bool) (t : TV) (u : U), bs[j]? = some b → ts[j]? = some t → us[j]? = some u →
    (b = true ∧ ∃ i, t = .own i ∧ ρ[i]? = some (En.ow u)) ∨ (b = false ∧ t = .val u)
  | [], [], us, h => by intro j b t u h1; simp at h1
  | true :: bs, .own i :: ts, us, h => by
    unfold argOk at h
    split at h
    · rename_i w hw
      obtain ⟨us', h1, h2⟩ := obind h
      cases h2
      intro j b t u g1 g2 g3
      cases j with
      | zero => simp at g1 g2 g3; subst g1; subst g2; subst g3; exact .inl ⟨rfl, i, rfl, hw⟩
      | succ j => exact argOk_get h1 j b t u (by simpa using g1) (by simpa using g2) (by simpa using g3)
    · cases h
  | false :: bs, .val w :: ts, us, h => by
    unfold argOk at h
    obtain ⟨us', h1, h2⟩ := obind h
    cases h2
    intro j b t u g1 g2 g3
    cases j with
    | zero => simp at g1 g2 g3; subst g1; subst g2; subst g3; exact .inr ⟨rfl, rfl⟩
    | succ j => exact argOk_get h1 j b t u (by simpa using g1) (by simpa using g2) (by simpa using g3)
  | [], _ :: _, _, h => by simp [argOk] at h
  | true :: _, [], _, h => by simp [argOk] at h
  | false :: _, [], _, h => by simp [argOk] at h
  | true :: _, .val _ :: _, _, h => by simp [argOk] at h
  | false :: _, .own _ :: _, _, h => by simp [argOk] at h
theorem mem_ownIx : ∀ {ts : List TV} {i : Nat}, i ∈ ownIx ts ↔ ∃ j : Nat, ts[j]? = some (TV.own i)
  | [], i => by simp [ownIx]
  | .own k :: r, i => by
    simp only [ownIx, List.mem_cons, mem_ownIx (ts := r)]
    constructor
    · rintro (rfl | ⟨j, h⟩)
      · exact ⟨0, rfl⟩
      · exact ⟨j + 1, by simpa using h⟩
    · rintro ⟨j, h⟩
      cases j with
      | zero => simp at h; exact .inl h.symm
      | succ j => exact .inr ⟨j, by simpa using h⟩
  | .val u :: r, i => by
    simp only [ownIx, mem_ownIx (ts := r)]
    constructor
    · rintro ⟨j, h⟩; exact ⟨j + 1, by simpa using h⟩
    · rintro ⟨j, h⟩
      cases j with
      | zero => simp at h
      | succ j => exact ⟨j, by simpa using h⟩
theorem wb_len : ∀ (ts : List TV) (us : List U) (ρ : Rho), (wb ts us ρ).length = ρ.length
  | .own i :: ts, u :: us, ρ => by unfold wb; rw [wb_len]; exact List.length_set
  | .val _ :: ts, _ :: us, ρ => by unfold wb; rw [wb_len]
  | [], _, ρ => by unfold wb; rfl
  | .own _ :: _, [], ρ => by unfold wb; rfl
  | .val _ :: _, [], ρ => by unfold wb; rfl
theorem wb_out : ∀ {ts : List TV} {us : List U} {ρ : Rho} {i : Nat}, i ∉ ownIx ts → (wb ts us ρ)[i]? = ρ[i]?
  | .own k :: ts, u :: us, ρ, i, h => by
    unfold wb
    simp only [ownIx, List.mem_cons, not_or] at h
    rw [wb_out h.2, List.getElem?_set_ne (Ne.symm h.1)]
  | .val _ :: ts, _ :: us, ρ, i, h => by unfold wb; exact wb_out h
  | [], _, ρ, i, _ => by unfold wb; rfl
  | .own _ :: _, [], ρ, i, _ => by unfold wb; rfl
  | .val _ :: _, [], ρ, i, _ => by unfold wb; rfl
theorem wb_in : ∀ {ts : List TV} {us : List U} {ρ : Rho} {i j : Nat} {u : U}, (ownIx ts).Nodup → ts[j]? = some (TV.own i) → us[j]? = some u → i < ρ.length → (wb ts us ρ)[i]? = some (En.ow u)
  | .own k :: ts, w :: us, ρ, i, 0, u, hn, h1, h2, hl => by
    simp at h1 h2
    subst h1; subst h2
    unfold wb
    simp only [ownIx, List.nodup_cons] at hn
    rw [wb_out hn.1, List.getElem?_set_self hl]
  | .own k :: ts, w :: us, ρ, i, j + 1, u, hn, h1, h2, hl => by
    unfold wb
    simp only [ownIx, List.nodup_cons] at hn
    exact wb_in hn.2 (by simpa using h1) (by simpa using h2) (by rw [List.length_set]; exact hl)
  | .val _ :: ts, _ :: us, ρ, i, 0, u, hn, h1, h2, hl => by simp at h1
  | .val _ :: ts, _ :: us, ρ, i, j + 1, u, hn, h1, h2, hl => by
    unfold wb
    exact wb_in hn (by simpa using h1) (by simpa using h2) hl
  | [], _, ρ, i, j, u, hn, h1, h2, hl => by simp at h1
  | _ :: _, [], ρ, i, j, u, hn, h1, h2, hl => by simp at h2
theorem own_inj : ∀ {ts : List TV} {i j k : Nat}, (ownIx ts).Nodup → ts[j]? = some (TV.own i) → ts[k]? = some (TV.own i) → j = k
  | t :: ts, i, 0, 0, _, _, _ => rfl
  | t :: ts, i, 0, k + 1, hn, h1, h2 => by
    simp at h1 h2; subst h1
    simp only [ownIx, List.nodup_cons] at hn
    exact absurd (mem_ownIx.mpr ⟨k, h2⟩) hn.1
  | t :: ts, i, j + 1, 0, hn, h1, h2 => by
    simp at h1 h2; subst h2
    simp only [ownIx, List.nodup_cons] at hn
    exact absurd (mem_ownIx.mpr ⟨j, h1⟩) hn.1
  | t :: ts, i, j + 1, k + 1, hn, h1, h2 => by
    simp at h1 h2
    have hn' : (ownIx ts).Nodup := by
      cases t with
      | val _ => exact hn
      | own _ => simp only [ownIx, List.nodup_cons] at hn; exact hn.2
    rw [own_inj hn' h1 h2]
  | [], i, j, k, _, h1, _ => by simp at h1
section
variable {K : Kn} {as : List (Nat × Addr)} {σ : L2.St} {H Hs Fz : Hp} {ρ : Rho} {mask : List Bool} {tvs : List TV} {vs : List V} {us : List U}
theorem paired_len {α β : Type} {G : α → β → Prop} {l₁ : List α} {l₂ : List β} (h : Paired G l₁ l₂) : l₁.length = l₂.length := _root_.PySem.Paired.length h
theorem paired_fst {α β : Type} {G : α → β → Prop} {l₁ : List α} {l₂ : List β} (h : Paired G l₁ l₂) {i : Nat} {a : α} (e : l₁[i]? = some a) : ∃ b, l₂[i]? = some b ∧ G a b := L2.paired_get h e
/-- the addresses of the arguments that are handed back -/
def handed (σ : L2.St) (tvs : List TV) (a : Addr) : Prop := ∃ i, i ∈ ownIx tvs ∧ σ[i]? = some (some (V.ref a))
open Classical in
/-- what a callee has to leave as it is -/
noncomputable def fzOf (H Hs : Hp) (P : Addr → Prop) : Hp := fun b => if (Hs b).isSome = true ∨ P b then none else H b
theorem fzOf_some {H Hs : Hp} {P : Addr → Prop} {b : Addr} {o : HO} (h : fzOf H Hs P b = some o) : Hs b = none ∧ ¬ P b ∧ H b = some o := by
  unfold fzOf at h
  split at h
  · cases h
  · rename_i n
    refine ⟨?_, fun p => n (.inr p), h⟩
    cases q : Hs b with
    | none => rfl
    | some x => exact absurd (.inl (by rw [q]; rfl)) n
theorem fzOf_mk {H Hs : Hp} {P : Addr → Prop} {b : Addr} {o : HO} (h1 : Hs b = none) (h2 : ¬ P b) (h3 : H b = some o) : fzOf H Hs P b = some o := by
  unfold fzOf
  rw [if_neg]
  · exact h3
  · rintro (h | h)
    · rw [h1] at h; cases h
    · exact h2 h
/-- at the callee's entry -/
theorem Rel.enter (R : Rel K as σ H Hs Fz ρ) (nd : (ownIx tvs).Nodup) (ha : argOk ρ mask tvs = some us) (r : Paired (fun tv v => RT K Hs σ tv v) tvs vs) :
    vs.length = mask.length ∧ us.length = mask.length ∧ Rel K [] (vs.map some) H Hs (fzOf H Hs (handed σ tvs)) (argsRho mask us) := by
  obtain ⟨l1, l2⟩ := argOk_len ha
  have l3 := paired_len r
  -- what stands at each place
  have at' : ∀ {j : Nat} {e : En}, (argsRho mask us)[j]? = some e → ∃ (b : Bool) (u : U) (t : TV) (v : V), mask[j]? = some b ∧ us[j]? = some u ∧ e = enOf b u ∧ tvs[j]? = some t ∧ vs[j]? = some v ∧ RT K Hs σ t v := fun {j e} h => by
    obtain ⟨b, u, h1, h2, h3⟩ := argsRho_get h
    have hj : j < mask.length := (List.getElem?_eq_some_iff.mp h1).1
    have hj' : j < tvs.length := by omega
    obtain ⟨v, h4, h5⟩ := paired_fst r (List.getElem?_eq_getElem hj')
    exact ⟨b, u, _, v, h1, h2, h3, List.getElem?_eq_getElem hj', h4, h5⟩
  refine ⟨by omega, l2, by rw [List.length_map, argsRho_len l2]; omega, R.s, fun b o h => (fzOf_some h).2.2, fun b o h => (fzOf_some h).1, fun j u h => ?_, fun j u h => ?_, fun j k u w a h1 h2 h3 h4 => ?_, fun p hp => by cases hp⟩
  · obtain ⟨b, u', t, v, g1, g2, g3, g4, g5, g6⟩ := at' h
    obtain ⟨rfl, rfl⟩ := enOf_sh g3
    refine ⟨v, by rw [List.getElem?_map, g5]; rfl, ?_⟩
    rcases argOk_get ha _ _ _ _ g1 g4 g2 with ⟨z, _⟩ | ⟨_, rfl⟩
    · cases z
    · exact g6
  · obtain ⟨b, u', t, v, g1, g2, g3, g4, g5, g6⟩ := at' h
    obtain ⟨rfl, rfl⟩ := enOf_ow g3
    rcases argOk_get ha _ _ _ _ g1 g4 g2 with ⟨_, i, rfl, hi⟩ | ⟨z, _⟩
    · obtain ⟨a, q1, q2, q3, q4⟩ := R.ow i u hi
      have g6' : σ[i]? = some (some v) := g6
      rw [q1] at g6'
      have ev : v = V.ref a := by simpa using g6'.symm
      subst ev
      refine ⟨a, by rw [List.getElem?_map, g5]; rfl, q2, ?_, q4⟩
      unfold fzOf
      rw [if_pos (.inr ⟨i, mem_ownIx.mpr ⟨j, g4⟩, q1⟩)]
    · cases z
  · obtain ⟨b, u', t, v, g1, g2, g3, g4, g5, g6⟩ := at' h1
    obtain ⟨rfl, rfl⟩ := enOf_ow g3
    obtain ⟨b', u'', t', v', g1', g2', g3', g4', g5', g6'⟩ := at' h2
    obtain ⟨rfl, rfl⟩ := enOf_ow g3'
    rw [List.getElem?_map, g5] at h3
    rw [List.getElem?_map, g5'] at h4
    have e3 : v = V.ref a := by simpa using h3
    have e4 : v' = V.ref a := by simpa using h4
    subst e3; subst e4
    rcases argOk_get ha _ _ _ _ g1 g4 g2 with ⟨_, i, rfl, hi⟩ | ⟨z, _⟩
    · rcases argOk_get ha _ _ _ _ g1' g4' g2' with ⟨_, i', rfl, hi'⟩ | ⟨z, _⟩
      · have e := R.inj i i' _ _ a hi hi' g6 g6'
        subst e
        exact own_inj nd g4 g4'
      · cases z
    · cases z
/-- behind the call -/
theorem Rel.leave {H' Hs' : Hp} {us' : List U} (R : Rel K as σ H Hs Fz ρ) (nd : (ownIx tvs).Nodup) (ha : argOk ρ mask tvs = some us) (r : Paired (fun tv v => RT K Hs σ tv v) tvs vs) (le : HLe Hs Hs')
    (R' : Rel K [] (vs.map some) H' Hs' (fzOf H Hs (handed σ tvs)) (argsRho mask us')) : Rel K as σ H' Hs' Fz (wb tvs us' ρ) ∧
      (∀ b o, H b = some o → Hs b = none → ¬ handed σ tvs b → fzOf H Hs (handed σ tvs) b = some o) ∧ HLe Fz (fzOf H Hs (handed σ tvs)) := by
  obtain ⟨l1, l2⟩ := argOk_len ha
  have l3 := paired_len r
  have l4 : mask.length ≤ us'.length := argsRho_len2 (by have := R'.len; rw [List.length_map] at this; omega)
  have fz : ∀ b o, H b = some o → Hs b = none → ¬ handed σ tvs b → fzOf H Hs (handed σ tvs) b = some o := fun b o h1 h2 h3 => fzOf_mk h2 h3 h1
  have fle : HLe Fz (fzOf H Hs (handed σ tvs)) := fun b o e => by
    refine fz b o (R.f b o e) (R.d b o e) fun ⟨i, hi, q⟩ => ?_
    obtain ⟨j, hj⟩ := mem_ownIx.mp hi
    have hj1 : j < tvs.length := (List.getElem?_eq_some_iff.mp hj).1
    have hb : mask[j]? = some mask[j] := List.getElem?_eq_getElem (by omega)
    have hu : us[j]? = some us[j] := List.getElem?_eq_getElem (by omega)
    rcases argOk_get ha _ _ _ _ hb hj hu with ⟨_, i', e1, hi'⟩ | ⟨_, e1⟩
    · cases e1
      obtain ⟨a, q1, q2, q3, q4⟩ := R.ow i _ hi'
      rw [q] at q1; cases q1
      rw [e] at q3; cases q3
    · cases e1
  -- a slot whose object is handed back
  have slot : ∀ {i : Nat}, i ∈ ownIx tvs → ∃ (j : Nat) (u' : U) (a : Addr) (w : U), tvs[j]? = some (TV.own i) ∧ us'[j]? = some u' ∧ ρ[i]? = some (En.ow w) ∧ σ[i]? = some (some (V.ref a)) ∧ (argsRho mask us')[j]? = some (En.ow u') ∧ (vs.map some)[j]? = some (some (V.ref a)) := fun {i} hi => by
    obtain ⟨j, hj⟩ := mem_ownIx.mp hi
    have hj1 : j < tvs.length := (List.getElem?_eq_some_iff.mp hj).1
    have hb : mask[j]? = some mask[j] := List.getElem?_eq_getElem (by omega)
    have hu : us[j]? = some us[j] := List.getElem?_eq_getElem (by omega)
    have hu' : us'[j]? = some us'[j] := List.getElem?_eq_getElem (by omega)
    rcases argOk_get ha _ _ _ _ hb hj hu with ⟨eb, i', e1, hi'⟩ | ⟨_, e1⟩
    · cases e1
      obtain ⟨a, q1, q2, q3, q4⟩ := R.ow i _ hi'
      obtain ⟨v, h4, h5⟩ := paired_fst r hj
      have h5' : σ[i]? = some (some v) := h5
      rw [q1] at h5'
      have ev : v = V.ref a := by simpa using h5'.symm
      subst ev
      refine ⟨j, _, a, _, hj, hu', hi', q1, ?_, by rw [List.getElem?_map, h4]; rfl⟩
      have := argsRho_at hb hu'
      rw [this, eb]; rfl
    · cases e1
  have ent : ∀ {i : Nat} {e : En}, (wb tvs us' ρ)[i]? = some e → (i ∉ ownIx tvs ∧ ρ[i]? = some e) ∨ (i ∈ ownIx tvs ∧ ∃ u', e = En.ow u') := fun {i e} h => by
    by_cases hi : i ∈ ownIx tvs
    · obtain ⟨j, u', a, w, g1, g2, g3, _⟩ := slot hi
      have := wb_in (ρ := ρ) nd g1 g2 (List.getElem?_eq_some_iff.mp g3).1
      rw [this] at h
      exact .inr ⟨hi, u', (Option.some.inj h).symm⟩
    · rw [wb_out hi] at h; exact .inl ⟨hi, h⟩
  refine ⟨⟨by rw [wb_len]; exact R.len, R'.s, hle_trans fle R'.f, fun b o e => R'.d b o (fle b o e), fun i u h => ?_, fun i u h => ?_, fun i k u w a h1 h2 h3 h4 => ?_, R.io⟩, fz, fle⟩
  · rcases ent h with ⟨_, h⟩ | ⟨_, u', h⟩
    · obtain ⟨v, h1, h2⟩ := R.sh i u h
      exact ⟨v, h1, rp_mono le _ h2⟩
    · cases h
  · by_cases hi : i ∈ ownIx tvs
    · obtain ⟨j, u', a, w, g1, g2, g3, g4, g5, g6⟩ := slot hi
      have := wb_in (ρ := ρ) nd g1 g2 (List.getElem?_eq_some_iff.mp g3).1
      rw [this] at h; cases h
      obtain ⟨a', q1, q2, q3, q4⟩ := R'.ow j u g5
      rw [g6] at q1; cases q1
      obtain ⟨a'', z1, z2, z3, z4⟩ := R.ow i w g3
      rw [g4] at z1; cases z1
      exact ⟨a, g4, q2, z3, q4⟩
    · rw [wb_out hi] at h
      obtain ⟨a, q1, q2, q3, q4⟩ := R.ow i u h
      obtain ⟨o, ho, hr⟩ := q4.obj
      have nh : ¬ handed σ tvs a := fun ⟨i', hi', q⟩ => by
        obtain ⟨j, u', a', w, g1, g2, g3, g4, _⟩ := slot hi'
        have e := R.inj i i' _ _ a h g3 q1 q
        subst e
        exact hi hi'
      have hf := fz a o ho q2 nh
      exact ⟨a, q1, R'.d a o hf, q3, q4.keep le fun ob hb => by rw [ho] at hb; cases hb; exact R'.f a o hf⟩
  · have back : ∀ {i : Nat} {u : U}, (wb tvs us' ρ)[i]? = some (En.ow u) → ∃ w, ρ[i]? = some (En.ow w) := fun {i u} h => by
      rcases ent h with ⟨_, h⟩ | ⟨hi, _⟩
      · exact ⟨u, h⟩
      · obtain ⟨j, u', a, w, g1, g2, g3, _⟩ := slot hi
        exact ⟨w, g3⟩
    obtain ⟨w1, b1⟩ := back h1
    obtain ⟨w2, b2⟩ := back h2
    exact R.inj i k w1 w2 a b1 b2 h3 h4
end
/-- what a call of a def of the text leans on -/
structure Callee (P : Program) (w : World) (K : Kn) (mg : Str → Option Value) (base : Heap) (x : Str) (k : Nat) (mask : List Bool) (fr : Bool) (m : FM) : Prop where
  ex : ∃ (f : Addr) (fd : FuncData) (ps : List Str), FnOk P w K mg base CX0 k f fd ps (spOf K mask fr m) ∧ mg x = some (.ref f) ∧ PySem.W.keepIn K (.ref f) = true ∧ Binds K fd ps []
section
variable {X : Cx} {x : Str} {k : Nat} {mask : List Bool} {m : FM} {ms : MA} {e : Expr} {es : List Expr} {p pos : Pos}
theorem x_call (C : Callee X.prog X.w (kx X) X.mg X.base x k mask false m) (hr : Room k X.A) (ha : AX X (e :: es) ms) (hg : Gl X x := by rfl)
    (hdb : (x == ("__debug__" : Str)) = false := by decide) (he : starEach (e :: es) X.env = (false, eval e X.env) :: starEach es X.env := by rfl) (hpl : (backTo pos (starEach es X.env)).any (·.1) = false := by rfl) :
    EX X (.Call (.Name x p) (e :: es) [] pos) (mCall mask m ms) := by
  obtain ⟨f, fd, ps, F, hm, hk, hb⟩ := C.ex
  refine pe_imp (pe_call F hr hg hm hk hb .nil pass0 ha hdb he hpl) fun σ H Q q => ?_
  obtain ⟨as, Hs, Fz, ρ, tv, ρ', R, e1, k'⟩ := q
  obtain ⟨tvs, ρ1, e2, e1⟩ := obind2 e1
  split at e1
  · rename_i nd
    obtain ⟨us, e3, e1⟩ := obind e1
    obtain ⟨r, us', e4, e1⟩ := obind2 e1
    cases e1
    refine ⟨as, Hs, Fz, ρ, tvs, ρ1, R, e2, fun vs H1 Hs1 R1 le1 r1 => ?_⟩
    show spOf (kx X) mask false m (vs ++ []) H1 Q E0
    rw [List.append_nil]
    obtain ⟨l1, l2, R2⟩ := R1.enter nd e3 r1
    refine ⟨l1, Hs1, _, us, r, us', l2, R2, e4, fun v H' Hs' R3 le3 rv => ?_⟩
    obtain ⟨R4, _, _⟩ := R1.leave nd e3 r1 le3 R3
    refine k' v H' Hs' R4 (hle_trans le1 le3) ?_
    have rv' : Rp (kx X) Hs' v r := rv
    exact rv'
  · cases e1
theorem f_call (C : Callee X.prog X.w (kx X) X.mg X.base x k mask true m) (hr : Room k X.A) (ha : AX X (e :: es) ms) (hg : Gl X x := by rfl)
    (hdb : (x == ("__debug__" : Str)) = false := by decide) (he : starEach (e :: es) X.env = (false, eval e X.env) :: starEach es X.env := by rfl) (hpl : (backTo pos (starEach es X.env)).any (·.1) = false := by rfl) :
    FX X (.Call (.Name x p) (e :: es) [] pos) (mCallF mask m ms) := by
  obtain ⟨f, fd, ps, F, hm, hk, hb⟩ := C.ex
  refine pe_imp (pe_call F hr hg hm hk hb .nil pass0 ha hdb he hpl) fun σ H Q q => ?_
  obtain ⟨as, Hs, Fz, ρ, tv, ρ', R, e1, k'⟩ := q
  obtain ⟨tvs, ρ1, e2, e1⟩ := obind2 e1
  split at e1
  · rename_i nd
    obtain ⟨us, e3, e1⟩ := obind e1
    obtain ⟨r, us', e4, e1⟩ := obind2 e1
    cases e1
    refine ⟨as, Hs, Fz, ρ, tvs, ρ1, R, e2, fun vs H1 Hs1 R1 le1 r1 => ?_⟩
    show spOf (kx X) mask true m (vs ++ []) H1 Q E0
    rw [List.append_nil]
    obtain ⟨l1, l2, R2⟩ := R1.enter nd e3 r1
    refine ⟨l1, Hs1, _, us, r, us', l2, R2, e4, fun v H' Hs' R3 le3 rv => ?_⟩
    obtain ⟨R4, fz, fle⟩ := R1.leave nd e3 r1 le3 R3
    have rv' : ∃ a, v = .ref a ∧ Fresh (kx X) Hs' H' (fzOf H1 Hs1 (handed σ tvs)) (vs.map some) (argsRho mask us') a r := rv
    obtain ⟨a, rfl, n1, n2, ho, no⟩ := rv'
    refine k' a H' Hs' R4 (hle_trans le1 le3) ⟨n1, hle_none fle n2, ho, fun i w hw hs => ?_⟩
    -- the new object is none of ours
    have lm := paired_len r1
    obtain ⟨l3, l4⟩ := argOk_len e3
    by_cases hi : i ∈ ownIx tvs
    · obtain ⟨j, hj⟩ := mem_ownIx.mp hi
      have hj1 : j < tvs.length := (List.getElem?_eq_some_iff.mp hj).1
      have hb : mask[j]? = some mask[j] := List.getElem?_eq_getElem (by omega)
      have hu : us[j]? = some us[j] := List.getElem?_eq_getElem (by omega)
      have l5 : mask.length ≤ us'.length := argsRho_len2 (by have := R3.len; rw [List.length_map] at this; omega)
      have hu' : us'[j]? = some us'[j] := List.getElem?_eq_getElem (by omega)
      obtain ⟨v, h4, h5⟩ := paired_fst r1 hj
      have h5' : σ[i]? = some (some v) := h5
      rw [hs] at h5'
      have ev : v = V.ref a := by simpa using h5'.symm
      subst ev
      rcases argOk_get e3 _ _ _ _ hb hj hu with ⟨eb, i', e1, hi'⟩ | ⟨_, e1⟩
      · refine no j us'[j] ?_ (by rw [List.getElem?_map, h4]; rfl)
        rw [argsRho_at hb hu', eb]; rfl
      · cases e1
    · rw [wb_out hi] at hw
      obtain ⟨a', q1, q2, q3, q4⟩ := R1.ow i w hw
      rw [hs] at q1; cases q1
      obtain ⟨o, hob, _⟩ := q4.obj
      have nh : ¬ handed σ tvs a := fun ⟨i', hi', q⟩ => by
        obtain ⟨j, hj⟩ := mem_ownIx.mp hi'
        have hj1 : j < tvs.length := (List.getElem?_eq_some_iff.mp hj).1
        have hb : mask[j]? = some mask[j] := List.getElem?_eq_getElem (by omega)
        have hu : us[j]? = some us[j] := List.getElem?_eq_getElem (by omega)
        rcases argOk_get e3 _ _ _ _ hb hj hu with ⟨eb, i2, e1, hi2⟩ | ⟨_, e1⟩
        · cases e1
          have e := R1.inj i i' _ _ a hw hi2 hs q
          subst e
          exact hi hi'
        · cases e1
      have := fz a o hob q2 nh
      rw [this] at n2; cases n2
  · cases e1
end
end G

/-! Layer G, part 5: statements, loops, comprehensions, a def's body. -/
namespace G
open PySem PySem.Spec PyProof.Rows L2
inductive Fl where
  | nx | bk | ct | rt (u : U)
abbrev MS := Rho → Option (Fl × Rho)
/-- a target: the data that is stored -/
abbrev MG := U → Rho → Option Rho
def EndOk (K : Kn) (as : List (Nat × Addr)) (fr : Bool) (Fz Hs : Hp) (D : Ends) : Fl → Rho → Prop
  | .nx, ρ' => ∀ σ' H' Hs', Rel K as σ' H' Hs' Fz ρ' → HLe Hs Hs' → D.nx σ' H'
  | .bk, ρ' => ∀ σ' H' Hs', Rel K as σ' H' Hs' Fz ρ' → HLe Hs Hs' → D.bk σ' H'
  | .ct, ρ' => ∀ σ' H' Hs', Rel K as σ' H' Hs' Fz ρ' → HLe Hs Hs' → D.ct σ' H'
  | .rt u, ρ' => ∀ v σ' H' Hs', Rel K as σ' H' Hs' Fz ρ' → HLe Hs Hs' → RetV K fr Hs' H' Fz σ' ρ' v u → D.rt v H'
theorem EndOk.mono {K as fr Fz Hs Hs1 D fl ρ'} (h : EndOk K as fr Fz Hs D fl ρ') (le : HLe Hs Hs1) : EndOk K as fr Fz Hs1 D fl ρ' := by
  cases fl with
  | nx => exact fun σ' H' Hs' R l => h σ' H' Hs' R (hle_trans le l)
  | bk => exact fun σ' H' Hs' R l => h σ' H' Hs' R (hle_trans le l)
  | ct => exact fun σ' H' Hs' R l => h σ' H' Hs' R (hle_trans le l)
  | rt u => exact fun v σ' H' Hs' R l => h v σ' H' Hs' R (hle_trans le l)
def tS (K : Kn) (io : List Nat) (fr : Bool) (m : MS) : TS := fun D σ H => ∃ as Hs Fz ρ fl ρ', as.map (·.1) = io ∧ Rel K as σ H Hs Fz ρ ∧ m ρ = some (fl, ρ') ∧ EndOk K as fr Fz Hs D fl ρ'
/-- sl: the slots that are stored -/
def tG (K : Kn) (io sl : List Nat) (m : MG) : TG := fun v σ H Q => ∃ as Hs Fz ρ u ρ', as.map (·.1) = io ∧ Rel K as σ H Hs Fz ρ ∧ Rp K Hs v u ∧ m u ρ = some ρ' ∧ ∀ σ', Rel K as σ' H Hs Fz ρ' → ((∀ i, i ∉ sl → σ'[i]? = σ[i]?) ∧ σ'.length = σ.length) → Q σ' H
abbrev SX (X : Cx) (io : List Nat) (fr : Bool) (st : Stmt) (m : MS) : Prop := PS X st (tS (kx X) io fr m)
abbrev BX (X : Cx) (io : List Nat) (fr : Bool) (st : List Stmt) (m : MS) : Prop := PSs X st (tS (kx X) io fr m)
abbrev GX (X : Cx) (io sl : List Nat) (tg : Expr) (m : MG) : Prop := PG X tg (tG (kx X) io sl m)
theorem ps_imp {X : Cx} {st : Stmt} {t t' : TS} (h : PS X st t) (k : ∀ D σ H, t' D σ H → t D σ H) : PS X st t' := ⟨fun pins s σ H D I q => h.run pins s σ H D I (k D σ H q)⟩
theorem pss_imp {X : Cx} {st : List Stmt} {t t' : TS} (h : PSs X st t) (k : ∀ D σ H, t' D σ H → t D σ H) : PSs X st t' := ⟨fun pins s σ H D I q => h.run pins s σ H D I (k D σ H q)⟩
theorem pg_imp {X : Cx} {e : Expr} {t t' : TG} (h : PG X e t) (k : ∀ v σ H Q, t' v σ H Q → t v σ H Q) : PG X e t' := ⟨fun pins s σ H v u Q I r q => h.run pins s σ H v u Q I r (k v σ H Q q)⟩
def mSkip : MS := fun ρ => some (.nx, ρ)
def mSeq (m n : MS) : MS := fun ρ => (m ρ).bind fun p => match p.1 with
  | .nx => n p.2
  | .bk => some (.bk, p.2)
  | .ct => some (.ct, p.2)
  | .rt u => some (.rt u, p.2)
section
variable {X : Cx} {io : List Nat} {fr : Bool} {st : Stmt} {rest : List Stmt} {m n : MS} {pos : Pos}
theorem b_nil : BX X io fr [] mSkip := by
  refine pss_imp pss_nil fun D σ H q => ?_
  obtain ⟨as, Hs, Fz, ρ, fl, ρ', ea, R, e, k⟩ := q
  cases e
  exact k σ H Hs R (hle_refl _)
theorem b_one (h : SX X io fr st m) : BX X io fr [st] m := pss_one h
theorem b_cons (h : SX X io fr st m) (hr : BX X io fr rest n) : BX X io fr (st :: rest) (mSeq m n) := by
  refine pss_imp (pss_cons h hr) fun D σ H q => ?_
  obtain ⟨as, Hs, Fz, ρ, fl, ρ', ea, R, e, k⟩ := q
  obtain ⟨f1, ρ1, e1, e⟩ := obind2 e
  refine ⟨as, Hs, Fz, ρ, f1, ρ1, ea, R, e1, ?_⟩
  cases f1 with
  | nx => exact fun σ' H' Hs' R' le => ⟨as, Hs', Fz, ρ1, fl, ρ', ea, R', e, k.mono le⟩
  | bk => cases e; exact k
  | ct => cases e; exact k
  | rt u => cases e; exact k
theorem s_pass : SX X io fr (.Pass pos) mSkip := by
  refine ps_imp ps_pass fun D σ H q => ?_
  obtain ⟨as, Hs, Fz, ρ, fl, ρ', ea, R, e, k⟩ := q
  cases e
  exact k σ H Hs R (hle_refl _)
def mBreak : MS := fun ρ => some (.bk, ρ)
def mCont : MS := fun ρ => some (.ct, ρ)
theorem s_break : SX X io fr (.Break pos) mBreak := by
  refine ps_imp ps_break fun D σ H q => ?_
  obtain ⟨as, Hs, Fz, ρ, fl, ρ', ea, R, e, k⟩ := q
  cases e
  exact k σ H Hs R (hle_refl _)
theorem s_continue : SX X io fr (.Continue pos) mCont := by
  refine ps_imp ps_continue fun D σ H q => ?_
  obtain ⟨as, Hs, Fz, ρ, fl, ρ', ea, R, e, k⟩ := q
  cases e
  exact k σ H Hs R (hle_refl _)
/-- code to which no run comes that the mirror serves -/
def mNever : MS := fun _ => none
theorem s_never : SX X io fr st mNever := by
  refine ps_imp ps_never fun D σ H q => ?_
  obtain ⟨as, Hs, Fz, ρ, fl, ρ', ea, R, e, k⟩ := q
  cases e
variable {e : Expr} {me : MX} {mf : MF} {t : MB}
def mDrop (me : MX) : MS := fun ρ => (me ρ).bind fun p => some (.nx, p.2)
theorem s_expr (he : EX X e me) (hs : swapsWith e none pos.line X.env = pure false := by rfl) : SX X io fr (.Expr e pos) (mDrop me) := by
  refine ps_imp (ps_expr he hs) fun D σ H q => ?_
  obtain ⟨as, Hs, Fz, ρ, fl, ρ', ea, R, e, k⟩ := q
  obtain ⟨tv, ρ1, e1, e⟩ := obind2 e
  cases e
  exact ⟨as, Hs, Fz, ρ, tv, _, R, e1, fun v H' Hs' R' le _ => k σ H' Hs' R' le⟩
/-- data alone -/
def asVal : TV → Option U
  | .val u => some u
  | .own _ => none
def mRet (me : MX) : MS := fun ρ => (me ρ).bind fun p => (asVal p.1).bind fun u => some (.rt u, p.2)
theorem s_ret (he : EX X e me) : SX X io false (.Return (some e) pos) (mRet me) := by
  refine ps_imp (ps_ret he) fun D σ H q => ?_
  obtain ⟨as, Hs, Fz, ρ, fl, ρ', ea, R, e, k⟩ := q
  obtain ⟨tv, ρ1, e1, e⟩ := obind2 e
  obtain ⟨u, e2, e⟩ := obind e
  cases e
  cases tv with
  | val w => cases e2; exact ⟨as, Hs, Fz, ρ, _, _, R, e1, fun v H' Hs' R' le r => k v σ H' Hs' R' le r⟩
  | own i => cases e2
def mRetF (mf : MF) : MS := fun ρ => (mf ρ).bind fun p => some (.rt p.1, p.2)
theorem s_retF (he : FX X e mf) : SX X io true (.Return (some e) pos) (mRetF mf) := by
  refine ps_imp (ps_ret he) fun D σ H q => ?_
  obtain ⟨as, Hs, Fz, ρ, fl, ρ', ea, R, e, k⟩ := q
  obtain ⟨u, ρ1, e1, e⟩ := obind2 e
  cases e
  exact ⟨as, Hs, Fz, ρ, _, _, R, e1, fun a H' Hs' R' le f => k (.ref a) σ H' Hs' R' le ⟨a, rfl, f⟩⟩
/-- return of our own list: it is nobody's from here on -/
def mRetO (i : Nat) : MS := fun ρ => match ρ[i]? with
  | some (.ow u) => some (.rt u, ρ.set i .no)
  | _ => none
theorem Rel.lose {K : Kn} {as : List (Nat × Addr)} {σ : L2.St} {H Hs Fz : Hp} {ρ : Rho} {i : Nat} {u : U} (R : Rel K as σ H Hs Fz ρ) (e : ρ[i]? = some (En.ow u)) : ∃ a, σ[i]? = some (some (.ref a)) ∧ Rel K as σ H Hs Fz (ρ.set i .no) ∧ Fresh K Hs H Fz σ (ρ.set i .no) a u := by
  obtain ⟨a, h1, h2, h3, h4⟩ := R.ow i u e
  have hlen : i < ρ.length := (List.getElem?_eq_some_iff.mp e).1
  have sub : ∀ {j : Nat} {x : En}, x ≠ .no → (ρ.set i .no)[j]? = some x → j ≠ i ∧ ρ[j]? = some x := fun {j x} hx q => by
    by_cases hj : j = i
    · subst hj; rw [List.getElem?_set_self hlen] at q; cases q; exact absurd rfl hx
    · rw [List.getElem?_set_ne (Ne.symm hj)] at q; exact ⟨hj, q⟩
  refine ⟨a, h1, ⟨by rw [List.length_set]; exact R.len, R.s, R.f, R.d, fun j w q => R.sh j w (sub (by intro z; cases z) q).2, fun j w q => R.ow j w (sub (by intro z; cases z) q).2,
    fun j k w w' b q1 q2 q3 q4 => R.inj j k w w' b (sub (by intro z; cases z) q1).2 (sub (by intro z; cases z) q2).2 q3 q4, R.io⟩, h2, h3, h4, fun j w q z => ?_⟩
  obtain ⟨n, q'⟩ := sub (by intro z; cases z) q
  exact n (R.inj j i w u a q' e z h1)
def mOwn (i : Nat) : MF := fun ρ => match ρ[i]? with | some (.ow u) => some (u, ρ.set i .no) | _ => none
theorem f_own (i : Nat) {e : Expr} (h : PE X e (tVar i)) : FX X e (mOwn i) := by
  refine pe_imp h fun σ H Q q => ?_
  obtain ⟨as, Hs, Fz, ρ, u, ρ', R, e, k⟩ := q
  unfold mOwn at e
  split at e
  · rename_i w hw
    cases e
    obtain ⟨a, h1, R', f⟩ := R.lose hw
    exact ⟨_, h1, k a H Hs R' (hle_refl _) f⟩
  · cases e
theorem f_name (i : Nat) {x : Str} {pos : Pos} (hN : X.N[i]? = some x := by rfl) (hv : Vis X.env.scope x := by first | exact Or.inl rfl | exact Or.inr (Or.inl rfl) | exact Or.inr (Or.inr rfl)) (hd : (x == ("__debug__" : Str)) = false := by decide)
    (hcd : (x == ("__classdict__" : Str)) = false := by decide) : FX X (.Name x pos) (mOwn i) := f_own i (pe_var hN hv hd hcd)
def mRetN : MS := fun ρ => some (.rt .none, ρ)
theorem s_retN : SX X io false (.Return none pos) mRetN := by
  refine ps_imp ps_retN fun D σ H q => ?_
  obtain ⟨as, Hs, Fz, ρ, fl, ρ', ea, R, e, k⟩ := q
  cases e
  exact k .non σ H Hs R (hle_refl _) (show Rp (kx X) Hs .non .none from .non)
def mIfS (t : MB) (m n : MS) : MS := fun ρ => (t ρ).bind fun p => if p.1 = true then m p.2 else n p.2
theorem s_if {c : Expr} {a b : List Stmt} (hc : TX X c t) (ha : BX X io fr a m) (hb : BX X io fr b n) : SX X io fr (.If c a b pos) (mIfS t m n) := by
  refine ps_imp (ps_if hc ha hb) fun D σ H q => ?_
  obtain ⟨as, Hs, Fz, ρ, fl, ρ', ea, R, e, k⟩ := q
  obtain ⟨b1, ρ1, e1, e⟩ := obind2 e
  refine ⟨as, Hs, Fz, ρ, b1, ρ1, R, e1, fun H1 Hs1 R1 le1 => ?_⟩
  cases b1 with
  | true => rw [if_pos rfl]; exact ⟨as, Hs1, Fz, ρ1, fl, ρ', ea, R1, (by simpa using e), k.mono le1⟩
  | false => rw [if_neg (by decide)]; exact ⟨as, Hs1, Fz, ρ1, fl, ρ', ea, R1, (by simpa using e), k.mono le1⟩
/-! stores -/
def mPut (i : Nat) : MG := fun u ρ => if i < ρ.length then some (ρ.set i (.sh u)) else none
theorem io_ne {as : List (Nat × Addr)} {io : List Nat} {i : Nat} (ea : as.map (·.1) = io) (h : i ∉ io) : ∀ p ∈ as, p.1 ≠ i := fun p hp z => h (by rw [← ea, ← z]; exact List.mem_map.mpr ⟨p, hp, rfl⟩)
def mSet (i : Nat) (me : MX) : MS := fun ρ => (me ρ).bind fun p => (asVal p.1).bind fun u => if i < p.2.length then some (.nx, p.2.set i (.sh u)) else none
def mSetF (i : Nat) (mf : MF) : MS := fun ρ => (mf ρ).bind fun p => if i < p.2.length then some (.nx, p.2.set i (.ow p.1)) else none
theorem rd_set {K : Kn} {i : Nat} (hio : i ∉ io) (D : Ends) (σ : L2.St) (H : Hp) (q : tS K io fr (mSet i me) D σ H) : tAsg (tE K me) (gName i) D σ H := by
  obtain ⟨as, Hs, Fz, ρ, fl, ρ', ea, R, e, k⟩ := q
  obtain ⟨tv, ρ1, e1, e⟩ := obind2 e
  obtain ⟨u, e2, e⟩ := obind e
  split at e
  · rename_i hi
    cases e
    cases tv with
    | val w =>
      cases e2
      exact ⟨as, Hs, Fz, ρ, _, _, R, e1, fun v H' Hs' R' le r => k _ H' Hs' (R'.store hi (io_ne ea hio) r) le⟩
    | own i => cases e2
  · cases e
theorem rd_setF {K : Kn} {i : Nat} (hio : i ∉ io) (D : Ends) (σ : L2.St) (H : Hp) (q : tS K io fr (mSetF i mf) D σ H) : tAsg (tF K mf) (gName i) D σ H := by
  obtain ⟨as, Hs, Fz, ρ, fl, ρ', ea, R, e, k⟩ := q
  obtain ⟨u, ρ1, e1, e⟩ := obind2 e
  split at e
  · rename_i hi
    cases e
    exact ⟨as, Hs, Fz, ρ, _, _, R, e1, fun a H' Hs' R' le f => k _ H' Hs' (R'.storeO hi (io_ne ea hio) f.1 f.2.1 f.2.2.1 f.2.2.2) le⟩
  · cases e
theorem s_set (i : Nat) {x : Str} {pos' : Pos} (he : EX X e me) (hN : X.N.Nodup) (hio : i ∉ io := by decide) (hi : X.N[i]? = some x := by rfl) (hx : Loc X.env.scope x := by first | exact Or.inl rfl | exact Or.inr rfl)
    (hs : swapsWith e (some (.Name x pos')) pos.line X.env = pure false := by rfl) (hf : X.fn x = true ∨ X.env.scope.names.lookup x = some .local := by first | exact .inl rfl | exact .inr rfl) :
    SX X io fr (.Assign [.Name x pos'] e pos) (mSet i me) := ps_imp (ps_set hN hi hx he hs hf) (rd_set hio)
theorem s_setF (i : Nat) {x : Str} {pos' : Pos} (he : FX X e mf) (hN : X.N.Nodup) (hio : i ∉ io := by decide) (hi : X.N[i]? = some x := by rfl) (hx : Loc X.env.scope x := by first | exact Or.inl rfl | exact Or.inr rfl)
    (hs : swapsWith e (some (.Name x pos')) pos.line X.env = pure false := by rfl) (hf : X.fn x = true ∨ X.env.scope.names.lookup x = some .local := by first | exact .inl rfl | exact .inr rfl) :
    SX X io fr (.Assign [.Name x pos'] e pos) (mSetF i mf) := ps_imp (ps_set hN hi hx he hs hf) (rd_setF hio)
theorem g_name (i : Nat) {x : Str} (hN : X.N.Nodup) (hio : i ∉ io := by decide) (hi : X.N[i]? = some x := by rfl) (hx : Loc X.env.scope x := by first | exact Or.inl rfl | exact Or.inr rfl) (hf : X.fn x = true ∨ X.env.scope.names.lookup x = some .local := by first | exact .inl rfl | exact .inr rfl) :
    GX X io [i] (.Name x pos) (mPut i) := by
  refine pg_imp (pg_name hN hi hx hf) fun v σ H Q q => ?_
  obtain ⟨as, Hs, Fz, ρ, u, ρ', ea, R, r, e, k⟩ := q
  unfold mPut at e
  split at e
  · rename_i hl
    cases e
    refine k _ (R.store hl (io_ne ea hio) r) ⟨fun j hj => ?_, List.length_set⟩
    rw [List.getElem?_set_ne (fun z => hj (by rw [z]; exact List.mem_singleton.mpr rfl))]
  · cases e
/-- several targets -/
abbrev MGs := List U → Rho → Option Rho
def tGs (K : Kn) (io sl : List Nat) (m : MGs) : TGs := fun vs σ H Q => ∃ as Hs Fz ρ us ρ', as.map (·.1) = io ∧ Rel K as σ H Hs Fz ρ ∧ Rps K Hs vs us ∧ m us ρ = some ρ' ∧ ∀ σ', Rel K as σ' H Hs Fz ρ' → ((∀ i, i ∉ sl → σ'[i]? = σ[i]?) ∧ σ'.length = σ.length) → Q σ' H
abbrev GsX (X : Cx) (io sl : List Nat) (tg : List Expr) (m : MGs) : Prop := PGs X tg (tGs (kx X) io sl m)
def mgNil : MGs := fun us ρ => match us with
  | [] => some ρ
  | _ => none
def mgCons (g : MG) (gs : MGs) : MGs := fun us ρ => match us with
  | u :: r => (g u ρ).bind fun ρ1 => gs r ρ1
  | [] => none
theorem pgs_imp {es : List Expr} {t t' : TGs} (h : PGs X es t) (k : ∀ v σ H Q, t' v σ H Q → t v σ H Q) : PGs X es t' := ⟨fun pins s σ H v u Q I r q => h.run pins s σ H v u Q I r (k v σ H Q q)⟩
theorem gs_nil : GsX X io [] [] mgNil := by
  refine pgs_imp pgs_nil fun v σ H Q q => ?_
  obtain ⟨as, Hs, Fz, ρ, us, ρ', ea, R, r, e, k⟩ := q
  unfold mgNil at e
  split at e
  · cases e; cases r; exact ⟨rfl, k _ R ⟨fun _ _ => rfl, rfl⟩⟩
  · cases e
theorem gs_cons {tg : Expr} {es : List Expr} {g : MG} {gs : MGs} {sl sl' : List Nat} (h1 : GX X io sl tg g) (h2 : GsX X io sl' es gs) (hs : (assignEach (tg :: es) X.env).map (·.2) = assign tg X.env :: (assignEach es X.env).map (·.2) := by rfl) : GsX X io (sl ++ sl') (tg :: es) (mgCons g gs) := by
  refine pgs_imp (pgs_cons h1 h2 hs) fun v σ H Q q => ?_
  obtain ⟨as, Hs, Fz, ρ, us, ρ', ea, R, r, e, k⟩ := q
  unfold mgCons at e
  split at e
  · obtain ⟨ρ1, e1, e⟩ := obind e
    cases r with | cons r1 r2 =>
    exact ⟨_, _, rfl, as, Hs, Fz, ρ, _, ρ1, ea, R, r1, e1, fun σ1 R1 f1 => ⟨as, Hs, Fz, ρ1, _, ρ', ea, R1, r2, e, fun σ2 R2 f2 => k σ2 R2 ⟨fun i hi => by
      simp only [List.mem_append, not_or] at hi
      rw [f2.1 i hi.2, f1.1 i hi.1], f2.2.trans f1.2⟩⟩⟩
  · cases e
section
variable {prog : Program} {w : World} {A : Around} {E : Value → Shared → Prop} {s : Shared}
theorem draw_list {it t : Addr} {items : Array Value} (hne : t ≠ it) : ∀ (n i : Nat) (s : Shared) (Q : List Value → Shared → Prop), s.heap.IsListIter it t i → s.heap.IsList t items → i + n ≤ items.size →
    (∀ h' : Heap, h'.IsListIter it t (i + n) → Heap.SameBut it s.heap h' → Q ((items.toList.drop i).take n) { s with heap := h' }) → wpAny (model prog w) A (draw (.ref it) n) Q E s
  | 0, i, s, Q, hit, _, _, hQ => by
    show wpAny _ _ (pure []) Q E s
    exact wpAny_pure (by simpa using hQ s.heap hit (Heap.SameBut.refl ..))
  | n + 1, i, s, Q, hit, ht, hle, hQ => by
    have hlt : i < items.size := by omega
    show wpAny _ _ (pyNext (.ref it) >>= _) Q E s
    refine wpAny_bind (wpAny_pyNext_list_item hit ht (x := items[i]) (by simp [hlt]) fun h₁ hit₁ hs₁ => ?_)
    refine wpAny_bind (wpAny_holding (draw_list hne n (i + 1) _ _ hit₁ (ht.extBut hs₁.extBut hne) (by omega) fun h₂ hit₂ hs₂ => wpAny_pure ?_))
    have hd : items.toList.drop i = items[i] :: items.toList.drop (i + 1) := by simp [List.drop_eq_getElem_cons, hlt]
    have := hQ h₂ (by rw [show i + (n + 1) = i + 1 + n by omega]; exact hit₂) (hs₁.trans hs₂)
    rw [hd, List.take_succ_cons] at this
    exact this
theorem unpackItems_list {t : Addr} {items : Array Value} {Q : List Value → Shared → Prop} (hh : A.handled = none) (ht : s.heap.IsList t items)
    (hQ : ∀ h', Heap.ExtBut s.heap.objs.size s.heap h' → Q items.toList { s with heap := h' }) : wpAny (model prog w) A (unpackItems (.ref t) items.size none) Q E s := by
  have hlt : t ≠ s.heap.objs.size := by obtain ⟨o, ho, _⟩ := ht; exact Nat.ne_of_lt (Heap.lt_size ho)
  unfold unpackItems
  refine wpAny_bind ?_
  · unfold notIterableAtAll
    refine wpAny_bind (wpAny_specialOf ht.typeIs slot_list_iter.lookup ?_)
    refine wpAny_pure ?_
    simp only [Bool.false_eq_true, if_false]
    refine wpAny_bind (wpAny_holding (wpAny_pyIter_list ht ?_))
    refine wpAny_bind (wpAny_holding (draw_list hlt items.size 0 _ _ ⟨_, Heap.get?_push_size _ rfl, rfl, rfl⟩ (ht.push _) (by omega) fun h₁ hit₁ hs₁ => ?_))
    have hall : List.take items.size (List.drop 0 items.toList) = items.toList := by
      rw [List.drop_zero]; exact List.take_of_length_le (by simp)
    rw [hall]
    rw [if_neg (by simp)]
    have ht₁ : h₁.IsList t items := (ht.push _).extBut hs₁.extBut hlt
    refine wpAny_bind (wpAny_holding (wpAny_pyNext_list_end hh hit₁ ht₁ (by simp) fun h₂ he₂ => ?_))
    simp only [Option.isSome_none, Bool.false_eq_true, if_false]
    refine wpAny_pure (hQ h₂ fun b o hb e => he₂ b o hb (hs₁.extBut b o hb (Heap.get?_push_of_some _ e)))
theorem assign_Tuple_list {env : Env} {elts : List Expr} {x1} {pos : Pos} {t : Addr} {items : Array Value} {Q : Unit → Shared → Prop} (hh : A.handled = none) (ht : s.heap.IsList t items)
    (hn : (assignEach elts env).length = items.size) (hstar : (assignEach elts env).findIdx? (·.1) = none)
    (h : ∀ h', Heap.ExtBut s.heap.objs.size s.heap h' → wpAny (model prog w) A (assignInOrder ((assignEach elts env).map (·.2)) items.toList) Q E { s with heap := h' }) :
    wpAny (model prog w) A (assign (.Tuple elts x1 pos) env (.ref t)) Q E s := by
  rw [assign_Tuple]
  refine wpAny_bind (wpAny_standAt ?_)
  unfold unpack
  rw [hn, hstar]
  exact wpAny_bind (wpAny_holding (unpackItems_list hh ht h))
end
def gTupL (K : Kn) (n : Nat) (t : TGs) : TG := fun v σ H Q => ∃ a xs, v = .ref a ∧ (SqT K H a xs ∨ SqL K H a xs) ∧ xs.length = n ∧ t xs σ H Q
theorem pg_tupL {X : Cx} {pos : Pos} {es : List Expr} {k : Nat} {t : TGs} {n : Nat} (hc : X.calm = true) (h : PGs X es t)
    (hn : (assignEach es X.env).length = n := by rfl) (hst : (assignEach es X.env).findIdx? (·.1) = none := by rfl) : PG X (.Tuple es k pos) (gTupL (kx X) n t) := by
  refine ⟨fun pins s σ H v u Q I r hw => ?_⟩
  obtain ⟨a, xs, e1, hq, hl, hw⟩ := hw
  subst e1
  cases r
  rcases hq with hq | hq
  · obtain ⟨its, rv, ht, hz⟩ := I.tuple hq
    refine assign_Tuple_tuple (I.ok.hd hc) ht (by simp [hn, ← hl, rv.length]) hst fun h' hx => ?_
    have I1 : Inv X pins σ H { s with heap := h' } := I.kept (t' := s.toks) fun b o e => hx b o (Nat.ne_of_lt (Heap.lt_size e)) e
    exact h.run pins _ σ H xs _ Q I1 (by simpa using rv) hw
  · obtain ⟨its, rv, ht, hz⟩ := I.list hq
    refine assign_Tuple_list (I.ok.hd hc) ht.isList (by simp [hn, ← hl, rv.length]) hst fun h' hx => ?_
    have I1 : Inv X pins σ H { s with heap := h' } := I.kept (t' := s.toks) fun b o e => hx b o (Nat.ne_of_lt (Heap.lt_size e)) e
    exact h.run pins _ σ H xs _ Q I1 (by simpa using rv) hw
def mgTup (n : Nat) (gs : MGs) : MG := fun u ρ => match u with
  | .tuple us => if us.length = n then gs us ρ else none
  | .list us => if us.length = n then gs us ρ else none
  | _ => none
theorem g_tup {es : List Expr} {k : Nat} {gs : MGs} {sl : List Nat} (n : Nat) (hc : X.calm = true) (h : GsX X io sl es gs) (hn : (assignEach es X.env).length = n := by rfl) (hst : (assignEach es X.env).findIdx? (·.1) = none := by rfl) :
    GX X io sl (.Tuple es k pos) (mgTup n gs) := by
  refine pg_imp (pg_tupL hc h hn hst) fun v σ H Q q => ?_
  obtain ⟨as, Hs, Fz, ρ, u, ρ', ea, R, r, e, k⟩ := q
  unfold mgTup at e
  split at e
  · rename_i us
    split at e
    · rename_i hl
      cases r with | tup q r l =>
      exact ⟨_, _, rfl, .inl (hle_sqTs R.s q).sq, by rw [paired_len r]; exact hl, as, Hs, Fz, ρ, us, ρ', ea, R, r, e, k⟩
    · cases e
  · rename_i us
    split at e
    · rename_i hl
      cases r with | lst q r l =>
      exact ⟨_, _, rfl, .inr (hle_sqL R.s q), by rw [paired_len r]; exact hl, as, Hs, Fz, ρ, us, ρ', ea, R, r, e, k⟩
    · cases e
  · cases e
def mAsg (me : MX) (g : MG) : MS := fun ρ => (me ρ).bind fun p => (asVal p.1).bind fun u => (g u p.2).bind fun ρ' => some (.nx, ρ')
theorem s_asg {tg : Expr} {g : MG} {sl : List Nat} (he : EX X e me) (hg : GX X io sl tg g) (hs : swapsWithSole [tg] e pos.line X.env = pure false := by rfl) (hw : swappedStores [tg] e X.env = pure none := by rfl)
    (h1 : (assignEach [tg] X.env).map (·.2) = [assign tg X.env] := by rfl) : SX X io fr (.Assign [tg] e pos) (mAsg me g) := by
  refine ps_imp (ps_asg he hg hs hw h1) fun D σ H q => ?_
  obtain ⟨as, Hs, Fz, ρ, fl, ρ', ea, R, e, k⟩ := q
  obtain ⟨tv, ρ1, e1, e⟩ := obind2 e
  obtain ⟨u, e2, e⟩ := obind e
  obtain ⟨ρ2, e3, e⟩ := obind e
  cases e
  cases tv with
  | val w =>
    cases e2
    exact ⟨as, Hs, Fz, ρ, _, _, R, e1, fun v H' Hs' R' le r => ⟨as, Hs', Fz, ρ1, _, _, ea, R', r, e3, fun σ' R2 _ => k _ H' Hs' R2 le⟩⟩
  | own i => cases e2
/-- a, b = x, y: plain names -/
def mPar (i j : Nat) (ma : MA) : MS := fun ρ => (ma ρ).bind fun p => match p.1 with
  | [.val u, .val w] => if i < p.2.length ∧ j < p.2.length then some (.nx, (p.2.set i (.sh u)).set j (.sh w)) else none
  | _ => none
theorem s_par (i j : Nat) {x y : Str} {a b : Expr} {ma : MA} {px py pt : Pos} {kt k2 pt2} (hc : X.calm = true) (ha : AX X [a, b] ma) (hN : X.N.Nodup) (hii : i ∉ io := by decide) (hjj : j ∉ io := by decide) (hi : X.N[i]? = some x := by rfl) (hj : X.N[j]? = some y := by rfl) (hij : i ≠ j := by decide)
    (hx : X.env.scope.names.lookup x = some .local := by rfl) (hy : X.env.scope.names.lookup y = some .local := by rfl)
    (hw : swappedStores [.Tuple [.Name x px, .Name y py] kt pt] (.Tuple [a, b] k2 pt2) X.env = pure (some [x, y]) := by rfl)
    (hs : swapsWithSole [.Tuple [.Name x px, .Name y py] kt pt] (.Tuple [a, b] k2 pt2) pos.line X.env = pure false := by rfl) :
    SX X io fr (.Assign [.Tuple [.Name x px, .Name y py] kt pt] (.Tuple [a, b] k2 pt2) pos) (mPar i j ma) := by
  refine ps_imp (ps_par hc hN hi hj hij hx hy ha hw hs) fun D σ H q => ?_
  obtain ⟨as, Hs, Fz, ρ, fl, ρ', ea, R, e, k⟩ := q
  obtain ⟨tvs, ρ1, e1, e⟩ := obind2 e
  simp only at e
  split at e
  · rename_i u w
    split at e
    · rename_i hl
      cases e
      refine ⟨as, Hs, Fz, ρ, _, _, R, e1, fun vs H' Hs' R' le r => ?_⟩
      cases r with | cons r1 r2 =>
      cases r2 with | cons r2 r3 =>
      cases r3
      have r1' : Rp (kx X) Hs' _ u := r1
      have r2' : Rp (kx X) Hs' _ w := r2
      refine ⟨_, _, rfl, k _ H' Hs' ((R'.store hl.1 (io_ne ea hii) r1').store (by rw [List.length_set]; exact hl.2) (io_ne ea hjj) r2') le⟩
    · cases e
  · cases e
end
/-! ### while -/
def mWhile (c : MB) (b : MS) : Nat → MS
  | 0, _ => none
  | n + 1, ρ => (c ρ).bind fun p => if p.1 = true then (b p.2).bind fun q => match q.1 with
      | .nx => mWhile c b n q.2
      | .ct => mWhile c b n q.2
      | .bk => some (.nx, q.2)
      | .rt u => some (.rt u, q.2)
    else some (.nx, p.2)
section
variable {X : Cx} {io : List Nat} {fr : Bool} {pos : Pos}
theorem s_while (n : Nat) {c : Expr} {body : List Stmt} {mc : MB} {mb : MS} (hp : PassesOwn (model X.prog X.w) X.A X.env X.xe) (hc : TX X c mc) (hb : BX X io fr body mb) : SX X io fr (.While c body [] pos) (mWhile mc mb n) := by
  refine ps_imp (ps_while hp hc hb) fun D σ H q => ?_
  obtain ⟨as, Hs, Fz, ρ, fl, ρ', ea, R, e, k⟩ := q
  refine ⟨fun m σ H => ∃ Hs1 ρ1, Rel (kx X) as σ H Hs1 Fz ρ1 ∧ HLe Hs Hs1 ∧ mWhile mc mb m ρ1 = some (fl, ρ'), ⟨n, Hs, ρ, R, hle_refl _, e⟩, ?_⟩
  rintro m σ1 H1 ⟨Hs1, ρ1, R1, le1, e1⟩
  cases m with
  | zero => simp [mWhile] at e1
  | succ m =>
    rw [mWhile] at e1
    obtain ⟨b1, ρ2, e2, e1⟩ := obind2 e1
    refine ⟨as, Hs1, Fz, ρ1, b1, ρ2, R1, e2, fun H2 Hs2 R2 le2 => ?_⟩
    cases b1 with
    | false =>
      rw [if_neg (by decide)]
      simp at e1
      obtain ⟨rfl, rfl⟩ := e1
      exact k _ _ _ R2 (hle_trans le1 le2)
    | true =>
      rw [if_pos rfl]
      simp only [if_true] at e1
      obtain ⟨f3, ρ3, e3, e1⟩ := obind2 e1
      refine ⟨fun σ' H' => ∃ Hs1 ρ1, Rel (kx X) as σ' H' Hs1 Fz ρ1 ∧ HLe Hs Hs1 ∧ mWhile mc mb m ρ1 = some (fl, ρ'), fun σ' H' h => ⟨m, Nat.lt_succ_self _, h⟩, as, Hs2, Fz, ρ2, f3, ρ3, ea, R2, e3, ?_⟩
      cases f3 with
      | nx => exact fun σ' H' Hs' R' l => ⟨Hs', ρ3, R', hle_trans le1 (hle_trans le2 l), e1⟩
      | ct => exact fun σ' H' Hs' R' l => ⟨Hs', ρ3, R', hle_trans le1 (hle_trans le2 l), e1⟩
      | bk => cases e1; exact fun σ' H' Hs' R' l => k _ _ _ R' (hle_trans le1 (hle_trans le2 l))
      | rt u => cases e1; exact fun v σ' H' Hs' R' l rv => k v _ _ _ R' (hle_trans le1 (hle_trans le2 l)) rv
end
/-! ### what is walked -/
abbrev MI := Rho → Option (List U × Rho)
def YU (K : Kn) (Hs : Hp) (us : List U) : Nat → Hp → V → Hp → Prop := fun i H x H' => ∃ u, us[i]? = some u ∧ ∀ Hs2, HLe Hs Hs2 → HLe Hs2 H → ResV K Hs2 H u x H'
def tI (K : Kn) (m : MI) : TI := fun σ H R => ∃ as Hs Fz ρ us ρ', Rel K as σ H Hs Fz ρ ∧ m ρ = some (us, ρ') ∧ ∀ J H' Hs', Rel K as σ H' Hs' Fz ρ' → HLe Hs Hs' → Walk J us.length (fun H => HLe Hs' H) (YU K Hs' us) → us.length ≤ sizeLine → R J H'
abbrev IX (X : Cx) (tg iter : Expr) (m : MI) : Prop := PI X tg iter (tI (kx X) m)
theorem pi_imp {X : Cx} {tg e : Expr} {t t' : TI} (h : PI X tg e t) (k : ∀ σ H R, t' σ H R → t σ H R) : PI X tg e t' := ⟨fun pins s σ H R I q => h.run pins s σ H R I (k σ H R q)⟩
def mLoop (g : MG) (b : MS) : List U → MS
  | [], ρ => some (.nx, ρ)
  | u :: us, ρ => (g u ρ).bind fun ρ1 => (b ρ1).bind fun q => match q.1 with
    | .nx => mLoop g b us q.2
    | .ct => mLoop g b us q.2
    | .bk => some (.nx, q.2)
    | .rt w => some (.rt w, q.2)
def mFor (mi : MI) (g : MG) (b : MS) : MS := fun ρ => (mi ρ).bind fun p => mLoop g b p.1 p.2
section
variable {X : Cx} {io : List Nat} {fr : Bool} {pos : Pos}
theorem s_for {tg iter : Expr} {body : List Stmt} {mi : MI} {g : MG} {mb : MS} {sl : List Nat} (hp : PassesOwn (model X.prog X.w) X.A X.env X.xe) (hc : X.calm = true) (hi : IX X tg iter mi) (hg : GX X io sl tg g) (hb : BX X io fr body mb)
    (hs : ∀ x, foldedSetIterable iter X.env x = pure x := by intro _; rfl) : SX X io fr (.For tg iter body [] pos) (mFor mi g mb) := by
  refine ps_imp (ps_for hp hc hi hg hb hs) fun D σ H q => ?_
  obtain ⟨as, Hs, Fz, ρ, fl, ρ', ea, R, e, k⟩ := q
  obtain ⟨us, ρ1, e1, e⟩ := obind2 e
  refine ⟨as, Hs, Fz, ρ, us, ρ1, R, e1, fun J H' Hs' R' le W lz => ?_⟩
  have h0 : ∃ Hs1 ρ1, Rel (kx X) as σ H' Hs1 Fz ρ1 ∧ HLe Hs' Hs1 ∧ mLoop g mb (us.drop 0) ρ1 = some (fl, ρ') := ⟨Hs', ρ1, R', hle_refl _, e⟩
  refine for_it W (fun i σ H => ∃ Hs1 ρ1, Rel (kx X) as σ H Hs1 Fz ρ1 ∧ HLe Hs' Hs1 ∧ mLoop g mb (us.drop i) ρ1 = some (fl, ρ')) h0 (fun i σ H _ ⟨Hs1, ρ1, R1, l1, _⟩ => hle_trans l1 R1.s) (fun i x σ H H2 hi ⟨Hs1, ρ2, R1, l1, e2⟩ y => ?_) (fun σ H ⟨Hs1, ρ2, R1, l1, e2⟩ => ?_)
  · obtain ⟨u, hu, rv⟩ := y
    obtain ⟨Hs3, R3, le3, rp⟩ := (rv Hs1 l1 R1.s).end R1
    have ed : us.drop i = u :: us.drop (i + 1) := by
      obtain ⟨h1, h2⟩ := List.getElem?_eq_some_iff.mp hu
      rw [List.drop_eq_getElem_cons h1, h2]
    rw [ed] at e2
    unfold mLoop at e2
    obtain ⟨ρ3, e3, e2⟩ := obind e2
    obtain ⟨f4, ρ4, e4, e2⟩ := obind2 e2
    refine ⟨as, Hs3, Fz, ρ2, u, ρ3, ea, R3, rp, e3, fun σ' R4 _ => ⟨as, Hs3, Fz, ρ3, f4, ρ4, ea, R4, e4, ?_⟩⟩
    cases f4 with
    | nx => exact fun σ' H' Hs4 R' l => ⟨Hs4, ρ4, R', hle_trans l1 (hle_trans le3 l), e2⟩
    | ct => exact fun σ' H' Hs4 R' l => ⟨Hs4, ρ4, R', hle_trans l1 (hle_trans le3 l), e2⟩
    | bk => cases e2; exact fun σ' H' Hs4 R' l => k _ _ _ R' (hle_trans le (hle_trans l1 (hle_trans le3 l)))
    | rt u => cases e2; exact fun v σ' H' Hs4 R' l rv => k v _ _ _ R' (hle_trans le (hle_trans l1 (hle_trans le3 l))) rv
  · rw [List.drop_length] at e2
    cases e2
    exact k _ _ _ R1 (hle_trans le l1)
end
/-! ### a def's body -/
def pickBack : List Bool → Rho → List U → Option (List U)
  | [], _, _ => some []
  | true :: bs, .ow u :: ρ, _ :: us => (pickBack bs ρ us).bind fun r => some (u :: r)
  | false :: bs, _ :: ρ, u :: us => (pickBack bs ρ us).bind fun r => some (u :: r)
  | _, _, _ => none
def defM (mask : List Bool) (n : Nat) (fr : Bool) (m : MS) : FM := fun us => (m (argsRho mask us ++ List.replicate n .no)).bind fun p => match p.1 with
  | .nx => if fr = true then none else (pickBack mask p.2 us).bind fun us' => some (.none, us')
  | .rt r => (pickBack mask p.2 us).bind fun us' => some (r, us')
  | _ => none
theorem pickBack_len : ∀ {bs : List Bool} {ρ : Rho} {us r : List U}, pickBack bs ρ us = some r → r.length = bs.length
  | [], _, _, r, h => by simp [pickBack] at h; subst h; rfl
  | true :: bs, .ow u :: ρ, _ :: us, r, h => by
    unfold pickBack at h
    obtain ⟨r', h1, h2⟩ := obind h
    cases h2
    simp [pickBack_len h1]
  | false :: bs, _ :: ρ, u :: us, r, h => by
    unfold pickBack at h
    obtain ⟨r', h1, h2⟩ := obind h
    cases h2
    simp [pickBack_len h1]
  | true :: _, [], _, _, h => by simp [pickBack] at h
  | false :: _, [], _, _, h => by simp [pickBack] at h
  | true :: _, .no :: _, _, _, h => by simp [pickBack] at h
  | true :: _, .sh _ :: _, _, _, h => by simp [pickBack] at h
  | true :: _, .ow _ :: _, [], _, h => by simp [pickBack] at h
  | false :: _, _ :: _, [], _, h => by simp [pickBack] at h
theorem pickBack_get : ∀ {bs : List Bool} {ρ : Rho} {us r : List U}, pickBack bs ρ us = some r → ∀ (j : Nat) (b : Bool) (u : U), bs[j]? = some b → r[j]? = some u → (b = true ∧ ρ[j]? = some (En.ow u)) ∨ (b = false ∧ us[j]? = some u)
  | [], _, _, r, h => by intro j b u h1; simp at h1
  | true :: bs, .ow w :: ρ, _ :: us, r, h => by
    unfold pickBack at h
    obtain ⟨r', h1, h2⟩ := obind h
    cases h2
    intro j b u g1 g2
    cases j with
    | zero => simp at g1 g2; subst g1; subst g2; exact .inl ⟨rfl, rfl⟩
    | succ j => simpa using pickBack_get h1 j b u (by simpa using g1) (by simpa using g2)
  | false :: bs, _ :: ρ, w :: us, r, h => by
    unfold pickBack at h
    obtain ⟨r', h1, h2⟩ := obind h
    cases h2
    intro j b u g1 g2
    cases j with
    | zero => simp at g1 g2; subst g1; subst g2; exact .inr ⟨rfl, rfl⟩
    | succ j => simpa using pickBack_get h1 j b u (by simpa using g1) (by simpa using g2)
  | true :: _, [], _, _, h => by simp [pickBack] at h
  | false :: _, [], _, _, h => by simp [pickBack] at h
  | true :: _, .no :: _, _, _, h => by simp [pickBack] at h
  | true :: _, .sh _ :: _, _, _, h => by simp [pickBack] at h
  | true :: _, .ow _ :: _, [], _, h => by simp [pickBack] at h
  | false :: _, _ :: _, [], _, h => by simp [pickBack] at h
/-- the slots that are handed back -/
def ioOf : Nat → List Bool → List Nat
  | _, [] => []
  | i, true :: bs => i :: ioOf (i + 1) bs
  | i, false :: bs => ioOf (i + 1) bs
theorem mem_ioOf : ∀ {bs : List Bool} {k i : Nat}, i ∈ ioOf k bs ↔ ∃ j, i = k + j ∧ bs[j]? = some true
  | [], k, i => by simp [ioOf]
  | true :: bs, k, i => by
    simp only [ioOf, List.mem_cons, mem_ioOf (bs := bs)]
    constructor
    · rintro (rfl | ⟨j, rfl, h⟩)
      · exact ⟨0, rfl, rfl⟩
      · exact ⟨j + 1, by omega, by simpa using h⟩
    · rintro ⟨j, rfl, h⟩
      cases j with
      | zero => exact .inl rfl
      | succ j => exact .inr ⟨j, by omega, by simpa using h⟩
  | false :: bs, k, i => by
    simp only [ioOf, mem_ioOf (bs := bs)]
    constructor
    · rintro ⟨j, rfl, h⟩; exact ⟨j + 1, by omega, by simpa using h⟩
    · rintro ⟨j, rfl, h⟩
      cases j with
      | zero => simp at h
      | succ j => exact ⟨j, by omega, by simpa using h⟩
theorem as_of : ∀ (l : List Nat) (P : Nat → Addr → Prop), (∀ i ∈ l, ∃ a, P i a) → ∃ as : List (Nat × Addr), as.map (·.1) = l ∧ ∀ p ∈ as, P p.1 p.2
  | [], P, _ => ⟨[], rfl, fun p hp => by cases hp⟩
  | i :: l, P, h => by
    obtain ⟨a, ha⟩ := h i List.mem_cons_self
    obtain ⟨as, e, k⟩ := as_of l P fun j hj => h j (List.mem_cons_of_mem _ hj)
    refine ⟨(i, a) :: as, by simp [e], fun p hp => ?_⟩
    rcases List.mem_cons.mp hp with rfl | hp
    · exact ha
    · exact k p hp
theorem app_get {α : Type} {l r : List α} {i : Nat} {x : α} (h : (l ++ r)[i]? = some x) : l[i]? = some x ∨ (l.length ≤ i ∧ r[i - l.length]? = some x) := by
  by_cases hi : i < l.length
  · rw [List.getElem?_append_left hi] at h; exact .inl h
  · rw [List.getElem?_append_right (by omega)] at h; exact .inr ⟨by omega, h⟩
theorem rep_get {n i : Nat} {x : En} (h : (List.replicate n En.no)[i]? = some x) : x = .no := by
  obtain ⟨h1, h2⟩ := List.getElem?_eq_some_iff.mp h
  rw [List.getElem_replicate] at h2
  exact h2.symm
/-- at a body's start -/
theorem body_start {K : Kn} {mask : List Bool} {n : Nat} {fr : Bool} {m : MS} {N : List Str} {vs : List V} {H : Hp} {Q : VK} {E : XK} (hN : N.length = mask.length + n) (h : spOf K mask fr (defM mask n fr m) vs H Q E) :
    tS K (ioOf 0 mask) fr m { nx := fun _ H' => Q .non H', rt := Q } (L2.start N vs) H := by
  obtain ⟨lv, Hs, Fz, us, r, us', lu, R, e, k⟩ := h
  have e' : (m (argsRho mask us ++ List.replicate n .no)).bind (fun p => match p.1 with
    | .nx => if fr = true then none else (pickBack mask p.2 us).bind fun us' => some (PyData.none, us')
    | .rt r => (pickBack mask p.2 us).bind fun us' => some (r, us')
    | _ => none) = some (r, us') := e
  obtain ⟨fl, ρ', e1, e2⟩ := obind2 e'
  have la : (argsRho mask us).length = mask.length := argsRho_len lu
  have es : L2.start N vs = vs.map some ++ List.replicate n none := by
    unfold L2.start
    rw [hN, lv]
    congr 2
    omega
  obtain ⟨as, eas, pas⟩ := as_of (ioOf 0 mask) (fun i a => (L2.start N vs)[i]? = some (some (V.ref a))) fun i hi => by
    obtain ⟨j, rfl, hb⟩ := mem_ioOf.mp hi
    have hj : j < mask.length := (List.getElem?_eq_some_iff.mp hb).1
    have hu : us[j]? = some us[j] := List.getElem?_eq_getElem (by omega)
    obtain ⟨a, h1, _⟩ := R.ow j us[j] (argsRho_at hb hu)
    refine ⟨a, ?_⟩
    rw [es, Nat.zero_add, List.getElem?_append_left (by rw [List.length_map]; omega)]
    exact h1
  have R0 : Rel K as (L2.start N vs) H Hs Fz (argsRho mask us ++ List.replicate n .no) := by
    have lm : (vs.map some).length = (argsRho mask us).length := R.len
    have low : ∀ {i : Nat} {x : En}, x ≠ .no → (argsRho mask us ++ List.replicate n .no)[i]? = some x → (argsRho mask us)[i]? = some x ∧ (L2.start N vs)[i]? = (vs.map some)[i]? := fun {i x} hx h => by
      rcases app_get h with h | ⟨_, h⟩
      · refine ⟨h, ?_⟩
        have := (List.getElem?_eq_some_iff.mp h).1
        rw [es, List.getElem?_append_left (by omega)]
      · exact absurd (rep_get h) hx
    refine ⟨by rw [es, List.length_append, List.length_append, lm, List.length_replicate, List.length_replicate], R.s, R.f, R.d, fun i u h => ?_, fun i u h => ?_, fun i j u w a h1 h2 h3 h4 => ?_, fun p hp => pas p hp⟩
    · obtain ⟨h1, h2⟩ := low (by intro z; cases z) h
      rw [h2]; exact R.sh i u h1
    · obtain ⟨h1, h2⟩ := low (by intro z; cases z) h
      rw [h2]; exact R.ow i u h1
    · obtain ⟨q1, q2⟩ := low (by intro z; cases z) h1
      obtain ⟨q3, q4⟩ := low (by intro z; cases z) h2
      rw [q2] at h3; rw [q4] at h4
      exact R.inj i j u w a q1 q3 h3 h4
  -- at the end
  have fin : ∀ {σ' : L2.St} {H' Hs' : Hp} {us' : List U}, Rel K as σ' H' Hs' Fz ρ' → HLe Hs Hs' → pickBack mask ρ' us = some us' → Rel K [] (vs.map some) H' Hs' Fz (argsRho mask us') ∧ ∀ (j : Nat) (w : U), (argsRho mask us')[j]? = some (En.ow w) → ρ'[j]? = some (En.ow w) ∧ σ'[j]? = (vs.map some)[j]? := fun {σ' H' Hs' us'} R' le pb => by
    have lp := pickBack_len pb
    have own : ∀ {j : Nat} {u : U}, (argsRho mask us')[j]? = some (En.ow u) → ρ'[j]? = some (En.ow u) ∧ σ'[j]? = (vs.map some)[j]? := fun {j u} h => by
      obtain ⟨b, u', h1, h2, h3⟩ := argsRho_get h
      obtain ⟨rfl, rfl⟩ := enOf_ow h3
      rcases pickBack_get pb j _ _ h1 h2 with ⟨_, q⟩ | ⟨z, _⟩
      · refine ⟨q, ?_⟩
        have hm : j ∈ as.map (·.1) := by rw [eas]; exact mem_ioOf.mpr ⟨j, by omega, h1⟩
        obtain ⟨p, hp, ep⟩ := List.mem_map.mp hm
        have q1 := R'.io p hp
        have q2 := pas p hp
        rw [ep] at q1 q2
        have hj : j < mask.length := (List.getElem?_eq_some_iff.mp h1).1
        rw [es, List.getElem?_append_left (by rw [List.length_map]; omega)] at q2
        rw [q1, q2]
      · cases z
    refine ⟨⟨by rw [List.length_map, argsRho_len (by omega)]; omega, R'.s, R'.f, R'.d, fun j u h => ?_, fun j u h => ?_, fun i j u w a h1 h2 h3 h4 => ?_, fun p hp => by cases hp⟩, fun j w h => own h⟩
    · obtain ⟨b, u', h1, h2, h3⟩ := argsRho_get h
      obtain ⟨rfl, rfl⟩ := enOf_sh h3
      rcases pickBack_get pb j _ _ h1 h2 with ⟨z, _⟩ | ⟨_, q⟩
      · cases z
      · obtain ⟨v, q1, q2⟩ := R.sh j u (argsRho_at h1 q)
        exact ⟨v, q1, rp_mono le _ q2⟩
    · obtain ⟨q1, q2⟩ := own h
      obtain ⟨a, z1, z2⟩ := R'.ow j u q1
      exact ⟨a, by rw [← q2]; exact z1, z2⟩
    · obtain ⟨q1, q2⟩ := own h1
      obtain ⟨q3, q4⟩ := own h2
      exact R'.inj i j u w a q1 q3 (by rw [q2]; exact h3) (by rw [q4]; exact h4)
  have frs : ∀ {σ' : L2.St} {H' Hs' : Hp} {us' : List U} {v : V} {r : U}, Rel K as σ' H' Hs' Fz ρ' → HLe Hs Hs' → pickBack mask ρ' us = some us' → RetV K fr Hs' H' Fz σ' ρ' v r → RetV K fr Hs' H' Fz (vs.map some) (argsRho mask us') v r := fun {σ' H' Hs' us' v r} R' le pb rv => by
    unfold RetV at rv ⊢
    split at rv
    · rename_i hf
      rw [if_pos hf]
      obtain ⟨a, e, n1, n2, n3, n4⟩ := rv
      refine ⟨a, e, n1, n2, n3, fun j w h z => ?_⟩
      obtain ⟨q1, q2⟩ := (fin R' le pb).2 j w h
      exact n4 j w q1 (by rw [q2]; exact z)
    · rename_i hf
      rw [if_neg hf]; exact rv
  refine ⟨as, Hs, Fz, _, fl, ρ', eas, R0, e1, ?_⟩
  cases fl with
  | nx =>
    simp only at e2
    split at e2
    · cases e2
    · rename_i hf
      obtain ⟨us'', e3, e2⟩ := obind e2
      cases e2
      exact fun σ' H' Hs' R' le => k .non H' Hs' (fin R' le e3).1 le (by unfold RetV; rw [if_neg hf]; exact .non)
  | bk => cases e2
  | ct => cases e2
  | rt u =>
    obtain ⟨us'', e3, e2⟩ := obind e2
    cases e2
    exact fun v σ' H' Hs' R' le rv => k v H' Hs' (fin R' le e3).1 le (frs R' le e3 rv)
section
variable {P : Program} {w : World} {K : PySem.W.Frag} {mg : Str → Option Value} {base : Heap}
/-- a def of the text: its body's mirror -/
theorem fn_ok {x qual : Str} {st : Stmt} {f : Addr} {fd : FuncData} {N ps : List Str} {k n : Nat} {mask : List Bool} {fr : Bool} {m : MS} (F : Fun K x qual st f fd) (S : FnScope N ps (defScope st)) (lp : ps.length = mask.length) (hN : N.length = mask.length + n)
    (hbody : ∀ (cdv : Value) (A : Around) (outer : List Env) (s : Shared) (H : Hp) (E : XK), Room k (A.deeper (envOfC qual (defScope st) s.heap.objs.size f cdv)) →
      BX (cxOf CX0 P w K mg base N qual (defScope st) f cdv A outer s H E).nox (ioOf 0 mask) fr (defBody st) m) : FnOk P w K mg base CX0 (k + 1) f fd ps (spOf ⟨K, P, w⟩ mask fr (defM mask n fr m)) := by
  refine F.ok S (fun vs H Q E h => by rw [lp]; exact h.1) fun cdv A outer s H vs Q E hr h => ?_
  exact ⟨_, hbody cdv A outer s H E hr, body_start hN h⟩
end
end G

/-! Layer G, part 6: comprehensions, sources. -/
namespace G
open PySem PySem.Spec PyProof.Rows L2
def wipeR (ρ : Rho) : List Nat → Rho
  | [] => ρ
  | v :: vs => (wipeR ρ vs).set v .no
/-- behind the block its own names are as they were (what was ours there is forgotten) -/
def unwipe (ρ0 ρ : Rho) : List Nat → Rho
  | [] => ρ
  | v :: vs => match ρ0[v]? with
    | some (.sh u) => (unwipe ρ0 ρ vs).set v (.sh u)
    | _ => (unwipe ρ0 ρ vs).set v .no
theorem wipeR_len (ρ : Rho) : ∀ vs, (wipeR ρ vs).length = ρ.length
  | [] => rfl
  | v :: vs => by unfold wipeR; rw [List.length_set, wipeR_len ρ vs]
theorem unwipe_len (ρ0 ρ : Rho) : ∀ vs, (unwipe ρ0 ρ vs).length = ρ.length
  | [] => rfl
  | v :: vs => by unfold unwipe; split <;> rw [List.length_set, unwipe_len ρ0 ρ vs]
theorem wipeR_some {ρ : Rho} {i : Nat} {x : En} : ∀ {vs : List Nat}, (wipeR ρ vs)[i]? = some x → x = .no ∨ (ρ[i]? = some x ∧ i ∉ vs)
  | [], h => .inr ⟨h, by simp⟩
  | v :: vs, h => by
    unfold wipeR at h
    by_cases hi : i = v
    · subst hi
      by_cases hl : i < (wipeR ρ vs).length
      · rw [List.getElem?_set_self hl] at h; exact .inl (Option.some.inj h).symm
      · rw [List.getElem?_eq_none (by rw [List.length_set]; omega)] at h; cases h
    · rw [List.getElem?_set_ne (Ne.symm hi)] at h
      rcases wipeR_some h with h | ⟨h1, h2⟩
      · exact .inl h
      · exact .inr ⟨h1, by simp only [List.mem_cons, not_or]; exact ⟨hi, h2⟩⟩
theorem unwipe_some {ρ0 ρ : Rho} {i : Nat} {x : En} : ∀ {vs : List Nat}, (unwipe ρ0 ρ vs)[i]? = some x → x = .no ∨ (ρ[i]? = some x ∧ i ∉ vs) ∨ (∃ u, x = .sh u ∧ ρ0[i]? = some x)
  | [], h => .inr (.inl ⟨h, by simp⟩)
  | v :: vs, h => by
    unfold unwipe at h
    have rec_ : i ≠ v → (unwipe ρ0 ρ vs)[i]? = some x → x = .no ∨ (ρ[i]? = some x ∧ i ∉ v :: vs) ∨ (∃ u, x = .sh u ∧ ρ0[i]? = some x) := fun hi h => by
      rcases unwipe_some h with h | ⟨h1, h2⟩ | h
      · exact .inl h
      · exact .inr (.inl ⟨h1, by simp only [List.mem_cons, not_or]; exact ⟨hi, h2⟩⟩)
      · exact .inr (.inr h)
    split at h
    · rename_i u hu
      by_cases hi : i = v
      · subst hi
        by_cases hl : i < (unwipe ρ0 ρ vs).length
        · rw [List.getElem?_set_self hl] at h; cases h; exact .inr (.inr ⟨u, rfl, hu⟩)
        · rw [List.getElem?_eq_none (by rw [List.length_set]; omega)] at h; cases h
      · rw [List.getElem?_set_ne (Ne.symm hi)] at h
        exact rec_ hi h
    · by_cases hi : i = v
      · subst hi
        by_cases hl : i < (unwipe ρ0 ρ vs).length
        · rw [List.getElem?_set_self hl] at h; exact .inl (Option.some.inj h).symm
        · rw [List.getElem?_eq_none (by rw [List.length_set]; omega)] at h; cases h
      · rw [List.getElem?_set_ne (Ne.symm hi)] at h
        exact rec_ hi h
theorem wipe_at {σ : L2.St} {i : Nat} {vs : List Nat} (h : i ∉ vs) : (wipe σ vs)[i]? = σ[i]? := wipe_out h
theorem wipe_none {σ : L2.St} {i : Nat} : ∀ {vs : List Nat}, i ∈ vs → (L2.wipe σ vs)[i]? = if i < σ.length then some none else none := fun {vs} => by
  induction vs with
  | nil => intro h; cases h
  | cons v r ih =>
    intro h
    unfold L2.wipe
    by_cases hv : i = v
    · subst hv
      by_cases hl : i < σ.length
      · rw [List.getElem?_set_self (by rw [wipe_length]; exact hl), if_pos hl]
      · rw [List.getElem?_eq_none (by rw [List.length_set, wipe_length]; omega), if_neg hl]
    · rw [List.getElem?_set_ne (Ne.symm hv)]
      exact ih ((List.mem_cons.mp h).resolve_left hv)
theorem wipe_eq {σ σ' : L2.St} {vs sl : List Nat} (hl : σ'.length = σ.length) (hs : ∀ i ∈ sl, i ∈ vs) (h : ∀ i, i ∉ sl → σ'[i]? = σ[i]?) : wipe σ' vs = wipe σ vs := by
  have gen : ∀ vs' : List Nat, ∀ i, (wipe σ' vs')[i]? = (wipe σ vs')[i]? ∨ i ∉ vs' := fun vs' i => by
    by_cases hi : i ∈ vs'
    · left
      have w : ∀ (τ : L2.St), ∀ vs' : List Nat, i ∈ vs' → i < τ.length → (wipe τ vs')[i]? = some none := fun τ vs' => by
        induction vs' with
        | nil => intro h; cases h
        | cons v r ih =>
          intro h hlt
          unfold wipe
          by_cases hv : i = v
          · subst hv; rw [List.getElem?_set_self (by rw [wipe_length]; exact hlt)]
          · rw [List.getElem?_set_ne (Ne.symm hv)]
            exact ih ((List.mem_cons.mp h).resolve_left hv) hlt
      by_cases hlt : i < σ.length
      · rw [w σ' vs' hi (by omega), w σ vs' hi hlt]
      · rw [List.getElem?_eq_none (by rw [wipe_length]; omega), List.getElem?_eq_none (by rw [wipe_length]; omega)]
    · exact .inr hi
  refine List.ext_getElem? fun i => ?_
  rcases gen vs i with e | e
  · exact e
  · rw [wipe_out e, wipe_out e]
    exact h i fun hm => e (hs i hm)
section
variable {K : Kn} {as : List (Nat × Addr)} {σ : L2.St} {H Hs Fz : Hp} {ρ : Rho}
/-- the block's own names forgotten -/
theorem Rel.wipe (R : Rel K as σ H Hs Fz ρ) (vs : List Nat) : Rel K [] (L2.wipe σ vs) H Hs Fz (wipeR ρ vs) where
  len := by rw [wipe_length, wipeR_len]; exact R.len
  s := R.s
  f := R.f
  d := R.d
  sh := fun i u h => by
    rcases wipeR_some h with h | ⟨h1, h2⟩
    · cases h
    · rw [wipe_at h2]; exact R.sh i u h1
  ow := fun i u h => by
    rcases wipeR_some h with h | ⟨h1, h2⟩
    · cases h
    · rw [wipe_at h2]; exact R.ow i u h1
  inj := fun i j u w a h1 h2 h3 h4 => by
    rcases wipeR_some h1 with h | ⟨q1, q2⟩
    · cases h
    · rcases wipeR_some h2 with h | ⟨q3, q4⟩
      · cases h
      · rw [wipe_at q2] at h3; rw [wipe_at q4] at h4
        exact R.inj i j u w a q1 q3 h3 h4
  io := fun p hp => by cases hp
/-- the object D of the frame holds something else -/
theorem Rel.other (R : Rel K as σ H Hs (upd Fz D o) ρ) (o' : HO) : Rel K as σ (upd H D o') Hs (upd Fz D o') ρ where
  len := R.len
  s := fun b ob e => by
    have nb : b ≠ D := fun z => by have := R.d b o (by rw [z, upd_same]); rw [this] at e; cases e
    rw [upd_ne nb]; exact R.s b ob e
  f := fun b ob e => by
    by_cases hb : b = D
    · subst hb; rw [upd_same] at e ⊢; exact e
    · rw [upd_ne hb] at e ⊢; exact R.f b ob (by rw [upd_ne hb]; exact e)
  d := fun b ob e => by
    by_cases hb : b = D
    · subst hb; exact R.d b o upd_same
    · rw [upd_ne hb] at e; exact R.d b ob (by rw [upd_ne hb]; exact e)
  sh := R.sh
  ow := fun i u h => by
    obtain ⟨a, h1, h2, h3, h4⟩ := R.ow i u h
    have na : a ≠ D := fun z => by rw [z, upd_same] at h3; cases h3
    rw [upd_ne na] at h3
    exact ⟨a, h1, h2, by rw [upd_ne na]; exact h3, h4.keep (hle_refl _) fun ob q => by rw [upd_ne na]; exact q⟩
  inj := R.inj
  io := R.io
/-- a new object, of the frame -/
theorem Rel.layF (R : Rel K as σ H Hs Fz ρ) {D : Addr} (o : HO) (hD : H D = none) : Rel K as σ (upd H D o) Hs (upd Fz D o) ρ where
  len := R.len
  s := hle_upd R.s o (hle_none R.s hD)
  f := hle_updB R.f D o
  d := fun b ob e => by
    by_cases hb : b = D
    · subst hb; exact hle_none R.s hD
    · rw [upd_ne hb] at e; exact R.d b ob e
  sh := R.sh
  ow := fun i u h => by
    obtain ⟨a, h1, h2, h3, h4⟩ := R.ow i u h
    obtain ⟨ob, q, _⟩ := h4.obj
    have na : a ≠ D := ne_of_none q hD
    exact ⟨a, h1, h2, by rw [upd_ne na]; exact h3, h4.keep (hle_refl _) fun ob q => by rw [upd_ne na]; exact q⟩
  inj := R.inj
  io := R.io
/-- behind the block -/
theorem Rel.unwipe {as' : List (Nat × Addr)} {H' Hs' : Hp} {ρ0 ρ' : Rho} {D : Addr} {o : HO} {vs : List Nat} (R0 : Rel K as σ H Hs Fz ρ0) (hD : H D = none) (R : Rel K as' (L2.wipe σ vs) H' Hs' (upd Fz D o) ρ') (le : HLe Hs Hs') :
    Rel K as σ H' Hs' Fz (unwipe ρ0 ρ' vs) ∧ Hs' D = none ∧ Fz D = none ∧ ∀ (i : Nat) (w : U), (G.unwipe ρ0 ρ' vs)[i]? = some (En.ow w) → σ[i]? ≠ some (some (V.ref D)) := by
  have fD : Fz D = none := hle_none R0.f hD
  have own : ∀ {i : Nat} {w : U}, (G.unwipe ρ0 ρ' vs)[i]? = some (En.ow w) → ρ'[i]? = some (En.ow w) ∧ i ∉ vs := fun {i w} h => by
    rcases unwipe_some h with h | h | ⟨u, h, _⟩
    · cases h
    · exact h
    · cases h
  refine ⟨⟨by rw [unwipe_len, ← R.len, wipe_length], R.s, fun b ob e => R.f b ob (by rw [upd_ne (ne_of_none e fD)]; exact e), fun b ob e => R.d b ob (by rw [upd_ne (ne_of_none e fD)]; exact e), fun i u h => ?_, fun i u h => ?_, fun i j u w a h1 h2 h3 h4 => ?_, R0.io⟩,
    R.d D o upd_same, fD, fun i w h z => ?_⟩
  · rcases unwipe_some h with h | ⟨h1, h2⟩ | ⟨w, _, h1⟩
    · cases h
    · obtain ⟨v, q1, q2⟩ := R.sh i u h1
      rw [wipe_at h2] at q1
      exact ⟨v, q1, q2⟩
    · obtain ⟨v, q1, q2⟩ := R0.sh i u h1
      exact ⟨v, q1, rp_mono le _ q2⟩
  · obtain ⟨h1, h2⟩ := own h
    obtain ⟨a, q1, q2, q3, q4⟩ := R.ow i u h1
    rw [wipe_at h2] at q1
    have na : a ≠ D := fun z => by rw [z, upd_same] at q3; cases q3
    rw [upd_ne na] at q3
    exact ⟨a, q1, q2, q3, q4⟩
  · obtain ⟨q1, q2⟩ := own h1
    obtain ⟨q3, q4⟩ := own h2
    exact R.inj i j u w a q1 q3 (by rw [wipe_at q2]; exact h3) (by rw [wipe_at q4]; exact h4)
  · obtain ⟨h1, h2⟩ := own h
    obtain ⟨a, q1, q2, q3, q4⟩ := R.ow i w h1
    rw [wipe_at h2, z] at q1
    cases q1
    rw [upd_same] at q3
    cases q3
end
/-! ### list comprehensions -/
abbrev TsX (X : Cx) (ifs : List Expr) (m : MB) : Prop := PTs X ifs (tT (kx X) m)
def mYes : MB := fun ρ => some (true, ρ)
theorem pts_imp {X : Cx} {ifs : List Expr} {t t' : TT} (h : PTs X ifs t) (k : ∀ σ H Q, t' σ H Q → t σ H Q) : PTs X ifs t' := ⟨fun pins s σ H Q I q => h.run pins s σ H Q I (k σ H Q q)⟩
theorem ts_nil {X : Cx} : TsX X [] mYes := pts_imp pts_nil fun σ H Q q => by
  obtain ⟨as, Hs, Fz, ρ, b, ρ', R, e, k⟩ := q
  cases e
  exact k H Hs R (hle_refl _)
theorem ts_one {X : Cx} {c : Expr} {m : MB} (h : TX X c m) : TsX X [c] m := pts_one h
def mLcLoop (g : MG) (t : MB) (me : MX) (vs : List Nat) : List U → List U → Rho → Option (List U × Rho)
  | [], acc, ρ => some (acc, ρ)
  | u :: us, acc, ρ => (g u ρ).bind fun ρ1 => (t ρ1).bind fun p => if p.1 = true then (me p.2).bind fun q => (asVal q.1).bind fun w => mLcLoop g t me vs us (acc ++ [w]) (wipeR q.2 vs)
    else mLcLoop g t me vs us acc (wipeR p.2 vs)
def mLC (mi : MI) (g : MG) (t : MB) (me : MX) (vs : List Nat) : MF := fun ρ => (mi ρ).bind fun p => (mLcLoop g t me vs p.1 [] (wipeR p.2 vs)).bind fun q => some (.list q.1, unwipe p.2 q.2 vs)
theorem rps_snoc {K : Kn} {H : Hp} {xs : List V} {us : List U} {x : V} {u : U} (h : Rps K H xs us) (r : Rp K H x u) : Rps K H (xs ++ [x]) (us ++ [u]) := _root_.PySem.Paired.snoc h r
theorem rd_lc {K : Kn} {mi : MI} {g : MG} {mt : MB} {me : MX} {sl vs : List Nat} (hsl : ∀ i ∈ sl, i ∈ vs) (σ : L2.St) (H : Hp) (Q : VK) (h : tF K (mLC mi g mt me vs) σ H Q) : tLc (tI K mi) (tG K [] sl g) (tT K mt) (tE K me) vs σ H Q := by
  obtain ⟨as, Hs, Fz, ρ, u, ρ', R, e, k⟩ := h
  obtain ⟨us, ρ1, e1, e⟩ := obind2 e
  obtain ⟨acc, ρ2, e2, e⟩ := obind2 e
  cases e
  refine ⟨as, Hs, Fz, ρ, us, ρ1, R, e1, fun J H1 Hs1 R1 le1 W lz D hD => ?_⟩
  -- between the turns
  refine lc_it W (fun i H => ∃ Hs2 ρ3 vacc ac, Rel K [] (L2.wipe σ vs) H Hs2 (upd Fz D (.lst vacc)) ρ3 ∧ HLe Hs1 Hs2 ∧ Rps K Hs2 vacc ac ∧ ac.length ≤ i ∧ mLcLoop g mt me vs (us.drop i) ac ρ3 = some (acc, ρ2))
    ⟨Hs1, wipeR ρ1 vs, [], [], (R1.wipe vs).layF (.lst []) hD, hle_refl _, .nil, Nat.le_refl _, e2⟩ (fun i H _ ⟨Hs2, ρ3, vacc, ac, R2, l2, _⟩ => hle_trans l2 R2.s) (fun i x H2 H3 hi ⟨Hs2, ρ3, vacc, ac, R2, l2, ra, la, e3⟩ y => ?_) (fun H2 ⟨Hs2, ρ3, vacc, ac, R2, l2, ra, la, e3⟩ => ?_)
  · obtain ⟨w, hw, rv⟩ := y
    obtain ⟨Hs3, R3, le3, rp⟩ := (rv Hs2 l2 R2.s).end R2
    have ed : us.drop i = w :: us.drop (i + 1) := by
      obtain ⟨h1, h2⟩ := List.getElem?_eq_some_iff.mp hw
      rw [List.drop_eq_getElem_cons h1, h2]
    rw [ed] at e3
    unfold mLcLoop at e3
    obtain ⟨ρ4, e4, e3⟩ := obind e3
    obtain ⟨b, ρ5, e5, e3⟩ := obind2 e3
    refine ⟨[], Hs3, _, ρ3, w, ρ4, rfl, R3, rp, e4, fun σ4 R4 f4 => ?_⟩
    have ew : L2.wipe σ4 vs = L2.wipe σ vs := by
      have q := wipe_eq (vs := vs) f4.2 hsl f4.1
      rw [q]
      have idem : ∀ i, (L2.wipe (L2.wipe σ vs) vs)[i]? = (L2.wipe σ vs)[i]? := fun i => by
        by_cases hi : i ∈ vs
        · rw [wipe_none hi, wipe_none hi, wipe_length]
        · rw [wipe_at hi]
      exact List.ext_getElem? idem
    refine ⟨ew, [], Hs3, _, ρ4, b, ρ5, R4, e5, fun H5 Hs5 R5 le5 => ?_⟩
    cases b with
    | false =>
      rw [if_neg (by decide)]
      simp only [Bool.false_eq_true, if_false] at e3
      have R6 := R5.wipe vs
      rw [ew] at R6
      exact ⟨Hs5, wipeR ρ5 vs, vacc, ac, R6, hle_trans l2 (hle_trans le3 le5), rps_mono (hle_trans le3 le5) _ ra, Nat.le_succ_of_le la, e3⟩
    | true =>
      rw [if_pos rfl]
      simp only [if_true] at e3
      obtain ⟨tv, ρ6, e6, e3⟩ := obind2 e3
      obtain ⟨z, e7, e3⟩ := obind e3
      refine ⟨[], Hs5, _, ρ5, tv, ρ6, R5, e6, fun y H6 Hs6 R6 le6 ry => ?_⟩
      have ry' : Rp K Hs6 y z := by
        cases tv with
        | val q => cases e7; exact ry
        | own i => cases e7
      have ra6 := rps_mono (hle_trans le3 (hle_trans le5 le6)) _ ra
      refine ⟨vacc, R6.f D _ upd_same, by rw [paired_len ra6]; omega, ?_⟩
      have R7 := (R6.other (.lst (vacc ++ [y]))).wipe vs
      rw [ew] at R7
      exact ⟨Hs6, wipeR ρ6 vs, vacc ++ [y], ac ++ [z], R7, hle_trans l2 (hle_trans le3 (hle_trans le5 le6)), rps_snoc ra6 ry', by rw [List.length_append, List.length_singleton]; omega, e3⟩
  · rw [List.drop_length] at e3
    have e3' : some (ac, ρ3) = some (acc, ρ2) := e3
    cases e3'
    obtain ⟨R3, n1, n2, no⟩ := R1.unwipe hD R2 l2
    refine k D H2 Hs2 R3 (hle_trans le1 l2) ⟨n1, n2, ⟨Nat.le_trans la lz, vacc, R2.f D _ upd_same, ra⟩, no⟩
section
variable {X : Cx} {io : List Nat} {fr : Bool} {elt tg iter : Expr} {ifs : List Expr} {scope : Scope} {pos : Pos} {mi : MI} {g : MG} {mt : MB} {me : MX} {sl : List Nat}
theorem f_lc (own : List (Str × Nat)) (hc : X.calm = true) (hN : X.N.Nodup) (hi : IX X tg iter mi) (ok : BlkOk X.N X.env.scope scope own)
    (hg : ∀ (s : Shared) (H : Hp) (C : Addr) (cl : List (Str × Addr)) (fp : List Addr), GX (X.blk s H scope (compEnvC scope cl C X.env) fp) [] sl tg g) (ht : ∀ (s : Shared) (H : Hp) (C : Addr) (cl : List (Str × Addr)) (fp : List Addr), TsX (X.blk s H scope (compEnvC scope cl C X.env) fp) ifs mt)
    (he : ∀ (s : Shared) (H : Hp) (C : Addr) (cl : List (Str × Addr)) (fp : List Addr), EX (X.blk s H scope (compEnvC scope cl C X.env) fp) elt me) (hsl : ∀ i ∈ sl, i ∈ own.map (·.2) := by decide) (hs : ∀ x, foldedSetIterable iter X.env x = pure x := by intro _; rfl) :
    FX X (.ListComp elt [⟨tg, iter, ifs, 0⟩] scope pos) (mLC mi g mt me (own.map (·.2))) := pe_imp (pe_lc hc hN hi ok hg ht he hs) (rd_lc hsl)
theorem s_setLc (i : Nat) (own : List (Str × Nat)) {y : Str} {py spos : Pos} (hc : X.calm = true) (hN : X.N.Nodup) (hi : IX X tg iter mi) (ok : BlkOk X.N X.env.scope scope own)
    (hg : ∀ (s : Shared) (H : Hp) (C : Addr) (cl : List (Str × Addr)) (fp : List Addr), GX (X.blk s H scope (compEnvC scope cl C X.env) fp) [] sl tg g) (ht : ∀ (s : Shared) (H : Hp) (C : Addr) (cl : List (Str × Addr)) (fp : List Addr), TsX (X.blk s H scope (compEnvC scope cl C X.env) fp) ifs mt)
    (he : ∀ (s : Shared) (H : Hp) (C : Addr) (cl : List (Str × Addr)) (fp : List Addr), EX (X.blk s H scope (compEnvC scope cl C X.env) fp) elt me) (hsw : swapsWith (.ListComp elt [⟨tg, iter, ifs, 0⟩] scope pos) (some (.Name y py)) spos.line X.env = pure true)
    (hio : i ∉ io := by decide) (hy : X.N[i]? = some y := by rfl) (hyl : X.env.scope.names.lookup y = some .local := by rfl) (hsl : ∀ i ∈ sl, i ∈ own.map (·.2) := by decide) (hs : ∀ x, foldedSetIterable iter X.env x = pure x := by intro _; rfl) :
    SX X io fr (.Assign [.Name y py] (.ListComp elt [⟨tg, iter, ifs, 0⟩] scope pos) spos) (mSetF i (mLC mi g mt me (own.map (·.2)))) :=
  ps_imp (ps_setLc hc hN hy hyl hsw hi ok hg ht he hs) fun D σ H q => rd_lc hsl σ H _ (rd_setF hio D σ H q)
end
/-! ### sources -/
def itemsOf : U → Option (List U)
  | .list ds => some ds
  | .tuple ds => some ds
  | .str x => some (x.cps.toList.map fun c => .str ⟨#[c]⟩)
  | _ => none
def mIter (me : MX) : MI := fun ρ => (me ρ).bind fun p => (asVal p.1).bind fun u => (itemsOf u).bind fun us => some (us, p.2)
theorem walk_seq {K : Kn} {Hs : Hp} {J : It} {xs : List V} {us : List U} {G0 : Hp → Prop} (W : Walk J xs.length G0 (YAt xs)) (hG : ∀ H, HLe Hs H → G0 H) (r : Rps K Hs xs us) : Walk J us.length (fun H => HLe Hs H) (YU K Hs us) := by
  rw [← paired_len r]
  refine W.mono hG fun i H x H' hi le y => ?_
  obtain ⟨e, hx⟩ := y
  subst e
  obtain ⟨u, h1, h2⟩ := paired_fst r hx
  exact ⟨u, h1, fun Hs2 l2 _ => .inl ⟨rfl, rp_mono l2 _ h2⟩⟩
section
variable {X : Cx} {tg l : Expr} {me : MX}
theorem i_seq (hl : EX X l me) : IX X tg l (mIter me) := by
  refine ⟨fun pins s σ H R I h => ?_⟩
  obtain ⟨as, Hs, Fz, ρ, us, ρ', R0, e, k⟩ := h
  obtain ⟨tv, ρ1, e1, e⟩ := obind2 e
  obtain ⟨u, e2, e⟩ := obind e
  obtain ⟨us', e3, e⟩ := obind e
  cases e
  refine thn (hl.run pins s σ H (fun v H' => ∃ Hs', Rel (kx X) as σ H' Hs' Fz ρ1 ∧ HLe Hs Hs' ∧ Rp (kx X) Hs' v u) I ⟨as, Hs, Fz, ρ, tv, ρ1, R0, e1, fun v H' Hs' R' le r => ?_⟩) fun v s1 ⟨x, H1, I1, r1, Hs1, R1, le1, q⟩ => ?_
  · cases tv with
    | val w => cases e2; exact ⟨Hs', R', le, r⟩
    | own i => cases e2
  cases q with
  | lst q r lz =>
    cases e3
    cases r1
    obtain ⟨its, rv, p, hz⟩ := I1.list (hle_sqL R1.s q)
    refine wpAny_pyIter_list p.isList ?_
    refine ⟨s1.heap.objs.size, [s1.heap.objs.size], _, _, H1, rfl, I1.kept (t' := s1.toks) fun b o e => Heap.get?_push_of_some _ e, turn_list _ _, ⟨_, Heap.get?_push_size _ rfl, rfl, rfl⟩, fun b hb => ?_, k _ H1 Hs1 R1 le1 (walk_seq walk_list (fun H l => hle_sqL l q) r) lz⟩
    have e : b = s1.heap.objs.size := by simpa using hb
    subst e
    exact I1.fpOk (Nat.le_refl _) (I1.hok.fresh (Nat.le_refl _))
  | tup q r lz =>
    cases e3
    cases r1
    obtain ⟨its, rv, p, hz⟩ := I1.tuple (hle_sqTs R1.s q).sq
    refine wpAny_pyIter_tuple (show s1.heap.IsTuple _ its.toArray from p) ?_
    refine ⟨s1.heap.objs.size, [s1.heap.objs.size], _, _, H1, rfl, I1.kept (t' := s1.toks) fun b o e => Heap.get?_push_of_some _ e, turn_tuple _ _, ⟨_, Heap.get?_push_size _ rfl, rfl, rfl⟩, fun b hb => ?_, k _ H1 Hs1 R1 le1 (walk_seq walk_tup (fun H l => (hle_sqTs l q).sq) r) lz⟩
    have e : b = s1.heap.objs.size := by simpa using hb
    subst e
    exact I1.fpOk (Nat.le_refl _) (I1.hok.fresh (Nat.le_refl _))
  | str x lz =>
    cases e3
    obtain ⟨t, rfl⟩ := r1
    have len : (x.cps.toList.map fun c => (PyData.str ⟨#[c]⟩ : U)).length = x.cps.size := by rw [List.length_map, Array.length_toList]
    have W : Walk (Its x) (x.cps.toList.map fun c => (PyData.str ⟨#[c]⟩ : U)).length (fun H => HLe Hs1 H) (YU (kx X) Hs1 (x.cps.toList.map fun c => .str ⟨#[c]⟩)) := by
      rw [len]
      refine walk_str.mono (fun _ _ => trivial) fun i H y H' hi _ z => ?_
      obtain ⟨rfl, c, hc, rfl⟩ := z
      refine ⟨.str ⟨#[c]⟩, ?_, fun Hs2 _ _ => .inl ⟨rfl, .str _ (by show 1 ≤ sizeLine; decide)⟩⟩
      rw [List.getElem?_map, Array.getElem?_toList, hc]; rfl
    have q := k (Its x) H1 Hs1 R1 le1 W (by rw [len]; exact lz)
    cases ha : x.cps.all (· < 128)
    · exact wpAny_pyIter_wide ha (pi_one (tk := s1.toks) I1 _ (turn_str _ x t "str_iterator" (.inr rfl)) ⟨_, Heap.get?_push_size _ rfl, rfl, rfl⟩ q)
    · exact wpAny_pyIter_ascii ha (pi_one (tk := s1.toks) I1 _ (turn_str _ x t "str_ascii_iterator" (.inl rfl)) ⟨_, Heap.get?_push_size _ rfl, rfl, rfl⟩ q)
  | non => cases e3
  | bl b => cases e3
  | int i => cases e3
  | dK _ _ _ _ => cases e3
  | dX _ _ _ _ _ => cases e3
/-- range(n) -/
def rangeU (lo : Int) (n : Nat) : List U := (List.range n).map fun i => .int (lo + (i : Nat))
def asInts : List TV → Option (List Int)
  | [] => some []
  | .val (.int i) :: r => (asInts r).bind fun is => some (i :: is)
  | _ => none
theorem asInts_vs {K : Kn} {Hs : Hp} {σ : L2.St} : ∀ {tvs : List TV} {vs : List V} {is : List Int}, Paired (fun tv v => RT K Hs σ tv v) tvs vs → asInts tvs = some is → vs = is.map V.int
  | [], _, is, h, e => by cases h; cases e; rfl
  | .val (.int i) :: r, _, is, h, e => by
    cases h with | cons r1 t =>
    obtain ⟨is', e1, e2⟩ := obind e
    cases e2
    have r1' : Rp K Hs _ (.int i) := r1
    cases r1'
    rw [asInts_vs t e1]; rfl
  | .val .none :: _, _, _, _, e => by cases e
  | .val (.bool _) :: _, _, _, _, e => by cases e
  | .val (.str _) :: _, _, _, _, e => by cases e
  | .val (.list _) :: _, _, _, _, e => by cases e
  | .val (.tuple _) :: _, _, _, _, e => by cases e
  | .val (.dict _) :: _, _, _, _, e => by cases e
  | .own _ :: _, _, _, _, e => by cases e
def mRange1 (ms : MA) : MI := fun ρ => (ms ρ).bind fun p => (asInts p.1).bind fun is => match is with
  | [n] => if -16777216 ≤ n ∧ n ≤ 16777216 then some (rangeU 0 n.toNat, p.2) else none
  | _ => none
def mRange2 (ms : MA) : MI := fun ρ => (ms ρ).bind fun p => (asInts p.1).bind fun is => match is with
  | [a, b] => if 0 ≤ a ∧ a ≤ 16777216 ∧ 0 ≤ b ∧ b ≤ 16777216 then some (rangeU a (b - a).toNat, p.2) else none
  | _ => none
theorem walk_rangeU {K : Kn} {Hs : Hp} (lo : Int) (n : Nat) : Walk (Itr lo n) (rangeU lo n).length (fun H => HLe Hs H) (YU K Hs (rangeU lo n)) := by
  have len : (rangeU lo n).length = n := by unfold rangeU; rw [List.length_map, List.length_range]
  rw [len]
  refine walk_range.mono (fun _ _ => trivial) fun i H y H' hi _ z => ?_
  obtain ⟨rfl, rfl⟩ := z
  refine ⟨.int (lo + i), ?_, fun Hs2 _ _ => .inl ⟨rfl, .int _⟩⟩
  unfold rangeU
  rw [List.getElem?_map, List.getElem?_range hi]; rfl
theorem i_range1 {a : Expr} {ms : MA} {p pos : Pos} (hm : X.mg "range" = none) (ha : AX X [a] ms) (hg : Gl X "range" := by rfl) (hs : starEach [a] X.env = [(false, eval a X.env)] := by rfl) : IX X tg (.Call (.Name "range" p) [a] [] pos) (mRange1 ms) := by
  refine pi_imp (pi_range1 hg hm ha hs) fun σ H R q => ?_
  obtain ⟨as, Hs, Fz, ρ, us, ρ', R0, e, k⟩ := q
  obtain ⟨tvs, ρ1, e1, e⟩ := obind2 e
  obtain ⟨is, e2, e⟩ := obind e
  simp only at e
  refine ⟨as, Hs, Fz, ρ, tvs, ρ1, R0, e1, fun vs H1 Hs1 R1 le1 r1 => ?_⟩
  have ev := asInts_vs r1 e2
  split at e
  · rename_i n
    split at e
    · rename_i hn
      cases e
      exact ⟨n, ev, by omega, by omega, k _ H1 Hs1 R1 le1 (walk_rangeU 0 n.toNat) (by unfold rangeU; rw [List.length_map, List.length_range, sizeLine_eq]; omega)⟩
    · cases e
  · cases e
theorem i_range2 {a b : Expr} {ms : MA} {p pos : Pos} (hm : X.mg "range" = none) (ha : AX X [a, b] ms) (hg : Gl X "range" := by rfl) (hs : starEach [a, b] X.env = [(false, eval a X.env), (false, eval b X.env)] := by rfl) (hs2 : starEach [b] X.env = [(false, eval b X.env)] := by rfl) : IX X tg (.Call (.Name "range" p) [a, b] [] pos) (mRange2 ms) := by
  refine pi_imp (pi_range2 hg hm ha hs hs2) fun σ H R q => ?_
  obtain ⟨as, Hs, Fz, ρ, us, ρ', R0, e, k⟩ := q
  obtain ⟨tvs, ρ1, e1, e⟩ := obind2 e
  obtain ⟨is, e2, e⟩ := obind e
  simp only at e
  refine ⟨as, Hs, Fz, ρ, tvs, ρ1, R0, e1, fun vs H1 Hs1 R1 le1 r1 => ?_⟩
  have ev := asInts_vs r1 e2
  split at e
  · rename_i n m
    split at e
    · rename_i hn
      cases e
      exact ⟨n, m, ev, ⟨by omega, by omega, by omega, by omega⟩, k _ H1 Hs1 R1 le1 (walk_rangeU n (m - n).toNat) (by unfold rangeU; rw [List.length_map, List.length_range, sizeLine_eq]; omega)⟩
    · cases e
  · cases e
end
end G

/-! Layer G, part 7: the operations. -/
namespace G
open PySem PySem.Spec PyProof.Rows L2
/-! ### ints -/
def gInt (C : Int → Int → Bool) (f : Int → Int → U) : U → U → Option U := fun u w => match u with
  | .int i => match w with
    | .int j => if C i j = true then some (f i j) else none
    | _ => none
  | _ => none
theorem gInt_some {C f u w z} (h : gInt C f u w = some z) : ∃ i j, u = .int i ∧ w = .int j ∧ C i j = true ∧ z = f i j := by
  unfold gInt at h
  split at h
  · split at h
    · split at h
      · cases h; exact ⟨_, _, rfl, rfl, by assumption, rfl⟩
      · cases h
    · cases h
  · cases h
section
variable {X : Cx} {f : Value → Value → Sem Value}
theorem og_rI {C : Int → Int → Prop} {g : Int → Int → Int} (D : Int → Int → Bool) (hD : ∀ i j, D i j = true → C i j) (h : OpR X f (rI C fun i j => .int (g i j))) : OpG X f (gInt D fun i j => .int (g i j)) := by
  refine ⟨_, h, fun Hs H x y u w z Q le rx ry e k => ?_⟩
  obtain ⟨i, j, rfl, rfl, hc, rfl⟩ := gInt_some e
  have rx' : x = .int i := rx
  have ry' : y = .int j := ry
  exact ⟨i, j, rx', ry', hD i j hc, k _ _ (.inl ⟨rfl, .int _⟩)⟩
theorem og_rI0 {g : Int → Int → Int} (h : OpR X f (rI0 fun i j => .int (g i j))) : OpG X f (gInt (fun _ _ => true) fun i j => .int (g i j)) := by
  refine ⟨_, h, fun Hs H x y u w z Q le rx ry e k => ?_⟩
  obtain ⟨i, j, rfl, rfl, hc, rfl⟩ := gInt_some e
  have rx' : x = .int i := rx
  have ry' : y = .int j := ry
  exact ⟨i, j, rx', ry', k _ _ (.inl ⟨rfl, .int _⟩)⟩
theorem og_rB {g : Int → Int → Bool} (h : OpR X f (rI0 fun i j => .bl (g i j))) : OpG X f (gInt (fun _ _ => true) fun i j => .bool (g i j)) := by
  refine ⟨_, h, fun Hs H x y u w z Q le rx ry e k => ?_⟩
  obtain ⟨i, j, rfl, rfl, hc, rfl⟩ := gInt_some e
  have rx' : x = .int i := rx
  have ry' : y = .int j := ry
  exact ⟨i, j, rx', ry', k _ _ (.inl ⟨rfl, .bl _⟩)⟩
end
def yes2 : Int → Int → Bool := fun _ _ => true
def cMul : Int → Int → Bool := fun i j => (decide (-(2 ^ 64) < i) && decide (i < 2 ^ 64)) || (decide (-(2 ^ 64) < j) && decide (j < 2 ^ 64))
def cPos : Int → Int → Bool := fun _ j => decide (0 < j)
def cDiv : Int → Int → Bool := fun _ j => decide (0 < j) && decide (j < 2 ^ 64)
def cPow : Int → Int → Bool := fun i j => decide (0 ≤ j) && decide (j ≤ 1000000) && decide (i.natAbs < 2 ^ 64)
def gAddI : U → U → Option U := gInt (fun _ _ => true) fun i j => .int (i + j)
def gSub : U → U → Option U := gInt (fun _ _ => true) fun i j => .int (i - j)
def gMul : U → U → Option U := gInt cMul fun i j => .int (i * j)
def gMod : U → U → Option U := gInt cPos fun i j => .int (i % j)
def gFdiv : U → U → Option U := gInt cDiv fun i j => .int (i / j)
def gPow : U → U → Option U := gInt cPow fun i j => .int (i ^ j.toNat)
def gLt : U → U → Option U := gInt (fun _ _ => true) fun i j => .bool (decide (i < j))
def gLe : U → U → Option U := gInt (fun _ _ => true) fun i j => .bool (decide (i ≤ j))
def gGt : U → U → Option U := gInt (fun _ _ => true) fun i j => .bool (decide (j < i))
def gGe : U → U → Option U := gInt (fun _ _ => true) fun i j => .bool (decide (j ≤ i))
section
variable {X : Cx}
theorem o_addI : OpG X (binaryOp .Add) gAddI := og_rI0 op_add
theorem o_sub : OpG X (binaryOp .Sub) gSub := og_rI0 op_sub
theorem o_mul : OpG X (binaryOp .Mult) gMul := og_rI cMul (fun i j h => by
  unfold cMul at h
  simp only [Bool.or_eq_true, Bool.and_eq_true, decide_eq_true_eq] at h
  exact h) op_mul
theorem o_mod : OpG X (binaryOp .Mod) gMod := og_rI cPos (fun i j h => by unfold cPos at h; simpa using h) op_mod
theorem o_fdiv : OpG X (binaryOp .FloorDiv) gFdiv := og_rI cDiv (fun i j h => by
  unfold cDiv at h
  simp only [Bool.and_eq_true, decide_eq_true_eq] at h
  exact wide_div (b := 64) h.1 (by omega) (by decide) (by decide)) op_fdivW
theorem o_pow : OpG X (binaryOp .Pow) gPow := og_rI cPow (fun i j h => by
  unfold cPow at h
  simp only [Bool.and_eq_true, decide_eq_true_eq] at h
  exact ⟨h.1.1, h.1.2, h.2⟩) op_pow
theorem o_lt : OpG X (compareOp .Lt) gLt := og_rB op_lt
theorem o_le : OpG X (compareOp .LtE) gLe := og_rB op_le
theorem o_gt : OpG X (compareOp .Gt) gGt := og_rB op_gt
theorem o_ge : OpG X (compareOp .GtE) gGe := og_rB op_ge
/-! ### + of texts and tuples -/
def gAddS : U → U → Option U := fun u w => match u with
  | .str x => match w with
    | .str y => if x.length + y.length ≤ sizeLine then some (.str (x ++ y)) else none
    | _ => none
  | _ => none
theorem o_addS : OpG X (binaryOp .Add) gAddS := by
  refine ⟨_, op_add_str, fun Hs H x y u w z Q le rx ry e k => ?_⟩
  unfold gAddS at e
  split at e
  · split at e
    · split at e
      · rename_i x1 _ y1 hl
        cases e
        obtain ⟨rfl, _⟩ := rx
        obtain ⟨rfl, _⟩ := ry
        exact ⟨x1, y1, rfl, rfl, hl, k _ _ (.inl ⟨rfl, .str _ (by rw [strLen_append]; exact hl)⟩)⟩
      · cases e
    · cases e
  · cases e
def gAddT : U → U → Option U := fun u w => match u with
  | .tuple x => match w with
    | .tuple y => if x.length + y.length ≤ sizeLine then some (.tuple (x ++ y)) else none
    | _ => none
  | _ => none
theorem rps_app {K : Kn} {H : Hp} {xs ys : List V} {us ws : List U} (h : Rps K H xs us) (r : Rps K H ys ws) : Rps K H (xs ++ ys) (us ++ ws) := by
  induction h with
  | nil => exact r
  | cons r1 _ ih => exact .cons r1 ih
def rCatD (K : Kn) : R2 := fun x y H Q => ∃ a b xs ys, x = .ref a ∧ y = .ref b ∧ SqT K H a xs ∧ SqT K H b ys ∧ xs.length + ys.length ≤ sizeLine ∧
  (xs = [] → Q (.ref b) H) ∧ (xs ≠ [] → ys = [] → Q (.ref a) H) ∧ (xs ≠ [] → ys ≠ [] → ∀ p o, o.dict = none → H p = none → Q (.ref p) (upd H p (.frz o (.tup (xs ++ ys)))))
theorem op_catD : OpR X (binaryOp .Add) (rCatD (kx X)) := by
  intro pins s σ H x y v u Q I rx ry h
  obtain ⟨a, b, xs, ys, rfl, rfl, ha, hb, hz, q0, q1, q2⟩ := h
  cases rx
  cases ry
  obtain ⟨its, r1, p1, _⟩ := I.tuple ha
  obtain ⟨its2, r2, p2, _⟩ := I.tuple hb
  by_cases hx : xs = []
  · subst hx
    cases r1
    exact cat_tup0 p1 p2 ⟨.ref b, H, I, rfl, q0 rfl⟩
  · refine HT.cat_tup p1 p2 (fun z => hx (r1.nil_iff.mp z)) (fun z => ⟨.ref a, H, I, rfl, q1 hx (r2.nil_iff.mp z)⟩) (fun z => ?_) (by rw [← r1.length, ← r2.length]; exact hz)
    have hg := Heap.get?_push_size s.heap (o := { cls := .type "tuple", data := .seq (its ++ its2).toArray }) rfl
    refine ⟨.ref s.heap.objs.size, _, I.laid (t' := s.toks) (o := .frz { cls := .type "tuple", data := .seq (its ++ its2).toArray } (.tup (xs ++ ys))) (fun b ob q => Heap.get?_push_of_some _ q) (Nat.le_refl _) ?_, rfl, q2 hx (fun w => z (r2.nil_iff.mpr w)) _ _ rfl (I.hok.fresh (Nat.le_refl _))⟩
    exact ⟨hg, by rw [List.length_append]; exact hz, _, r1.append r2, ⟨_, hg, rfl, _, rfl⟩⟩
theorem o_addT : OpG X (binaryOp .Add) gAddT := by
  refine ⟨_, op_catD, fun Hs H x y u w z Q le rx ry e k => ?_⟩
  unfold gAddT at e
  split at e
  · split at e
    · split at e
      · rename_i x1 _ y1 hl
        cases e
        obtain ⟨l1, a, xs, rfl, qa, ra⟩ := rx
        obtain ⟨l2, b, ys, rfl, qb, rb⟩ := ry
        have la := paired_len ra
        have lb := paired_len rb
        refine ⟨a, b, xs, ys, rfl, rfl, (hle_sqTs le qa).sq, (hle_sqTs le qb).sq, by omega, fun ex => ?_, fun _ ey => ?_, fun _ _ p o hd hp => ?_⟩
        · subst ex
          cases ra
          exact k _ _ (.inl ⟨rfl, .tup qb rb l2⟩)
        · subst ey
          cases rb
          rw [List.append_nil] at k
          exact k _ _ (.inl ⟨rfl, .tup qa ra l1⟩)
        · exact k _ _ (.inr ⟨p, _, _, o, hp, rfl, rfl, rfl, hd, rps_app ra rb, by rw [List.length_append]; exact hl⟩)
      · cases e
    · cases e
  · cases e
def gAdd : U → U → Option U := orG gAddI (orG gAddS gAddT)
theorem o_add : OpG X (binaryOp .Add) gAdd := o_addI.or (o_addS.or o_addT)
/-- list + list -/
def gCat : U → U → Option U := fun u w => match u with
  | .list x => match w with
    | .list y => if x.length + y.length ≤ sizeLine then some (.list (x ++ y)) else none
    | _ => none
  | _ => none
end
/-! ### ==, != -/
def eqS : U → U → Option Bool
  | .int i, .int j => some (decide (i = j))
  | .str x, .str y => some (decide (x = y))
  | .bool a, .bool b => some (decide (a = b))
  | .none, .none => some true
  | .none, .int _ => some false
  | .int _, .none => some false
  | .none, .str _ => some false
  | .str _, .none => some false
  | .int _, .str _ => some false
  | .str _, .int _ => some false
  | u, w => if SeqAt.shaped u = true ∧ SeqAt.shaped w = true then some (PyData.eqv u w) else none
def gEq : U → U → Option U := fun u w => (eqS u w).bind fun b => some (.bool b)
def gNe : U → U → Option U := fun u w => (eqS u w).bind fun b => some (.bool !b)
mutual
theorem dp_of {K : Kn} {H : Hp} : ∀ (d : U) {v : V}, d.canLay0 = true → Rp K H v d → Dp K H v d
  | .none, _, _, h => by cases h; exact .non
  | .bool b, _, _, h => by cases h; exact .bl b
  | .int i, _, _, h => by cases h; exact .int i
  | .str x, _, _, h => by cases h; exact .str x
  | .list ds, _, c, h => by cases h with | lst q r l => exact .lst q (dps_of ds (by simpa [PyData.canLay0] using c) r)
  | .tuple ds, _, c, h => by cases h with | tup q r l => exact .tup q.sq (dps_of ds (by simpa [PyData.canLay0] using c) r)
  | .dict ds, _, c, h => by simp [PyData.canLay0] at c
theorem dps_of {K : Kn} {H : Hp} : ∀ (ds : List U) {vs : List V}, PyData.canLayAll0 ds = true → Rps K H vs ds → DpAll K H vs ds
  | [], _, _, h => by cases h; exact .nil
  | d :: ds, _, c, h => by
    cases h with | cons r t =>
    simp only [PyData.canLayAll0, Bool.and_eq_true] at c
    exact .cons (dp_of d c.1 r) (dps_of ds c.2 t)
end
theorem lay_of {d : U} (h : SeqAt.shaped d = true) : d.canLay0 = true := SeqAt.canLay_of_shaped h
section
variable {X : Cx}
theorem scal_data {K Hs H} {x y : V} {u w : U} (rx : Rp2 K Hs H x u) (ry : Rp2 K Hs H y w) {b : Bool} (h : eqS u w = some b) : (L2.scal x y = true ∧ decide (x = y) = b) ∨ (SeqAt.shaped u = true ∧ SeqAt.shaped w = true ∧ PyData.eqv u w = b) := by
  unfold eqS at h
  split at h
  · cases h; cases rx; cases ry; exact .inl ⟨rfl, by simp⟩
  · cases h; obtain ⟨rfl, _⟩ := rx; obtain ⟨rfl, _⟩ := ry; exact .inl ⟨rfl, by simp⟩
  · cases h; cases rx; cases ry; exact .inl ⟨rfl, by simp⟩
  · cases h; cases rx; cases ry; exact .inl ⟨rfl, by simp⟩
  · cases h; cases rx; cases ry; exact .inl ⟨rfl, by simp⟩
  · cases h; cases rx; cases ry; exact .inl ⟨rfl, by simp⟩
  · cases h; cases rx; obtain ⟨rfl, _⟩ := ry; exact .inl ⟨rfl, by simp⟩
  · cases h; obtain ⟨rfl, _⟩ := rx; cases ry; exact .inl ⟨rfl, by simp⟩
  · cases h; cases rx; obtain ⟨rfl, _⟩ := ry; exact .inl ⟨rfl, by simp⟩
  · cases h; obtain ⟨rfl, _⟩ := rx; cases ry; exact .inl ⟨rfl, by simp⟩
  · split at h
    · rename_i hs
      cases h
      exact .inr ⟨hs.1, hs.2, rfl⟩
    · cases h
theorem o_eq (hu : X.A.units + 64 < cLine) : OpG X (compareOp .Eq) gEq := by
  refine ⟨_, op_eq.or (op_eqD hu), fun Hs H x y u w z Q le rx ry e k => ?_⟩
  obtain ⟨b, e1, e2⟩ := obind e
  cases e2
  rcases scal_data rx ry e1 with ⟨h1, h2⟩ | ⟨h1, h2, h3⟩
  · exact .inl ⟨h1, by rw [h2]; exact k _ _ (.inl ⟨rfl, .bl _⟩)⟩
  · exact .inr ⟨u, w, dp_of _ (lay_of h1) (rx.rp le), dp_of _ (lay_of h2) (ry.rp le), h1, h2, by rw [h3]; exact k _ _ (.inl ⟨rfl, .bl _⟩)⟩
theorem o_ne (hu : X.A.units + 64 < cLine) : OpG X (compareOp .NotEq) gNe := by
  refine ⟨_, op_ne.or (op_neD hu), fun Hs H x y u w z Q le rx ry e k => ?_⟩
  obtain ⟨b, e1, e2⟩ := obind e
  cases e2
  rcases scal_data rx ry e1 with ⟨h1, h2⟩ | ⟨h1, h2, h3⟩
  · exact .inl ⟨h1, by rw [h2]; exact k _ _ (.inl ⟨rfl, .bl _⟩)⟩
  · exact .inr ⟨u, w, dp_of _ (lay_of h1) (rx.rp le), dp_of _ (lay_of h2) (ry.rp le), h1, h2, by rw [h3]; exact k _ _ (.inl ⟨rfl, .bl _⟩)⟩
/-- is None -/
def isNone : U → Bool
  | .none => true
  | _ => false
def gIsN : U → U → Option U := fun u w => match w with
  | .none => some (.bool (isNone u))
  | _ => none
def gNotN : U → U → Option U := fun u w => match w with
  | .none => some (.bool !(isNone u))
  | _ => none
theorem isNone_v {K Hs H} {x : V} {u : U} (rx : Rp2 K Hs H x u) : decide (x = .non) = isNone u := by
  cases u with
  | none => cases rx; rfl
  | bool b => cases rx; rfl
  | int i => cases rx; rfl
  | str y => obtain ⟨rfl, _⟩ := rx; rfl
  | list ds => obtain ⟨_, a, xs, rfl, _⟩ := rx; rfl
  | tuple ds => obtain ⟨_, a, xs, rfl, _⟩ := rx; rfl
  | dict ds =>
    obtain ⟨_, h⟩ := rx
    rcases h with ⟨a, kvs, rfl, _⟩ | ⟨a, kvs, es, rfl, _⟩ <;> rfl
theorem o_isN : OpG X (compareOp .Is) gIsN := by
  refine ⟨_, op_isN, fun Hs H x y u w z Q le rx ry e k => ?_⟩
  unfold gIsN at e
  split at e
  · cases e
    cases ry
    exact ⟨rfl, by rw [isNone_v rx]; exact k _ _ (.inl ⟨rfl, .bl _⟩)⟩
  · cases e
theorem o_notN : OpG X (compareOp .IsNot) gNotN := by
  refine ⟨_, op_notN, fun Hs H x y u w z Q le rx ry e k => ?_⟩
  unfold gNotN at e
  split at e
  · cases e
    cases ry
    exact ⟨rfl, by rw [isNone_v rx]; exact k _ _ (.inl ⟨rfl, .bl _⟩)⟩
  · cases e
end
/-! ### in -/
def flatU : U → Bool
  | .none => true
  | .bool _ => true
  | .int _ => true
  | .str _ => true
  | _ => false
def eqF : U → U → Bool
  | .none, .none => true
  | .bool a, .bool b => a == b
  | .bool a, .int b => (if a then 1 else 0) == b
  | .int a, .bool b => a == (if b then 1 else 0)
  | .int a, .int b => a == b
  | .str a, .str b => a == b
  | _, _ => false
def seqU : U → Option (List U)
  | .list ds => some ds
  | .tuple ds => some ds
  | _ => none
def inU (x : U) (y : U) : Option Bool := match y with
  | .str z => match x with
    | .str w => some (!(Builtin.Str.occurrences z w 0 z.length 1).isEmpty)
    | _ => none
  | .list ds => if flatU x = true ∧ ds.all flatU = true then some (ds.any fun d => eqF d x) else if SeqAt.shaped x = true ∧ SeqAt.shaped (.list ds) = true then some (ds.any fun d => PyData.eqv d x) else none
  | .tuple ds => if flatU x = true ∧ ds.all flatU = true then some (ds.any fun d => eqF d x) else none
  | _ => none
def gIn : U → U → Option U := fun u w => (inU u w).bind fun b => some (.bool b)
def gNotIn : U → U → Option U := fun u w => (inU u w).bind fun b => some (.bool !b)
section
variable {X : Cx} {K : Kn} {H : Hp}
theorem flat_v {v : V} {u : U} (h : Rp K H v u) (f : flatU u = true) : flatV v = true := by
  cases h <;> first | rfl | cases f
theorem flats_v : ∀ {vs : List V} {us : List U}, Rps K H vs us → us.all flatU = true → vs.all flatV = true
  | _, _, .nil, _ => rfl
  | _, _, .cons r t, f => by
    rw [List.all_cons, Bool.and_eq_true] at f ⊢
    exact ⟨flat_v r f.1, flats_v t f.2⟩
theorem eqF_v {v x : V} {u w : U} (h : Rp K H v u) (hx : Rp K H x w) (f : flatU u = true) (g : flatU w = true) : eqV v x = eqF u w := by
  cases h <;> cases hx <;> first | rfl | cases f | cases g
theorem any_v {x : V} {w : U} (hx : Rp K H x w) (g : flatU w = true) : ∀ {vs : List V} {us : List U}, Rps K H vs us → us.all flatU = true → (vs.any fun v => eqV v x) = us.any fun u => eqF u w
  | _, _, .nil, _ => rfl
  | _, _, .cons r t, f => by
    rw [List.all_cons, Bool.and_eq_true] at f
    rw [List.any_cons, List.any_cons, eqF_v r hx f.1 g, any_v hx g t f.2]
theorem in_data {Hs : Hp} {x y : V} {u w : U} {b : Bool} (le : HLe Hs H) (rx : Rp2 K Hs H x u) (ry : Rp2 K Hs H y w) (e : inU u w = some b) :
    (∃ i j, x = .str i ∧ y = .str j ∧ (!(Builtin.Str.occurrences j i 0 j.length 1).isEmpty) = b) ∨ (∃ p xs, y = .ref p ∧ (SqL K H p xs ∨ SqT K H p xs) ∧ flatV x = true ∧ xs.all flatV = true ∧ inV x xs = b)
      ∨ (∃ d ds, Dp K H x d ∧ Dp K H y (.list ds) ∧ SeqAt.shaped d = true ∧ SeqAt.shaped (.list ds) = true ∧ (ds.any fun z => PyData.eqv z d) = b) := by
  unfold inU at e
  split at e
  · split at e
    · cases e
      obtain ⟨rfl, _⟩ := rx
      obtain ⟨rfl, _⟩ := ry
      exact .inl ⟨_, _, rfl, rfl, rfl⟩
    · cases e
  · split at e
    · rename_i ds f
      cases e
      have r := rx.rp le
      obtain ⟨_, a, xs, rfl, q, rs⟩ := ry
      have rs' := rps_mono le _ rs
      exact .inr (.inl ⟨a, xs, rfl, .inl q, flat_v r f.1, flats_v rs' f.2, any_v r f.1 rs' f.2⟩)
    · split at e
      · rename_i ds f g
        cases e
        exact .inr (.inr ⟨u, ds, dp_of _ (lay_of g.1) (rx.rp le), dp_of _ (lay_of g.2) (ry.rp le), g.1, g.2, rfl⟩)
      · cases e
  · split at e
    · rename_i ds f
      cases e
      have r := rx.rp le
      obtain ⟨_, a, xs, rfl, q, rs⟩ := ry
      have rs' := rps_mono le _ rs
      exact .inr (.inl ⟨a, xs, rfl, .inr (hle_sqTs le q).sq, flat_v r f.1, flats_v rs' f.2, any_v r f.1 rs' f.2⟩)
    · cases e
  · cases e
theorem o_in (hu : X.A.units + 65 < cLine) : OpG X (compareOp .In) gIn := by
  refine ⟨_, op_in_str.or (op_in_seq.or (op_inD hu)), fun Hs H x y u w z Q le rx ry e k => ?_⟩
  obtain ⟨b, e1, e2⟩ := obind e
  cases e2
  have kk : Q (.bl b) H := k _ _ (.inl ⟨rfl, .bl _⟩)
  rcases in_data le rx ry e1 with ⟨i, j, h1, h2, h3⟩ | ⟨p, xs, h1, h2, h3, h4, h5⟩ | ⟨d, ds, h1, h2, h3, h4, h5⟩
  · exact .inl ⟨i, j, h1, h2, by rw [h3]; exact kk⟩
  · exact .inr (.inl ⟨p, xs, h1, h2, h3, h4, by rw [if_neg (by decide), h5]; exact kk⟩)
  · exact .inr (.inr ⟨d, ds, h1, h2, h3, h4, by rw [h5]; exact kk⟩)
theorem o_notIn (hu : X.A.units + 65 < cLine) : OpG X (compareOp .NotIn) gNotIn := by
  refine ⟨_, L2.op_notIn_str.or (op_notIn_seq.or (op_notInD hu)), fun Hs H x y u w z Q le rx ry e k => ?_⟩
  obtain ⟨b, e1, e2⟩ := obind e
  cases e2
  have kk : Q (.bl !b) H := k _ _ (.inl ⟨rfl, .bl _⟩)
  rcases in_data le rx ry e1 with ⟨i, j, h1, h2, h3⟩ | ⟨p, xs, h1, h2, h3, h4, h5⟩ | ⟨d, ds, h1, h2, h3, h4, h5⟩
  · exact .inl ⟨i, j, h1, h2, by rw [h3]; exact kk⟩
  · exact .inr (.inl ⟨p, xs, h1, h2, h3, h4, by rw [if_pos rfl, h5]; exact kk⟩)
  · exact .inr (.inr ⟨d, ds, h1, h2, h3, h4, by rw [h5]; exact kk⟩)
end
/-! ### items -/
def gIx : U → U → Option U := fun u w => match w with
  | .int i => match u with
    | .list ds => atI ds i
    | .tuple ds => atI ds i
    | .str x => (atI x.cps.toList i).bind fun c => some (.str ⟨#[c]⟩)
    | _ => none
  | _ => none
section
variable {X : Cx} {K : Kn} {H : Hp}
theorem atI_v {vs : List V} {us : List U} (r : Rps K H vs us) {i : Int} {u : U} (h : atI us i = some u) : ∃ v, atI vs i = some v ∧ Rp K H v u := by
  unfold atI at h ⊢
  obtain ⟨j, h1, h2⟩ := obind h
  rw [← paired_len r] at h1
  rw [h1]
  exact pairedGet r h2
theorem o_ix : IxG X gIx := by
  refine ⟨_, ix_seq, fun Hs H x y u w z Q le rx ry e k => ?_⟩
  unfold gIx at e
  split at e
  · cases ry
    split at e
    · obtain ⟨_, a, xs, rfl, q, rs⟩ := rx
      obtain ⟨v, h1, h2⟩ := atI_v rs e
      exact .inl ⟨a, xs, _, v, rfl, rfl, q, h1, k _ _ (.inl ⟨rfl, h2⟩)⟩
    · obtain ⟨_, a, xs, rfl, q, rs⟩ := rx
      obtain ⟨v, h1, h2⟩ := atI_v rs e
      exact .inr (.inl ⟨a, xs, _, v, rfl, rfl, (hle_sqTs le q).sq, h1, k _ _ (.inl ⟨rfl, h2⟩)⟩)
    · obtain ⟨c, e1, e2⟩ := obind e
      cases e2
      obtain ⟨rfl, hl⟩ := rx
      exact .inr (.inr ⟨_, _, c, rfl, rfl, hl, e1, k _ _ (.inl ⟨rfl, .str _ (by show 1 ≤ sizeLine; decide)⟩)⟩)
    · cases e
  · cases e
end
/-! ### slices -/
abbrev MO := Rho → Option (Option Int × Rho)
def tO (K : Kn) (m : MO) : TO := fun σ H Q => ∃ as Hs Fz ρ o ρ', Rel K as σ H Hs Fz ρ ∧ m ρ = some (o, ρ') ∧ ∀ H' Hs', Rel K as σ H' Hs' Fz ρ' → HLe Hs Hs' → Q o H'
abbrev OX (X : Cx) (e : Option Expr) (m : MO) : Prop := PO X e (tO (kx X) m)
theorem po_imp {X : Cx} {e : Option Expr} {t t' : TO} (h : PO X e t) (k : ∀ σ H Q, t' σ H Q → t σ H Q) : PO X e t' := ⟨fun pins s σ H Q I q => h.run pins s σ H Q I (k σ H Q q)⟩
def moNone : MO := fun ρ => some (none, ρ)
def moSome (me : MX) : MO := fun ρ => (me ρ).bind fun p => match p.1 with
  | .val (.int i) => some (some i, p.2)
  | _ => none
theorem ox_none {X : Cx} : OX X none moNone := po_imp po_none fun σ H Q q => by
  obtain ⟨as, Hs, Fz, ρ, o, ρ', R, e, k⟩ := q
  cases e
  exact k H Hs R (hle_refl _)
theorem ox_some {X : Cx} {e : Expr} {me : MX} (h : EX X e me) : OX X (some e) (moSome me) := po_imp (po_some h) fun σ H Q q => by
  obtain ⟨as, Hs, Fz, ρ, o, ρ', R, e, k⟩ := q
  obtain ⟨tv, ρ1, e1, e⟩ := obind2 e
  simp only at e
  split at e
  · cases e
    refine ⟨as, Hs, Fz, ρ, _, _, R, e1, fun v H' Hs' R' le r => ?_⟩
    have r' : Rp (kx X) Hs' v (.int _) := r
    cases r'
    exact ⟨_, rfl, k H' Hs' R' le⟩
  · cases e
/-- the items of xs[lo:hi] -/
def cutU (xs : List U) (lo hi : Option Int) : List U := (xs.drop (HT.sIx xs.length 0 lo)).take (HT.sIx xs.length xs.length hi - HT.sIx xs.length 0 lo)
theorem cutU_length (xs : List U) (lo hi : Option Int) : (cutU xs lo hi).length ≤ xs.length := by
  unfold cutU
  rw [List.length_take, List.length_drop]
  omega
theorem cutU_whole {xs : List U} {lo hi : Option Int} (h1 : HT.sIx xs.length 0 lo = 0) (h2 : HT.sIx xs.length xs.length hi = xs.length) : cutU xs lo hi = xs := by
  unfold cutU
  rw [h1, h2, List.drop_zero, Nat.sub_zero, List.take_length]
theorem rps_drop {K : Kn} {H : Hp} {vs : List V} {us : List U} (r : Rps K H vs us) : ∀ n, Rps K H (vs.drop n) (us.drop n) := by
  induction r with
  | nil => intro n; simp; exact .nil
  | cons r1 t ih =>
    intro n
    cases n with
    | zero => exact .cons r1 t
    | succ n => exact ih n
theorem rps_take {K : Kn} {H : Hp} {vs : List V} {us : List U} (r : Rps K H vs us) : ∀ n, Rps K H (vs.take n) (us.take n) := by
  induction r with
  | nil => intro n; simp; exact .nil
  | cons r1 t ih =>
    intro n
    cases n with
    | zero => exact .nil
    | succ n => exact .cons r1 (ih n)
theorem rps_cut {K : Kn} {H : Hp} {vs : List V} {us : List U} (r : Rps K H vs us) (lo hi : Option Int) : Rps K H (cutV vs lo hi) (cutU us lo hi) := by
  unfold cutV cutU
  rw [paired_len r]
  exact rps_take (rps_drop r _) _
/-- of a text, a tuple, a list -/
def gSl (u : U) (lo hi : Option Int) : Option U := match u with
  | .str x => some (.str (cutS x lo hi))
  | .tuple ds => some (.tuple (cutU ds lo hi))
  | .list ds => some (.list (cutU ds lo hi))
  | _ => none
/-- of a list -/
def gSlL (u : U) (lo hi : Option Int) : Option U := match u with
  | .list ds => some (.list (cutU ds lo hi))
  | _ => none
def mSl (me : MX) (ml mh : MO) : MX := fun ρ => (me ρ).bind fun p => (ml p.2).bind fun q => (mh q.2).bind fun r => (deref r.2 p.1).bind fun u => (gSl u q.1 r.1).bind fun z => some (.val z, r.2)
def mSlF (me : MX) (ml mh : MO) : MF := fun ρ => (me ρ).bind fun p => (ml p.2).bind fun q => (mh q.2).bind fun r => (deref r.2 p.1).bind fun u => (gSlL u q.1 r.1).bind fun z => some (z, r.2)
section
variable {X : Cx} {e : Expr} {me : MX} {lo hi : Option Expr} {ml mh : MO} {pos p2 : Pos}
def rSlD (K : Kn) : V → Option Int → Option Int → Hp → VK → Prop := fun x lo hi H Q => ∃ a xs, x = .ref a ∧ SqT K H a xs ∧
  (HT.sIx xs.length 0 lo = 0 ∧ HT.sIx xs.length xs.length hi = xs.length → Q (.ref a) H) ∧ (¬ (HT.sIx xs.length 0 lo = 0 ∧ HT.sIx xs.length xs.length hi = xs.length) → ∀ p o, o.dict = none → H p = none → Q (.ref p) (upd H p (.frz o (.tup (cutV xs lo hi)))))
theorem sl_tupD : SlR X (rSlD (kx X)) := by
  intro pins s σ H x v vl vu lo hi sl Q I rx hs pl pu h
  obtain ⟨a, xs, rfl, hx, q1, q2⟩ := h
  cases rx
  obtain ⟨its, r, ht, hz⟩ := I.tuple hx
  have hlen : its.toArray.size = xs.length := by rw [List.size_toArray]; exact r.length.symm
  refine ⟨"tuple", _, PyProof.Rows.slot_tuple_getitem.lookup, ht.typeIs, ?_⟩
  by_cases hw : HT.sIx xs.length 0 lo = 0 ∧ HT.sIx xs.length xs.length hi = xs.length
  · exact L2.getItem_tuple_whole ht hs pl pu (by rw [hlen]; exact hw) ⟨.ref a, H, I, rfl, q1 hw⟩
  · refine HT.getItem_tuple_cut ht hs pl pu (by rw [hlen]; exact hw) ?_ (by rw [hlen]; exact hz)
    rw [hlen]
    have hg := Heap.get?_push_size s.heap (o := { cls := .type "tuple", data := .seq ((its.drop (HT.sIx xs.length 0 lo)).take (HT.sIx xs.length xs.length hi - HT.sIx xs.length 0 lo)).toArray }) rfl
    refine ⟨.ref s.heap.objs.size, _, I.laid (t' := s.toks) (o := .frz { cls := .type "tuple", data := .seq ((its.drop (HT.sIx xs.length 0 lo)).take (HT.sIx xs.length xs.length hi - HT.sIx xs.length 0 lo)).toArray } (.tup (cutV xs lo hi))) (fun b ob q => Heap.get?_push_of_some _ q) (Nat.le_refl _) ?_, rfl, q2 hw _ _ rfl (I.hok.fresh (Nat.le_refl _))⟩
    exact ⟨hg, Nat.le_trans (cutV_length xs lo hi) hz, _, (r.drop (HT.sIx xs.length 0 lo)).take (HT.sIx xs.length xs.length hi - HT.sIx xs.length 0 lo), ⟨_, hg, rfl, _, rfl⟩⟩
theorem x_slice (he : EX X e me) (hl : OX X lo ml) (hh : OX X hi mh) : EX X (.Subscript e (.Slice lo hi none p2) pos) (mSl me ml mh) := by
  refine pe_imp (pe_slice (L2.sl_str.or (sl_tupD.or sl_list)) he hl hh) fun σ H Q q => ?_
  obtain ⟨as, Hs, Fz, ρ, tv, ρ', R, e1, k⟩ := q
  obtain ⟨t1, ρ1, e2, e1⟩ := obind2 e1
  obtain ⟨o1, ρ2, e3, e1⟩ := obind2 e1
  obtain ⟨o2, ρ3, e4, e1⟩ := obind2 e1
  obtain ⟨u, e5, e1⟩ := obind e1
  obtain ⟨z, e6, e1⟩ := obind e1
  cases e1
  refine ⟨as, Hs, Fz, ρ, t1, ρ1, R, e2, fun v H1 Hs1 R1 le1 r1 => ⟨as, Hs1, Fz, ρ1, o1, ρ2, R1, e3, fun H2 Hs2 R2 le2 => ⟨as, Hs2, Fz, ρ2, o2, ρ3, R2, e4, fun H3 Hs3 R3 le3 => ?_⟩⟩⟩
  have lk := R3.look (r1.mono (hle_trans le2 le3)) e5
  unfold gSl at e6
  split at e6
  · cases e6
    obtain ⟨rfl, hz⟩ := lk
    exact .inl ⟨_, rfl, hz, k _ _ Hs3 R3 (hle_trans le1 (hle_trans le2 le3)) (show Rp (kx X) Hs3 _ _ from .str _ (Nat.le_trans (cutS_length _ _ _) hz))⟩
  · cases e6
    obtain ⟨hz, a, xs, rfl, qa, ra⟩ := lk
    have la := paired_len ra
    refine .inr (.inl ⟨a, xs, rfl, (hle_sqTs R3.s qa).sq, fun ⟨h1, h2⟩ => ?_, fun _ p o hd hp => ?_⟩)
    · refine k _ _ Hs3 R3 (hle_trans le1 (hle_trans le2 le3)) ?_
      rw [la] at h1 h2
      have rp : Rp (kx X) Hs3 (.ref a) (.tuple _) := .tup qa ra hz
      rw [← cutU_whole h1 h2] at rp
      exact rp
    · obtain ⟨Hs4, R4, le4, rp⟩ := ResV.end R3 (.inr ⟨p, _, _, o, hp, rfl, rfl, rfl, hd, rps_cut ra o1 o2, Nat.le_trans (cutU_length _ _ _) hz⟩)
      exact k _ _ Hs4 R4 (hle_trans le1 (hle_trans le2 (hle_trans le3 le4))) rp
  · cases e6
    obtain ⟨hz, a, xs, rfl, qa, ra⟩ := lk
    refine .inr (.inr ⟨a, xs, rfl, qa, fun p hp => ?_⟩)
    obtain ⟨Hs4, R4, le4, rp⟩ := ResA.end R3 (.inr ⟨p, _, _, hp, rfl, rfl, rfl, rps_cut ra o1 o2, Nat.le_trans (cutU_length _ _ _) hz⟩)
    exact k _ _ Hs4 R4 (hle_trans le1 (hle_trans le2 (hle_trans le3 le4))) rp
  · cases e6
theorem f_slice (he : EX X e me) (hl : OX X lo ml) (hh : OX X hi mh) : FX X (.Subscript e (.Slice lo hi none p2) pos) (mSlF me ml mh) := by
  refine pe_imp (pe_slice sl_list he hl hh) fun σ H Q q => ?_
  obtain ⟨as, Hs, Fz, ρ, tv, ρ', R, e1, k⟩ := q
  obtain ⟨t1, ρ1, e2, e1⟩ := obind2 e1
  obtain ⟨o1, ρ2, e3, e1⟩ := obind2 e1
  obtain ⟨o2, ρ3, e4, e1⟩ := obind2 e1
  obtain ⟨u, e5, e1⟩ := obind e1
  obtain ⟨z, e6, e1⟩ := obind e1
  cases e1
  refine ⟨as, Hs, Fz, ρ, t1, ρ1, R, e2, fun v H1 Hs1 R1 le1 r1 => ⟨as, Hs1, Fz, ρ1, o1, ρ2, R1, e3, fun H2 Hs2 R2 le2 => ⟨as, Hs2, Fz, ρ2, o2, ρ3, R2, e4, fun H3 Hs3 R3 le3 => ?_⟩⟩⟩
  have lk := R3.look (r1.mono (hle_trans le2 le3)) e5
  unfold gSlL at e6
  split at e6
  · cases e6
    obtain ⟨hz, a, xs, rfl, qa, ra⟩ := lk
    refine ⟨a, xs, rfl, qa, fun p hp => ?_⟩
    obtain ⟨b, eb, R4, fr⟩ := ResL.end R3 ⟨p, _, _, hp, rfl, rfl, rfl, rps_cut ra o1 o2, Nat.le_trans (cutU_length _ _ _) hz⟩
    cases eb
    exact k _ _ Hs3 R4 (hle_trans le1 (hle_trans le2 le3)) fr
  · cases e6
end
end G

/-! Layer G, part 8: built-ins, methods, stores. -/
namespace G
open PySem PySem.Spec PyProof.Rows L2
/-! ### built-ins called with data -/
def derefs (ρ : Rho) : List TV → Option (List U)
  | [] => some []
  | t :: r => (deref ρ t).bind fun u => (derefs ρ r).bind fun us => some (u :: us)
theorem Rel.looks {K : Kn} {as : List (Nat × Addr)} {σ : L2.St} {H Hs Fz : Hp} {ρ : Rho} (R : Rel K as σ H Hs Fz ρ) : ∀ {tvs : List TV} {vs : List V} {us : List U}, Paired (fun tv v => RT K Hs σ tv v) tvs vs → derefs ρ tvs = some us → Paired (Rp2 K Hs H) vs us
  | [], _, us, h, e => by cases h; cases e; exact .nil
  | t :: r, _, us, h, e => by
    cases h with | cons r1 r2 =>
    obtain ⟨u, e1, e⟩ := obind e
    obtain ⟨us', e2, e⟩ := obind e
    cases e
    exact .cons (R.look r1 e1) (R.looks r2 e2)
def Cv (K : Kn) (Rs : Kn → Hp → Hp → U → V → Hp → Prop) (g : List U → Option U) (r : List V → Hp → VK → Prop) : Prop :=
  ∀ (Hs H : Hp) (xs : List V) (us : List U) (z : U) (Q : VK), HLe Hs H → Paired (Rp2 K Hs H) xs us → g us = some z → (∀ v H', Rs K Hs H z v H' → Q v H') → r xs H Q
def CallG (X : Cx) (f : Value) (g : List U → Option U) : Prop := ∃ r, CallR X f r ∧ Cv (kx X) ResV g r
def CallL (X : Cx) (f : Value) (g : List U → Option U) : Prop := ∃ r, CallR X f r ∧ Cv (kx X) ResL g r
def orC (g g' : List U → Option U) : List U → Option U := fun us => (g us).or (g' us)
theorem Cv.or {K Rs g g'} {r r' : List V → Hp → VK → Prop} (h : Cv K Rs g r) (h' : Cv K Rs g' r') : Cv K Rs (orC g g') (fun xs H Q => r xs H Q ∨ r' xs H Q) := fun Hs H xs us z Q le rx e k => by
  unfold orC at e
  cases q : g us with
  | some z' => rw [q] at e; have e' : z' = z := Option.some.inj e; subst e'; exact .inl (h Hs H xs us z' Q le rx q k)
  | none => rw [q] at e; exact .inr (h' Hs H xs us z Q le rx e k)
theorem CallG.or {X f g g'} (h : CallG X f g) (h' : CallG X f g') : CallG X f (orC g g') := let ⟨_, a, b⟩ := h; let ⟨_, c, d⟩ := h'; ⟨_, a.or c, b.or d⟩
theorem CallL.or {X f g g'} (h : CallL X f g) (h' : CallL X f g') : CallL X f (orC g g') := let ⟨_, a, b⟩ := h; let ⟨_, c, d⟩ := h'; ⟨_, a.or c, b.or d⟩
def mBi (g : List U → Option U) (ms : MA) : MX := fun ρ => (ms ρ).bind fun p => (derefs p.2 p.1).bind fun us => (g us).bind fun z => some (.val z, p.2)
def mBiF (g : List U → Option U) (ms : MA) : MF := fun ρ => (ms ρ).bind fun p => (derefs p.2 p.1).bind fun us => (g us).bind fun z => some (z, p.2)
section
variable {X : Cx} {x : Str} {p pos : Pos} {e : Expr} {es : List Expr} {ms : MA} {id T : String} {g : List U → Option U}
theorem rd_bi {K : Kn} {r : List V → Hp → VK → Prop} (hr : Cv K ResV g r) (σ : L2.St) (H : Hp) (Q : VK) (h : tE K (mBi g ms) σ H Q) : tCB r (tA K ms) σ H Q := by
  obtain ⟨as, Hs, Fz, ρ, tv, ρ', R, e, k⟩ := h
  obtain ⟨tvs, ρ1, e1, e⟩ := obind2 e
  obtain ⟨us, e2, e⟩ := obind e
  obtain ⟨z, e3, e⟩ := obind e
  cases e
  refine ⟨as, Hs, Fz, ρ, tvs, _, R, e1, fun vs H1 Hs1 R1 le1 r1 => ?_⟩
  refine hr Hs1 H1 vs us z Q R1.s (R1.looks r1 e2) e3 fun v H' res => ?_
  obtain ⟨Hs3, R3, le3, rp⟩ := res.end R1
  exact k v H' Hs3 R3 (hle_trans le1 le3) rp
theorem rd_biF {K : Kn} {r : List V → Hp → VK → Prop} (hr : Cv K ResL g r) (σ : L2.St) (H : Hp) (Q : VK) (h : tF K (mBiF g ms) σ H Q) : tCB r (tA K ms) σ H Q := by
  obtain ⟨as, Hs, Fz, ρ, tv, ρ', R, e, k⟩ := h
  obtain ⟨tvs, ρ1, e1, e⟩ := obind2 e
  obtain ⟨us, e2, e⟩ := obind e
  obtain ⟨z, e3, e⟩ := obind e
  cases e
  refine ⟨as, Hs, Fz, ρ, tvs, _, R, e1, fun vs H1 Hs1 R1 le1 r1 => ?_⟩
  refine hr Hs1 H1 vs us _ Q R1.s (R1.looks r1 e2) e3 fun v H' res => ?_
  obtain ⟨a, rfl, R3, fr⟩ := res.end R1
  exact k a H' Hs1 R3 le1 fr
theorem x_bi (hc : CallG X (.builtin id) g) (hm : X.mg x = none) (hv : bootBuiltins x = some (.builtin id)) (ha : AX X (e :: es) ms) (hg : Gl X x := by rfl) (hn : x ≠ "__name__" := by decide) (hdb : (x == ("__debug__" : Str)) = false := by decide)
    (hs : starEach (e :: es) X.env = (false, eval e X.env) :: starEach es X.env := by rfl) (hpl : (backTo pos (starEach es X.env)).any (·.1) = false := by rfl) : EX X (.Call (.Name x p) (e :: es) [] pos) (mBi g ms) := by
  obtain ⟨r, h1, h2⟩ := hc
  exact pe_imp (pe_callB h1 hg hm hv ha hn hdb hs hpl) (rd_bi h2)
theorem f_bi (hc : CallL X (.builtin id) g) (hm : X.mg x = none) (hv : bootBuiltins x = some (.builtin id)) (ha : AX X (e :: es) ms) (hg : Gl X x := by rfl) (hn : x ≠ "__name__" := by decide) (hdb : (x == ("__debug__" : Str)) = false := by decide)
    (hs : starEach (e :: es) X.env = (false, eval e X.env) :: starEach es X.env := by rfl) (hpl : (backTo pos (starEach es X.env)).any (·.1) = false := by rfl) : FX X (.Call (.Name x p) (e :: es) [] pos) (mBiF g ms) := by
  obtain ⟨r, h1, h2⟩ := hc
  exact pe_imp (pe_callB h1 hg hm hv ha hn hdb hs hpl) (rd_biF h2)
theorem x_ty (hc : CallG X (.type T) g) (hm : X.mg x = none) (hv : bootBuiltins x = some (.type T)) (ha : AX X (e :: es) ms) (hg : Gl X x := by rfl) (hn : x ≠ "__name__" := by decide) (hdb : (x == ("__debug__" : Str)) = false := by decide)
    (hs : starEach (e :: es) X.env = (false, eval e X.env) :: starEach es X.env := by rfl) (hpl : (backTo pos (starEach es X.env)).any (·.1) = false := by rfl) : EX X (.Call (.Name x p) (e :: es) [] pos) (mBi g ms) := by
  obtain ⟨r, h1, h2⟩ := hc
  exact pe_imp (pe_callTy h1 hg hm hv ha hn hdb hs hpl) (rd_bi h2)
theorem f_ty (hc : CallL X (.type T) g) (hm : X.mg x = none) (hv : bootBuiltins x = some (.type T)) (ha : AX X (e :: es) ms) (hg : Gl X x := by rfl) (hn : x ≠ "__name__" := by decide) (hdb : (x == ("__debug__" : Str)) = false := by decide)
    (hs : starEach (e :: es) X.env = (false, eval e X.env) :: starEach es X.env := by rfl) (hpl : (backTo pos (starEach es X.env)).any (·.1) = false := by rfl) : FX X (.Call (.Name x p) (e :: es) [] pos) (mBiF g ms) := by
  obtain ⟨r, h1, h2⟩ := hc
  exact pe_imp (pe_callTy h1 hg hm hv ha hn hdb hs hpl) (rd_biF h2)
end
theorem pair1 {α β : Type} {G : α → β → Prop} {l : List α} {b : β} (h : Paired G l [b]) : ∃ a, l = [a] ∧ G a b := by
  cases h with | cons r t => cases t; exact ⟨_, rfl, r⟩
theorem pair2 {α β : Type} {G : α → β → Prop} {l : List α} {b c : β} (h : Paired G l [b, c]) : ∃ a d, l = [a, d] ∧ G a b ∧ G d c := by
  cases h with | cons r t => obtain ⟨d, rfl, r2⟩ := pair1 t; exact ⟨_, _, rfl, r, r2⟩
/-! len, tuple, list, sum, all, any, max, min, int -/
def gLen : List U → Option U := fun us => match us with
  | [.list ds] => some (.int ds.length)
  | [.tuple ds] => some (.int ds.length)
  | [.str x] => some (.int x.length)
  | _ => none
def gTuple : List U → Option U := fun us => match us with
  | [.list ds] => some (.tuple ds)
  | [.tuple ds] => some (.tuple ds)
  | _ => none
def gList : List U → Option U := fun us => match us with
  | [.list ds] => some (.list ds)
  | [.tuple ds] => some (.list ds)
  | _ => none
def intsU : List U → Option (List Int)
  | [] => some []
  | .int i :: r => (intsU r).bind fun is => some (i :: is)
  | _ => none
def boolsU : List U → Option (List Bool)
  | [] => some []
  | .bool b :: r => (boolsU r).bind fun bs => some (b :: bs)
  | _ => none
def gSum : List U → Option U := fun us => match us with
  | [.list ds] => (intsU ds).bind fun is => some (.int is.sum)
  | [.tuple ds] => (intsU ds).bind fun is => some (.int is.sum)
  | _ => none
def gAll : List U → Option U := fun us => match us with
  | [.list ds] => (boolsU ds).bind fun bs => some (.bool (bs.all id))
  | _ => none
def gAny : List U → Option U := fun us => match us with
  | [.list ds] => (boolsU ds).bind fun bs => some (.bool (bs.any id))
  | _ => none
def gMax2 : List U → Option U := fun us => match us with
  | [.int i, .int j] => some (.int (if j > i then j else i))
  | _ => none
def gMin2 : List U → Option U := fun us => match us with
  | [.int i, .int j] => some (.int (if j < i then j else i))
  | _ => none
def maxI : List Int → Int
  | [] => 0
  | i :: r => r.foldl max i
def minI : List Int → Int
  | [] => 0
  | i :: r => r.foldl min i
def gMax1 : List U → Option U := fun us => match us with
  | [.list ds] => (intsU ds).bind fun is => if is = [] then none else some (.int (maxI is))
  | _ => none
def gMin1 : List U → Option U := fun us => match us with
  | [.list ds] => (intsU ds).bind fun is => if is = [] then none else some (.int (minI is))
  | _ => none
def gInt1 : List U → Option U := fun us => match us with
  | [.int i] => some (.int i)
  | [.bool b] => some (.int (if b then 1 else 0))
  | _ => none
theorem intsU_v {K : Kn} {H : Hp} : ∀ {vs : List V} {us : List U} {is : List Int}, Rps K H vs us → intsU us = some is → vs = is.map V.int
  | _, [], is, h, e => by cases h; cases e; rfl
  | _, .int i :: r, is, h, e => by
    cases h with | cons r1 t =>
    obtain ⟨is', e1, e2⟩ := obind e
    cases e2
    cases r1
    rw [intsU_v t e1]; rfl
  | _, .none :: _, _, _, e => by cases e
  | _, .bool _ :: _, _, _, e => by cases e
  | _, .str _ :: _, _, _, e => by cases e
  | _, .list _ :: _, _, _, e => by cases e
  | _, .tuple _ :: _, _, _, e => by cases e
  | _, .dict _ :: _, _, _, e => by cases e
theorem boolsU_v {K : Kn} {H : Hp} : ∀ {vs : List V} {us : List U} {bs : List Bool}, Rps K H vs us → boolsU us = some bs → vs = bs.map V.bl
  | _, [], bs, h, e => by cases h; cases e; rfl
  | _, .bool b :: r, bs, h, e => by
    cases h with | cons r1 t =>
    obtain ⟨bs', e1, e2⟩ := obind e
    cases e2
    cases r1
    rw [boolsU_v t e1]; rfl
  | _, .none :: _, _, _, e => by cases e
  | _, .int _ :: _, _, _, e => by cases e
  | _, .str _ :: _, _, _, e => by cases e
  | _, .list _ :: _, _, _, e => by cases e
  | _, .tuple _ :: _, _, _, e => by cases e
  | _, .dict _ :: _, _, _, e => by cases e
theorem foldl_max_ge : ∀ (l : List Int) (a : Int), a ≤ l.foldl max a ∧ (∀ y ∈ l, y ≤ l.foldl max a) ∧ (l.foldl max a = a ∨ l.foldl max a ∈ l)
  | [], a => ⟨Int.le_refl _, fun _ h => (by cases h), Or.inl rfl⟩
  | x :: l, a => by
    obtain ⟨h1, h2, h3⟩ := foldl_max_ge l (max a x)
    rw [List.foldl_cons]
    refine ⟨by omega, fun y hy => ?_, ?_⟩
    · rcases List.mem_cons.mp hy with rfl | hy
      · omega
      · exact h2 y hy
    · rcases h3 with h3 | h3
      · by_cases hax : a ≤ x
        · exact .inr (by rw [h3, show max a x = x by omega]; exact List.mem_cons_self)
        · exact .inl (by rw [h3]; omega)
      · exact .inr (List.mem_cons_of_mem _ h3)
theorem foldl_min_le : ∀ (l : List Int) (a : Int), l.foldl min a ≤ a ∧ (∀ y ∈ l, l.foldl min a ≤ y) ∧ (l.foldl min a = a ∨ l.foldl min a ∈ l)
  | [], a => ⟨Int.le_refl _, fun _ h => (by cases h), Or.inl rfl⟩
  | x :: l, a => by
    obtain ⟨h1, h2, h3⟩ := foldl_min_le l (min a x)
    rw [List.foldl_cons]
    refine ⟨by omega, fun y hy => ?_, ?_⟩
    · rcases List.mem_cons.mp hy with rfl | hy
      · omega
      · exact h2 y hy
    · rcases h3 with h3 | h3
      · by_cases hax : a ≤ x
        · exact .inl (by rw [h3]; omega)
        · exact .inr (by rw [h3, show min a x = x by omega]; exact List.mem_cons_self)
      · exact .inr (List.mem_cons_of_mem _ h3)
theorem maxI_of {is : List Int} {m : Int} (hm : m ∈ is) (hle : ∀ y, y ∈ is → y ≤ m) : maxI is = m := by
  cases is with
  | nil => cases hm
  | cons i r =>
    obtain ⟨h1, h2, h3⟩ := foldl_max_ge r i
    show r.foldl max i = m
    have le1 : m ≤ r.foldl max i := by
      rcases List.mem_cons.mp hm with rfl | hm
      · exact h1
      · exact h2 m hm
    have le2 : r.foldl max i ≤ m := by
      rcases h3 with h3 | h3
      · rw [h3]; exact hle _ List.mem_cons_self
      · exact hle _ (List.mem_cons_of_mem _ h3)
    omega
theorem minI_of {is : List Int} {m : Int} (hm : m ∈ is) (hle : ∀ y, y ∈ is → m ≤ y) : minI is = m := by
  cases is with
  | nil => cases hm
  | cons i r =>
    obtain ⟨h1, h2, h3⟩ := foldl_min_le r i
    show r.foldl min i = m
    have le1 : r.foldl min i ≤ m := by
      rcases List.mem_cons.mp hm with rfl | hm
      · exact h1
      · exact h2 m hm
    have le2 : m ≤ r.foldl min i := by
      rcases h3 with h3 | h3
      · rw [h3]; exact hle _ List.mem_cons_self
      · exact hle _ (List.mem_cons_of_mem _ h3)
    omega
section
variable {X : Cx}
theorem c_len : CallG X (.builtin "len") gLen := by
  refine ⟨_, call_len_seq.or call_len_str, fun Hs H xs us z Q le r e k => ?_⟩
  unfold gLen at e
  split at e
  · cases e
    obtain ⟨v, rfl, l, a, ys, rfl, q, rs⟩ := pair1 r
    exact .inl ⟨a, ys, rfl, .inl q, by rw [paired_len rs]; exact k _ _ (.inl ⟨rfl, .int _⟩)⟩
  · cases e
    obtain ⟨v, rfl, l, a, ys, rfl, q, rs⟩ := pair1 r
    exact .inl ⟨a, ys, rfl, .inr (hle_sqTs le q).sq, by rw [paired_len rs]; exact k _ _ (.inl ⟨rfl, .int _⟩)⟩
  · cases e
    obtain ⟨v, rfl, rfl, l⟩ := pair1 r
    exact .inr ⟨_, rfl, l, k _ _ (.inl ⟨rfl, .int _⟩)⟩
  · cases e
theorem call_tupleD : CallR X (.type "tuple") (fun xs H Q => ∃ p ys, xs = [.ref p] ∧ ((SqL (kx X) H p ys ∧ ∀ l o, o.dict = none → H l = none → Q (.ref l) (upd H l (.frz o (.tup ys)))) ∨ (SqT (kx X) H p ys ∧ Q (.ref p) H))) := by
  intro pins s σ H xs us Q I r h
  obtain ⟨p, ys, rfl, h⟩ := h
  obtain ⟨u, rfl, rx⟩ := vals1 r
  cases rx
  rcases h with ⟨hq, q⟩ | ⟨hq, q⟩
  · obtain ⟨its, r', pl, hz⟩ := I.list hq
    have hlen := r'.length
    refine call_tuple_list pl.isList (fun h' kp => ?_) (by simp only [List.size_toArray] <;> omega)
    have I1 : Inv X pins σ H { s with heap := h' } := I.kept (t' := s.toks) kp
    have hg := Heap.get?_push_size h' (o := { cls := .type "tuple", data := .seq its.toArray }) rfl
    have I2 : Inv X pins σ (upd H h'.objs.size (.frz { cls := .type "tuple", data := .seq its.toArray } (.tup ys))) { s with heap := h'.push { cls := .type "tuple", data := .seq its.toArray } } :=
      I1.laid (t' := s.toks) (fun b o e => Heap.get?_push_of_some _ e) (Nat.le_refl _) (show ObjOk X.prog X.w _ _ _ (.frz _ (.tup ys)) from ⟨hg, hz, its, r', ⟨_, hg, rfl, _, rfl⟩⟩)
    exact ⟨.ref h'.objs.size, _, I2, rfl, q _ _ rfl (I1.hok.fresh (Nat.le_refl _))⟩
  · obtain ⟨its, r', pl, hz⟩ := I.tuple hq
    exact call_tuple_same pl ⟨.ref p, H, I, rfl, q⟩
theorem c_tuple : CallG X (.type "tuple") gTuple := by
  refine ⟨_, call_tupleD, fun Hs H xs us z Q le r e k => ?_⟩
  unfold gTuple at e
  split at e
  · cases e
    obtain ⟨v, rfl, l, a, ys, rfl, q, rs⟩ := pair1 r
    exact ⟨a, ys, rfl, .inl ⟨q, fun p o hd hp => k _ _ (.inr ⟨p, ys, _, o, hp, rfl, rfl, rfl, hd, rs, l⟩)⟩⟩
  · cases e
    obtain ⟨v, rfl, l, a, ys, rfl, q, rs⟩ := pair1 r
    exact ⟨a, ys, rfl, .inr ⟨(hle_sqTs le q).sq, k _ _ (.inl ⟨rfl, .tup q rs l⟩)⟩⟩
  · cases e
theorem c_list : CallL X (.type "list") gList := by
  refine ⟨_, call_list_of, fun Hs H xs us z Q le r e k => ?_⟩
  unfold gList at e
  split at e
  · cases e
    obtain ⟨v, rfl, l, a, ys, rfl, q, rs⟩ := pair1 r
    exact ⟨a, ys, rfl, .inl q, fun p hp => k _ _ ⟨p, ys, _, hp, rfl, rfl, rfl, rs, l⟩⟩
  · cases e
    obtain ⟨v, rfl, l, a, ys, rfl, q, rs⟩ := pair1 r
    exact ⟨a, ys, rfl, .inr (hle_sqTs le q).sq, fun p hp => k _ _ ⟨p, ys, _, hp, rfl, rfl, rfl, rs, l⟩⟩
  · cases e
/-- sum of a tuple of ints -/
theorem sum_tup (hc : X.calm = true) : CallR X (.builtin "sum") (fun vs H Q => ∃ (a : Addr) (ns : List Int), vs = [V.ref a] ∧ SqT (kx X) H a (ns.map V.int) ∧ Q (.int ns.sum) H) := by
  intro pins s σ H vs us Q I r h
  obtain ⟨a, ns, rfl, hs, q⟩ := h
  obtain ⟨its, rv, hl, _⟩ := I.tuple hs
  rw [Vals.ref1 r]
  obtain ⟨xs, e⟩ := rv.ints.allInts.items
  have hn : numsOf (intItems xs).toList = ns := by rw [← e]; exact rv.ints.numsOf
  rw [nums_intItems] at hn
  rw [e] at hl
  have hlt : a < s.heap.objs.size := by obtain ⟨_, e, _⟩ := hl; exact Heap.lt_size e
  refine call_sum_walkG (wpAny_pyIter_tuple (show s.heap.IsTuple a (intItems xs) from hl) ?_)
  refine ⟨s.heap.objs.size, _, _, _, _, _, numAt xs, rfl, Walks.tuple (A := X.A.in1) (I.ok.hd hc) _ a (Nat.ne_of_lt hlt) (intItems xs), ⟨⟨_, Heap.get?_push_size _ rfl, rfl, rfl⟩, ?_⟩, fun b hb => ?_, fun _ _ => intItems_at, fun h' tk t' hk => ?_⟩
  · obtain ⟨o, e1, e2⟩ := hl
    exact ⟨o, Heap.get?_push_of_some _ e1, e2⟩
  · show b < (s.heap.push _).objs.size
    rw [Heap.size_push]
    rcases List.mem_cons.mp hb with rfl | hb
    · exact Nat.lt_succ_self _
    · rcases List.mem_cons.mp hb with rfl | hb
      · exact Nat.lt_succ_of_lt hlt
      · cases hb
  · have hk2 : ∀ b o, s.heap.get? b = some o → h'.get? b = some o := fun b o e => hk b o (by
      intro hm
      have hb : b = s.heap.objs.size := by simpa using hm
      exact absurd (Heap.lt_size e) (by rw [hb]; exact Nat.lt_irrefl _)) (Heap.get?_push_of_some _ e)
    have sz : (intItems xs).size = xs.size := by simp [intItems]
    refine ⟨.int ns.sum, H, I.kept hk2, ⟨t', ?_⟩, q⟩
    rw [sz, preSum_eq, List.take_of_length_le (by simp), hn]
theorem c_sum (hc : X.calm = true) : CallG X (.builtin "sum") gSum := by
  refine ⟨_, (cr_sum hc).or (sum_tup hc), fun Hs H xs us z Q le r e k => ?_⟩
  unfold gSum at e
  split at e
  · obtain ⟨is, e1, e2⟩ := obind e
    cases e2
    obtain ⟨v, rfl, l, a, ys, rfl, q, rs⟩ := pair1 r
    rw [intsU_v rs e1] at q
    exact .inl ⟨a, is, rfl, q, k _ _ (.inl ⟨rfl, .int _⟩)⟩
  · obtain ⟨is, e1, e2⟩ := obind e
    cases e2
    obtain ⟨v, rfl, l, a, ys, rfl, q, rs⟩ := pair1 r
    rw [intsU_v rs e1] at q
    exact .inr ⟨a, is, rfl, (hle_sqTs le q).sq, k _ _ (.inl ⟨rfl, .int _⟩)⟩
  · cases e
theorem c_all (hc : X.calm = true) : CallG X (.builtin "all") gAll := by
  refine ⟨_, cr_all hc, fun Hs H xs us z Q le r e k => ?_⟩
  unfold gAll at e
  split at e
  · obtain ⟨is, e1, e2⟩ := obind e
    cases e2
    obtain ⟨v, rfl, l, a, ys, rfl, q, rs⟩ := pair1 r
    rw [boolsU_v rs e1] at q
    exact ⟨a, is, rfl, q, k _ _ (.inl ⟨rfl, .bl _⟩)⟩
  · cases e
theorem c_any (hc : X.calm = true) : CallG X (.builtin "any") gAny := by
  refine ⟨_, cr_any hc, fun Hs H xs us z Q le r e k => ?_⟩
  unfold gAny at e
  split at e
  · obtain ⟨is, e1, e2⟩ := obind e
    cases e2
    obtain ⟨v, rfl, l, a, ys, rfl, q, rs⟩ := pair1 r
    rw [boolsU_v rs e1] at q
    exact ⟨a, is, rfl, q, k _ _ (.inl ⟨rfl, .bl _⟩)⟩
  · cases e
theorem c_max2 (hc : X.calm = true) : CallG X (.builtin "max") gMax2 := by
  refine ⟨_, call_max2 hc, fun Hs H xs us z Q le r e k => ?_⟩
  unfold gMax2 at e
  split at e
  · cases e
    obtain ⟨a, d, rfl, r1, r2⟩ := pair2 r
    cases r1; cases r2
    exact ⟨_, _, rfl, k _ _ (.inl ⟨rfl, .int _⟩)⟩
  · cases e
theorem c_min2 (hc : X.calm = true) : CallG X (.builtin "min") gMin2 := by
  refine ⟨_, call_min2 hc, fun Hs H xs us z Q le r e k => ?_⟩
  unfold gMin2 at e
  split at e
  · cases e
    obtain ⟨a, d, rfl, r1, r2⟩ := pair2 r
    cases r1; cases r2
    exact ⟨_, _, rfl, k _ _ (.inl ⟨rfl, .int _⟩)⟩
  · cases e
theorem c_max1 (hc : X.calm = true) : CallG X (.builtin "max") gMax1 := by
  refine ⟨_, cr_max hc, fun Hs H xs us z Q le r e k => ?_⟩
  unfold gMax1 at e
  split at e
  · obtain ⟨is, e1, e2⟩ := obind e
    split at e2
    · cases e2
    · rename_i hn
      cases e2
      obtain ⟨v, rfl, l, a, ys, rfl, q, rs⟩ := pair1 r
      rw [intsU_v rs e1] at q
      refine ⟨a, is, rfl, q, by cases is with | nil => exact absurd rfl hn | cons _ _ => exact Nat.succ_pos _, fun m hm hle => ?_⟩
      rw [← maxI_of hm hle]
      exact k _ _ (.inl ⟨rfl, .int _⟩)
  · cases e
theorem c_min1 (hc : X.calm = true) : CallG X (.builtin "min") gMin1 := by
  refine ⟨_, cr_min hc, fun Hs H xs us z Q le r e k => ?_⟩
  unfold gMin1 at e
  split at e
  · obtain ⟨is, e1, e2⟩ := obind e
    split at e2
    · cases e2
    · rename_i hn
      cases e2
      obtain ⟨v, rfl, l, a, ys, rfl, q, rs⟩ := pair1 r
      rw [intsU_v rs e1] at q
      refine ⟨a, is, rfl, q, by cases is with | nil => exact absurd rfl hn | cons _ _ => exact Nat.succ_pos _, fun m hm hle => ?_⟩
      rw [← minI_of hm hle]
      exact k _ _ (.inl ⟨rfl, .int _⟩)
  · cases e
theorem c_int : CallG X (.type "int") gInt1 := by
  refine ⟨_, call_int1, fun Hs H xs us z Q le r e k => ?_⟩
  unfold gInt1 at e
  split at e
  · cases e
    obtain ⟨v, rfl, r1⟩ := pair1 r
    cases r1
    exact .inl ⟨_, rfl, k _ _ (.inl ⟨rfl, .int _⟩)⟩
  · cases e
    obtain ⟨v, rfl, r1⟩ := pair1 r
    cases r1
    exact .inr ⟨_, rfl, k _ _ (.inl ⟨rfl, .int _⟩)⟩
  · cases e
end
/-! ### isinstance -/
def tyName : U → String
  | .none => "NoneType"
  | .bool _ => "bool"
  | .int _ => "int"
  | .str _ => "str"
  | .list _ => "list"
  | .tuple _ => "tuple"
  | .dict _ => "dict"
def isiU (T : String) (u : U) : Bool := tyName u == T || (T == "int" && tyName u == "bool")
def noD : U → Option Unit
  | .dict _ => none
  | _ => some ()
def mIsi (T : String) (me : MX) : MX := fun ρ => (me ρ).bind fun p => (deref p.2 p.1).bind fun u => (noD u).bind fun _ => some (.val (.bool (isiU T u)), p.2)
def tys : List String := ["NoneType", "bool", "int", "str", "list", "tuple", "dict"]
def isiTab (a T : String) : Bool := a == T || (T == "int" && a == "bool")
theorem isi_tab : ∀ T ∈ ["int", "bool", "str", "tuple", "list", "dict"], ∀ a ∈ tys, kitB a T = some (isiTab a T) := by decide +kernel
section
variable {X : Cx} {e : Expr} {me : MX} {p p2 pos : Pos}
theorem tyX_of {K : Kn} {H Hs : Hp} {x : V} {u : U} (hd : noD u = some ()) (le : HLe Hs H) (r : Rp2 K Hs H x u) : TyX K H x (.type (tyName u)) := by
  cases u with
  | none => cases r; exact .base .non
  | bool b => cases r; exact .base (.bl b)
  | int i => cases r; exact .base (.int i)
  | str y => obtain ⟨rfl, _⟩ := r; exact .base (.str y)
  | list ds =>
    obtain ⟨_, a, xs, rfl, q, _⟩ := r
    rcases q with (q | ⟨o, q⟩) | ⟨o, its, n, q1, q2, _⟩
    · exact .base (.lst q)
    · exact .base (.frz q)
    · exact .kList q1 q2
  | tuple ds =>
    obtain ⟨_, a, xs, rfl, q, _⟩ := r
    rcases q with ⟨o, q, _⟩ | ⟨o, its, n, q1, q2, _⟩
    · exact .fTuple (le _ _ q)
    · exact .kTuple q1 q2
  | dict ds => cases hd
theorem x_isi (T : String) {xT : Str} (hT : T ∈ ["int", "bool", "str", "tuple", "list", "dict"]) (hm : X.mg "isinstance" = none) (hmT : X.mg xT = none) (hvT : bootBuiltins xT = some (.type T)) (he : EX X e me) (hg : Gl X "isinstance" := by rfl) (hgT : Gl X xT := by rfl)
    (hn : xT ≠ "__name__" := by decide) (hd : (xT == ("__debug__" : Str)) = false := by decide)
    (hs : starEach [e, .Name xT p2] X.env = (false, eval e X.env) :: starEach [.Name xT p2] X.env := by rfl) (hs2 : starEach [.Name xT p2] X.env = (false, eval (.Name xT p2) X.env) :: starEach [] X.env := by rfl) (hpl : (backTo pos (starEach [.Name xT p2] X.env)).any (·.1) = false := by rfl) :
    EX X (.Call (.Name "isinstance" p) [e, .Name xT p2] [] pos) (mIsi T me) := by
  refine pe_imp (pe_callB call_isi hg hm boot_isinstance (pa_cons he (pa_cons (pe_bltn (v := .ty T) hgT hmT hvT rfl hn hd) pa_nil hs2) hs) (by decide) (by decide) hs hpl) fun σ H Q q => ?_
  obtain ⟨as, Hs, Fz, ρ, tv, ρ', R, e1, k⟩ := q
  obtain ⟨t1, ρ1, e2, e1⟩ := obind2 e1
  obtain ⟨u, e3, e1⟩ := obind e1
  obtain ⟨⟨⟩, e5, e1⟩ := obind e1
  cases e1
  refine ⟨as, Hs, Fz, ρ, t1, _, R, e2, fun v H1 Hs1 R1 le1 r1 => ?_⟩
  have lk := R1.look r1 e3
  refine ⟨v, .ty T, _, _, isiU T u, rfl, .ty T, tyX_of e5 R1.s lk, ?_, k _ _ Hs1 R1 le1 (show Rp (kx X) Hs1 _ _ from .bl _)⟩
  have := isi_tab T hT (tyName u) (by cases u <;> simp [tyName, tys])
  exact kit_ty this
end
end G

/-! Layer G, part 9: methods and stores. -/
namespace G
open PySem PySem.Spec PyProof.Rows L2
/-! ### texts -/
def gUpper : U → Option U := fun u => match u with
  | .str a => if a.length ≤ 5592405 then some (.str (Txt.upper a)) else none
  | _ => none
def mUn (g : U → Option U) (me : MX) : MX := fun ρ => (me ρ).bind fun p => (deref p.2 p.1).bind fun u => (g u).bind fun z => some (.val z, p.2)
def strsU : List U → Option (List Str)
  | [] => some []
  | .str x :: r => (strsU r).bind fun xs => some (x :: xs)
  | _ => none
theorem strsU_v {K : Kn} {H : Hp} : ∀ {vs : List V} {us : List U} {is : List Str}, Rps K H vs us → strsU us = some is → vs = is.map V.str
  | _, [], is, h, e => by cases h; cases e; rfl
  | _, .str i :: r, is, h, e => by
    cases h with | cons r1 t =>
    obtain ⟨is', e1, e2⟩ := obind e
    cases e2
    cases r1
    rw [strsU_v t e1]; rfl
  | _, .none :: _, _, _, e => by cases e
  | _, .bool _ :: _, _, _, e => by cases e
  | _, .int _ :: _, _, _, e => by cases e
  | _, .list _ :: _, _, _, e => by cases e
  | _, .tuple _ :: _, _, _, e => by cases e
  | _, .dict _ :: _, _, _, e => by cases e
def joinOk (a : Str) (ys : List Str) : Prop := (ys.map (·.length)).sum + ys.length * a.length ≤ 16777216 ∧ (Txt.join a ys).length ≤ sizeLine
instance (a : Str) (ys : List Str) : Decidable (joinOk a ys) := by unfold joinOk; infer_instance
def gJoin (a : Str) (w : U) : Option U := (seqU w).bind fun ds => (strsU ds).bind fun ys => if joinOk a ys then some (.str (Txt.join a ys)) else none
def asStr : TV → Option Str
  | .val (.str a) => some a
  | _ => none
def mJoin (mo me : MX) : MX := fun ρ => (mo ρ).bind fun p => (asStr p.1).bind fun a => (me p.2).bind fun q => (deref q.2 q.1).bind fun w => (gJoin a w).bind fun z => some (.val z, q.2)
section
variable {X : Cx} {o e : Expr} {me mo : MX} {apos pos : Pos}
theorem x_upper (ho : EX X o mo) (hbase : attributeBase o "upper" X.env (eval o X.env) = eval o X.env := by rfl) (hline : (apos.endLine == pos.line) = true := by rfl) : EX X (.Call (.Attribute o "upper" apos) [] [] pos) (mUn gUpper mo) := by
  refine pe_imp (pe_upper ho hbase hline) fun σ H Q q => ?_
  obtain ⟨as, Hs, Fz, ρ, tv, ρ', R, e1, k⟩ := q
  obtain ⟨t1, ρ1, e2, e1⟩ := obind2 e1
  obtain ⟨u, e3, e1⟩ := obind e1
  obtain ⟨z, e4, e1⟩ := obind e1
  cases e1
  refine ⟨as, Hs, Fz, ρ, t1, _, R, e2, fun v H1 Hs1 R1 le1 r1 => ?_⟩
  have lk := R1.look r1 e3
  unfold gUpper at e4
  split at e4
  · split at e4
    · rename_i a hl
      cases e4
      obtain ⟨rfl, _⟩ := lk
      refine ⟨⟨a, rfl⟩, a, rfl, rfl, hl, k _ _ Hs1 R1 le1 (show Rp (kx X) Hs1 _ _ from .str _ ?_)⟩
      have := PyProof.Rows.len_upper a
      rw [sizeLine_eq]
      omega
    · cases e4
  · cases e4
theorem x_join (ho : EX X o mo) (he : EX X e me) (hs : starEach [e] X.env = [(false, eval e X.env)] := by rfl) (hbase : attributeBase o "join" X.env (eval o X.env) = eval o X.env := by rfl) (hline : (apos.endLine == pos.line) = true := by rfl) :
    EX X (.Call (.Attribute o "join" apos) [e] [] pos) (mJoin mo me) := by
  refine pe_imp (pe_join ho he hs hbase hline) fun σ H Q q => ?_
  obtain ⟨as, Hs, Fz, ρ, tv, ρ', R, e1, k⟩ := q
  obtain ⟨t1, ρ1, e2, e1⟩ := obind2 e1
  obtain ⟨a, e3, e1⟩ := obind e1
  obtain ⟨t2, ρ2, e4, e1⟩ := obind2 e1
  obtain ⟨w, e5, e1⟩ := obind e1
  obtain ⟨z, e6, e1⟩ := obind e1
  cases e1
  obtain ⟨ds, e7, e6⟩ := obind e6
  obtain ⟨ys, e8, e6⟩ := obind e6
  split at e6
  · rename_i hj
    cases e6
    refine ⟨as, Hs, Fz, ρ, t1, ρ1, R, e2, fun v H1 Hs1 R1 le1 r1 => ?_⟩
    have ra : v = .str a := by
      cases t1 with
      | own i => cases e3
      | val q =>
        have r1' : Rp (kx X) Hs1 v q := r1
        cases r1' <;> first | (cases e3; rfl) | cases e3
    subst ra
    refine ⟨⟨a, rfl⟩, as, Hs1, Fz, ρ1, t2, _, R1, e4, fun y H2 Hs2 R2 le2 r2 => ?_⟩
    have lk := R2.look r2 e5
    have k' := k (.str (Txt.join a ys)) H2 Hs2 R2 (hle_trans le1 le2) (show Rp (kx X) Hs2 _ _ from .str _ hj.2)
    unfold seqU at e7
    split at e7
    · cases e7
      obtain ⟨l, p, xs, rfl, q, rs⟩ := lk
      rw [strsU_v rs e8] at q
      exact ⟨a, p, ys, rfl, rfl, .inl q, hj.1, k'⟩
    · cases e7
      obtain ⟨l, p, xs, rfl, q, rs⟩ := lk
      rw [strsU_v rs e8] at q
      exact ⟨a, p, ys, rfl, rfl, .inr (hle_sqTs R2.s q).sq, hj.1, k'⟩
    · cases e7
  · cases e6
end
/-! ### our own list at a slot, changed by a method -/
def LmG (X : Cx) (id : String) (g : List U → List U → Option (U × List U)) : Prop := ∃ r, MtR X id r ∧ ∀ (Hs H : Hp) (a : Addr) (xs : List V) (ds : List U) (args : List V) (us : List U) (z : U) (ds' : List U) (Q : VK), HLe Hs H → H a = some (.lst xs) → Rps (kx X) Hs xs ds → ds.length ≤ sizeLine → Rps (kx X) Hs args us → g ds us = some (z, ds') →
  (∀ v xs', Rp (kx X) Hs v z → Rps (kx X) Hs xs' ds' → ds'.length ≤ sizeLine → Q v (upd H a (.lst xs'))) → r (.ref a) args H Q
def mMut (g : List U → List U → Option (U × List U)) (i : Nat) (ms : MA) : MX := fun ρ => match ρ[i]? with
  | some (.ow (.list _)) => (ms ρ).bind fun q => (vals q.1).bind fun us => match q.2[i]? with
    | some (.ow (.list ds)) => (g ds us).bind fun r => some (.val r.1, q.2.set i (.ow (.list r.2)))
    | _ => none
  | _ => none
section
variable {X : Cx} {e : Expr} {es : List Expr} {ms : MA} {name x : Str} {apos cpos p : Pos} {id : String} {g : List U → List U → Option (U × List U)}
theorem x_mut (i : Nat) (slot : Slot "list" name id) (hty : typeOf (.builtin id) = pure (.type "method_descriptor")) (hm : LmG X id g) (ha : AX X (e :: es) ms) (hN : X.N[i]? = some x := by rfl) (hv : Vis X.env.scope x := by first | exact Or.inl rfl | exact Or.inr (Or.inl rfl) | exact Or.inr (Or.inr rfl)) (hd : (x == ("__debug__" : Str)) = false := by decide)
    (hcd : (x == ("__classdict__" : Str)) = false := by decide) (hbase : attributeBase (.Name x p) name X.env (eval (.Name x p) X.env) = eval (.Name x p) X.env := by rfl)
    (hfew : ((backTo cpos (starEach (e :: es) X.env)).all (fun x => !x.1) && (backToKw cpos (keywordEach [] X.env)).all (fun x => x.1.isSome)
      && decide ((e :: es).length + ([] : List Keyword).length + (if ([] : List Keyword).isEmpty then 0 else 1) < 30)) = true := by rfl)
    (hline : (apos.endLine == cpos.line) = true := by rfl) (hs : starEach (e :: es) X.env = (false, eval e X.env) :: starEach es X.env := by rfl) (hplain : (backTo cpos (starEach es X.env)).any (·.1) = false := by rfl) :
    EX X (.Call (.Attribute (.Name x p) name apos) (e :: es) [] cpos) (mMut g i ms) := by
  obtain ⟨r, h1, h2⟩ := hm
  refine pe_imp (pe_bm F.plainAttrs_list slot hty h1 (pe_var hN hv hd hcd) ha hbase hfew hline hs hplain) fun σ H Q q => ?_
  obtain ⟨as, Hs, Fz, ρ, tv, ρ', R, e1, k⟩ := q
  unfold mMut at e1
  split at e1
  · rename_i ds0 hi
    obtain ⟨tvs, ρ1, e2, e1⟩ := obind2 e1
    obtain ⟨us, e3, e1⟩ := obind e1
    simp only at e1
    split at e1
    · rename_i ds hi2
      obtain ⟨z, ds', e4, e1⟩ := obind2 e1
      cases e1
      obtain ⟨a, g1, _, _, l0, xs0, g2, _⟩ := R.ow i _ hi
      refine ⟨_, g1, .inl ⟨rfl, _, SqL.of g2⟩, as, Hs, Fz, ρ, tvs, ρ1, R, e2, fun vs H1 Hs1 R1 le1 r1 => ?_⟩
      obtain ⟨a', q1, _, _, l1, xs, q2, q3⟩ := R1.ow i _ hi2
      rw [g1] at q1; cases q1
      refine h2 Hs1 H1 a xs ds vs us z ds' Q R1.s q2 q3 l1 (vals_rps r1 e3) e4 fun v xs' rz rs lz => ?_
      exact k v _ Hs1 (R1.put hi2 g1 (u := .list ds') (o := .lst xs') ⟨lz, xs', rfl, rs⟩) le1 rz
    · cases e1
  · cases e1
theorem x_mut0 (i : Nat) (slot : Slot "list" name id) (hty : typeOf (.builtin id) = pure (.type "method_descriptor")) (hm : LmG X id g) (hN : X.N[i]? = some x := by rfl) (hv : Vis X.env.scope x := by first | exact Or.inl rfl | exact Or.inr (Or.inl rfl) | exact Or.inr (Or.inr rfl)) (hd : (x == ("__debug__" : Str)) = false := by decide)
    (hcd : (x == ("__classdict__" : Str)) = false := by decide) (hbase : attributeBase (.Name x p) name X.env (eval (.Name x p) X.env) = eval (.Name x p) X.env := by rfl)
    (hline : (apos.endLine == cpos.line) = true := by rfl) :
    EX X (.Call (.Attribute (.Name x p) name apos) [] [] cpos) (mMut g i mNil) := by
  obtain ⟨r, h1, h2⟩ := hm
  refine pe_imp (pe_bm0 F.plainAttrs_list slot hty h1 (pe_var hN hv hd hcd) hbase hline) fun σ H Q q => ?_
  obtain ⟨as, Hs, Fz, ρ, tv, ρ', R, e1, k⟩ := q
  unfold mMut at e1
  split at e1
  · rename_i ds0 hi
    obtain ⟨tvs, ρ1, e2, e1⟩ := obind2 e1
    cases e2
    obtain ⟨us, e3, e1⟩ := obind e1
    cases e3
    simp only at e1
    split at e1
    · rename_i ds hi2
      obtain ⟨z, ds', e4, e1⟩ := obind2 e1
      cases e1
      obtain ⟨a, g1, _, _, l0, xs, q2, q3⟩ := R.ow i _ hi2
      refine ⟨_, g1, .inl ⟨rfl, _, SqL.of q2⟩, h2 Hs H a xs ds [] [] z ds' Q R.s q2 q3 l0 .nil e4 fun v xs' rz rs lz => ?_⟩
      exact k v _ Hs (R.put hi2 g1 (u := .list ds') (o := .lst xs') ⟨lz, xs', rfl, rs⟩) (hle_refl _) rz
    · cases e1
  · cases e1
end
def gAppend : List U → List U → Option (U × List U) := fun ds us => match us with
  | [u] => if ds.length < sizeLine then some (.none, ds ++ [u]) else none
  | _ => none
def gExtend : List U → List U → Option (U × List U) := fun ds us => match us with
  | [.list es] => if ds.length + es.length ≤ sizeLine then some (.none, ds ++ es) else none
  | [.tuple es] => if ds.length + es.length ≤ sizeLine then some (.none, ds ++ es) else none
  | _ => none
def gPop : List U → List U → Option (U × List U) := fun ds us => match us with
  | [] => (ds[ds.length - 1]?).bind fun u => some (u, ds.dropLast)
  | [.int i] => (ixN ds.length i).bind fun j => (ds[j]?).bind fun u => some (u, ds.eraseIdx j)
  | _ => none
def gClear : List U → List U → Option (U × List U) := fun _ us => match us with
  | [] => some (.none, [])
  | _ => none
section
variable {X : Cx}
theorem m_append : LmG X "list.append" gAppend := by
  refine ⟨_, mt_append, fun Hs H a xs ds args us z ds' Q le ha rs l ra e k => ?_⟩
  unfold gAppend at e
  split at e
  · split at e
    · rename_i hl
      cases e
      obtain ⟨v, rfl, r⟩ := pair1 ra
      exact ⟨a, xs, v, rfl, rfl, ha, by rw [paired_len rs]; exact hl, k _ _ .non (rps_snoc rs r) (by rw [List.length_append]; exact hl)⟩
    · cases e
  · cases e
theorem ext_list (l : Addr) (items : Array Value) (n : Nat) (b : Addr) (items2 : Array Value) (n2 : Nat) (dd : Option Addr) (sl : Array (Option Value)) (hc0 : ¬(!items.isEmpty && Builtin.List.listTooLong (items.size + items2.size)) = true) (hc1 : items.size ≤ sizeLine) (hs2 : items.size + items2.size ≤ sizeLine + 1) :
    Meets (Builtin.«list.extend» ⟨[.ref l, .ref b], []⟩) (fun _ R s => s.heap.get? l = some { cls := .type "list", dict := none, data := .seq items n, slots := #[] } ∧ s.heap.get? b = some { cls := .type "list", dict := dd, data := .seq items2 n2, slots := sl } ∧ R (.ok (.ret Value.none)) { s with heap := s.heap.update l (Obj.mapSeq fun x => x ++ items2), toks := s.toks }) :=
  .of_wp fun prog w A R s h => by
    obtain ⟨hp, g, d, tk, os⟩ := s; obtain ⟨hl, hb, h⟩ := h; have f1 := AutoSeq1.idx_int; have f2 := AutoSeq1.sub_tuple_tuple; have f3 := AutoSeq1.sub_list_list; have f4 := AutoSeq1.sub_tuple_list; have f5 := AutoSeq1.sub_list_tuple;
    have hz' : (items ++ items2).size ≤ sizeLine + 1 := by rw [Array.size_append]; exact hs2
    wp_walk using (wpAny_updateSeq hl rfl (hz := hc1) (_hz' := hz')), AutoSeq1.wpAny_loadPart' hl, AutoSeq1.wpAny_loadPart' hb; exact ⟨_, rfl, h⟩
theorem ext_tup (l : Addr) (items : Array Value) (n : Nat) (b : Addr) (items2 : Array Value) (n2 : Nat) (dd : Option Addr) (sl : Array (Option Value)) (hc0 : ¬(!items.isEmpty && Builtin.List.listTooLong (items.size + items2.size)) = true) (hc1 : items.size ≤ sizeLine) (hs2 : items.size + items2.size ≤ sizeLine + 1) :
    Meets (Builtin.«list.extend» ⟨[.ref l, .ref b], []⟩) (fun _ R s => s.heap.get? l = some { cls := .type "list", dict := none, data := .seq items n, slots := #[] } ∧ s.heap.get? b = some { cls := .type "tuple", dict := dd, data := .seq items2 n2, slots := sl } ∧ R (.ok (.ret Value.none)) { s with heap := s.heap.update l (Obj.mapSeq fun x => x ++ items2), toks := s.toks }) :=
  .of_wp fun prog w A R s h => by
    obtain ⟨hp, g, d, tk, os⟩ := s; obtain ⟨hl, hb, h⟩ := h; have f1 := AutoSeq1.idx_int; have f2 := AutoSeq1.sub_tuple_tuple; have f3 := AutoSeq1.sub_list_list; have f4 := AutoSeq1.sub_tuple_list; have f5 := AutoSeq1.sub_list_tuple;
    have hz' : (items ++ items2).size ≤ sizeLine + 1 := by rw [Array.size_append]; exact hs2
    wp_walk using (wpAny_updateSeq hl rfl (hz := hc1) (_hz' := hz')), AutoSeq1.wpAny_loadPart' hl, AutoSeq1.wpAny_loadPart' hb; exact ⟨_, rfl, h⟩
def rExtD (K : Kn) : V → List V → Hp → VK → Prop := fun x vs H Q => ∃ l b xs zs, x = .ref l ∧ vs = [.ref b] ∧ H l = some (.lst xs) ∧ (SqL K H b zs ∨ SqT K H b zs) ∧ xs.length + zs.length ≤ sizeLine ∧ Q .non (upd H l (.lst (xs ++ zs)))
theorem mt_extD : MtM X "list.extend" (rExtD (kx X)) := by
  intro pins s σ H x vs v us Q I rx rv h
  obtain ⟨l, b, xs, zs, rfl, rfl, hH, hB, hz, q⟩ := h
  cases rx
  obtain ⟨u, rfl, ru⟩ := rv.one
  cases ru
  obtain ⟨z, its, n, r, hl, e⟩ := I.lstM hH
  rcases hB with hB | hB
  · obtain ⟨its2, r2, ⟨⟨cls, dd, data, sl⟩, n2, ho, hc, hdn, hd⟩, _⟩ := I.list hB
    simp only at hc hd
    subst hc hd
    have hl2 := r2.length
    have hsz : its.toArray.size + its2.toArray.size ≤ sizeLine := by rw [List.size_toArray, List.size_toArray]; omega
    have hlong : ¬ (!its.toArray.isEmpty && Builtin.List.listTooLong (its.toArray.size + its2.toArray.size)) = true := by
      rw [notLongL hsz, Bool.and_false]
      exact Bool.false_ne_true
    refine call_meets F.slot_list_extend ⟨_, e, rfl⟩ F.entry_list_extend (F.args_list_extend_2 _ _)
      (ext_list l its.toArray n b its2.toArray n2 dd sl hlong (by rw [List.size_toArray]; omega) (by omega)) ⟨e, ho, ?_⟩
    refine ⟨.non, _, I.lset (its' := its ++ its2) hH e (by simp) (r.append r2) ?_, rfl, q⟩
    rw [List.length_append]
    omega
  · obtain ⟨its2, r2, ⟨⟨cls, dd, data, sl⟩, ho, hc, n2, hd⟩, _⟩ := I.tuple hB
    simp only at hc hd
    subst hc hd
    have hl2 := r2.length
    have hsz : its.toArray.size + its2.toArray.size ≤ sizeLine := by rw [List.size_toArray, List.size_toArray]; omega
    have hlong : ¬ (!its.toArray.isEmpty && Builtin.List.listTooLong (its.toArray.size + its2.toArray.size)) = true := by
      rw [notLongL hsz, Bool.and_false]
      exact Bool.false_ne_true
    refine call_meets F.slot_list_extend ⟨_, e, rfl⟩ F.entry_list_extend (F.args_list_extend_2 _ _)
      (ext_tup l its.toArray n b its2.toArray n2 dd sl hlong (by rw [List.size_toArray]; omega) (by omega)) ⟨e, ho, ?_⟩
    refine ⟨.non, _, I.lset (its' := its ++ its2) hH e (by simp) (r.append r2) ?_, rfl, q⟩
    rw [List.length_append]
    omega
theorem m_extend : LmG X "list.extend" gExtend := by
  refine ⟨_, mt_extD, fun Hs H a xs ds args us z ds' Q le ha rs l ra e k => ?_⟩
  unfold gExtend at e
  split at e
  · split at e
    · rename_i hl
      cases e
      obtain ⟨v, rfl, r⟩ := pair1 ra
      cases r with | lst q r _ =>
      exact ⟨a, _, xs, _, rfl, rfl, ha, .inl (hle_sqL le q), by rw [paired_len rs, paired_len r]; exact hl, k _ _ .non (rps_app rs r) (by rw [List.length_append]; exact hl)⟩
    · cases e
  · split at e
    · rename_i hl
      cases e
      obtain ⟨v, rfl, r⟩ := pair1 ra
      cases r with | tup q r _ =>
      exact ⟨a, _, xs, _, rfl, rfl, ha, .inr (hle_sqTs le q).sq, by rw [paired_len rs, paired_len r]; exact hl, k _ _ .non (rps_app rs r) (by rw [List.length_append]; exact hl)⟩
    · cases e
  · cases e
theorem rps_dropLast {K : Kn} {H : Hp} {vs : List V} {us : List U} (r : Rps K H vs us) : Rps K H vs.dropLast us.dropLast := by
  rw [List.dropLast_eq_take, List.dropLast_eq_take, paired_len r]
  exact rps_take r _
theorem rps_erase {K : Kn} {H : Hp} {vs : List V} {us : List U} (r : Rps K H vs us) : ∀ j, Rps K H (vs.eraseIdx j) (us.eraseIdx j) := by
  induction r with
  | nil => intro j; exact .nil
  | cons r1 t ih =>
    intro j
    cases j with
    | zero => exact t
    | succ j => exact .cons r1 (ih j)
theorem m_pop : LmG X "list.pop" gPop := by
  refine ⟨_, (show MtR X "list.pop" rPop from mt_pop).or (show MtR X "list.pop" rPopAt from mt_popAt), fun Hs H a xs ds args us z ds' Q le ha rs l ra e k => ?_⟩
  unfold gPop at e
  split at e
  · obtain ⟨u, e1, e2⟩ := obind e
    cases e2
    cases ra
    rw [← paired_len rs] at e1
    obtain ⟨v, h1, h2⟩ := pairedGet rs e1
    exact .inl ⟨a, xs, v, rfl, rfl, ha, h1, k _ _ h2 (rps_dropLast rs) (by rw [List.length_dropLast]; omega)⟩
  · obtain ⟨j, e1, e2⟩ := obind e
    obtain ⟨u, e3, e2⟩ := obind e2
    cases e2
    obtain ⟨v, rfl, r⟩ := pair1 ra
    cases r
    rw [← paired_len rs] at e1
    obtain ⟨q1, q2, q3, q4⟩ := ixN_seq e1
    obtain ⟨v, h1, h2⟩ := pairedGet rs e3
    have hz := paired_len rs
    have hsl := sizeLine_eq
    refine .inr ⟨a, xs, _, j, v, rfl, rfl, ha, by omega, by omega, q1, h1, k _ _ h2 (rps_erase rs j) ?_⟩
    have := len_erase ds j
    omega
  · cases e
theorem m_clear : LmG X "list.clear" gClear := by
  refine ⟨_, mt_clear, fun Hs H a xs ds args us z ds' Q le ha rs l ra e k => ?_⟩
  unfold gClear at e
  split at e
  · cases e
    cases ra
    exact ⟨a, xs, rfl, rfl, ha, k _ _ .non .nil (Nat.zero_le _)⟩
  · cases e
end
/-! ### xs[k] = v of our own list -/
def isOw : Option En → Option Unit
  | some (.ow _) => some ()
  | _ => none
def mStore (i : Nat) (me mk : MX) : MS := fun ρ => (me ρ).bind fun p => (asVal p.1).bind fun u => (isOw p.2[i]?).bind fun _ => (mk p.2).bind fun q => match q.1 with
  | .val (.int k) => match q.2[i]? with
    | some (.ow (.list ds)) => (ixN ds.length k).bind fun j => some (.nx, q.2.set i (.ow (.list (ds.set j u))))
    | _ => none
  | _ => none
theorem rps_set {K : Kn} {H : Hp} {vs : List V} {us : List U} {v : V} {u : U} (r : Rps K H vs us) (rv : Rp K H v u) : ∀ j, Rps K H (vs.set j v) (us.set j u) := by
  induction r with
  | nil => intro j; exact .nil
  | cons r1 t ih =>
    intro j
    cases j with
    | zero => exact .cons rv t
    | succ j => exact .cons r1 (ih j)
section
variable {X : Cx} {io : List Nat} {fr : Bool} {e ke : Expr} {me mk : MX} {x : Str} {p pos pos' : Pos}
theorem s_store (i : Nat) (he : EX X e me) (hk : EX X ke mk) (hN : X.N[i]? = some x := by rfl) (hv : Vis X.env.scope x := by first | exact Or.inl rfl | exact Or.inr (Or.inl rfl) | exact Or.inr (Or.inr rfl)) (hd : (x == ("__debug__" : Str)) = false := by decide)
    (hcd : (x == ("__classdict__" : Str)) = false := by decide)
    (ha : ∀ v, assign (.Subscript (.Name x p) ke pos') X.env v = (do
      let ov ← holding [v] (eval (.Name x p) X.env)
      let iv ← holding [v, ov] (eval ke X.env)
      standAt pos'
      holding [v, ov, iv] (setItem ov iv v)
      release [v, ov, iv] []) := by intro _; rfl) (hs : swapsWithSole [.Subscript (.Name x p) ke pos'] e pos.line X.env = pure false := by rfl) (hw : swappedStores [.Subscript (.Name x p) ke pos'] e X.env = pure none := by rfl)
    (h1 : (assignEach [.Subscript (.Name x p) ke pos'] X.env).map (·.2) = [assign (.Subscript (.Name x p) ke pos') X.env] := by rfl) : SX X io fr (.Assign [.Subscript (.Name x p) ke pos'] e pos) (mStore i me mk) := by
  refine ps_imp (ps_asg he (pg_sub (pe_var hN hv hd hcd) hk set_list ha) hs hw h1) fun D σ H q => ?_
  obtain ⟨as, Hs, Fz, ρ, fl, ρ', ea, R, e1, k⟩ := q
  obtain ⟨tv, ρ1, e2, e1⟩ := obind2 e1
  obtain ⟨u, e3, e1⟩ := obind e1
  obtain ⟨_, eo, e1⟩ := obind e1
  obtain ⟨tk, ρ2, e4, e1⟩ := obind2 e1
  simp only at e1
  split at e1
  · rename_i kk
    split at e1
    · rename_i ds hi
      obtain ⟨j, e5, e1⟩ := obind e1
      cases e1
      cases tv with
      | val w =>
        cases e3
        refine ⟨as, Hs, Fz, ρ, _, ρ1, R, e2, fun v H1 Hs1 R1 le1 rv => ?_⟩
        -- the slot's address is known here and stays
        have hi0 : ∃ a : Addr, σ[i]? = some (some (V.ref a)) := by
          unfold isOw at eo
          split at eo
          · rename_i w0 hw0
            obtain ⟨a, g1, _⟩ := R1.ow i _ hw0
            exact ⟨a, g1⟩
          · cases eo
        obtain ⟨a, ga⟩ := hi0
        refine ⟨_, ga, as, Hs1, Fz, ρ1, _, ρ2, R1, e4, fun y H2 Hs2 R2 le2 ry => ?_⟩
        have ry' : Rp (kx X) Hs2 y (.int kk) := ry
        cases ry'
        obtain ⟨a', q1, _, _, l1, xs, q2, q3⟩ := R2.ow i _ hi
        rw [ga] at q1; cases q1
        rw [← paired_len q3] at e5
        refine ⟨a, xs, kk, j, rfl, rfl, q2, e5, ?_⟩
        exact k σ _ Hs2 (R2.put hi ga (u := .list (ds.set j u)) (o := .lst (xs.set j v)) ⟨by rw [List.length_set]; exact l1, _, rfl, rps_set q3 (rp_mono le2 _ rv) j⟩) (hle_trans le1 le2)
      | own i => cases e3
    · cases e1
  · cases e1
end
end G

/-! Layer G, part 10: index, list + list, constants of the module. -/
namespace G
open PySem PySem.Spec PyProof.Rows L2
def isL : U → Option Bool
  | .list _ => some true
  | .tuple _ => some false
  | _ => none
def gIndex (u w : U) : Option U := match u with
  | .list ds => if flatU w = true ∧ ds.all flatU = true then (ds.findIdx? fun d => eqF d w).bind fun j => some (.int (j : Nat))
      else if SeqAt.shaped (.list ds) = true ∧ SeqAt.shaped w = true then (ds.findIdx? fun d => PyData.eqv d w).bind fun j => some (.int (j : Nat)) else none
  | .tuple ds => if flatU w = true ∧ ds.all flatU = true then (ds.findIdx? fun d => eqF d w).bind fun j => some (.int (j : Nat)) else none
  | _ => none
def mIndex (mo me : MX) : MX := fun ρ => (mo ρ).bind fun p => (deref p.2 p.1).bind fun u0 => (me p.2).bind fun q => (deref q.2 p.1).bind fun u => (asVal q.1).bind fun w => if isL u0 = isL u then (gIndex u w).bind fun z => some (.val z, q.2) else none
theorem find_at {ds : List U} {p : U → Bool} {j : Nat} (h : ds.findIdx? p = some j) : ∃ z, ds[j]? = some z ∧ p z = true ∧ ∀ (m : Nat) (z' : U), m < j → ds[m]? = some z' → p z' = false := by
  obtain ⟨hj, h1, h2⟩ := List.findIdx?_eq_some_iff_getElem.mp h
  refine ⟨ds[j], List.getElem?_eq_getElem hj, h1, fun m z' hm hz => ?_⟩
  obtain ⟨hml, rfl⟩ := List.getElem?_eq_some_iff.mp hz
  have := h2 m hm
  cases q : p ds[m] with
  | false => rfl
  | true => exact absurd q this
/-- t.index(x), flat items -/
def rIndexT (K : Kn) : V → List V → Hp → VK → Prop := fun x xs H Q => ∃ (a : Addr) (ys : List V) (y : V) (j : Nat) (z : V), x = V.ref a ∧ xs = [y] ∧ SqT K H a ys ∧ flatV y = true ∧ ys.all flatV = true ∧ ys[j]? = some z ∧ eqV z y = true ∧
  (∀ (m : Nat) (z' : V), m < j → ys[m]? = some z' → eqV z' y = false) ∧ Q (.int (j : Nat)) H
section
variable {X : Cx}
theorem mt_indexT : MtR X "tuple.index" (rIndexT (kx X)) := by
  intro pins s σ H x xs v us Q I rx rxs h
  obtain ⟨a, ys, y, j, z, rfl, rfl, hs, fy, fys, hz, hzj, hno, q⟩ := h
  cases rx
  cases rxs with
  | cons ry rt =>
    rename_i uy ut
    cases rt
    obtain ⟨its, rv, ⟨⟨cls, dd, data, sl⟩, ho, hc, n, hd⟩, hlen⟩ := I.tuple hs
    simp only at hc hd
    subst hc hd
    obtain ⟨u, hu, ru⟩ := rv.get hz
    obtain ⟨hjl, hje⟩ := List.getElem?_eq_some_iff.mp hu
    have hvl := rv.length
    have hj : j < its.toArray.size := by simpa using hjl
    refine call_meets PySem.F.slot_tuple_index ⟨_, ho, rfl⟩ PySem.F.entry_tuple_index (PySem.F.args_tuple_index_2 _ _)
      (TI.tuple_indexAt a its.toArray n dd sl uy (eqU y) j hj ?_ ?_) ⟨ho, fun u' hu' => mem_eqAt ry fy rv fys u' (by simpa using hu'), ?_⟩
    · have e1 : its.toArray[j] = u := by simpa using hje
      rw [e1, eqU_of ru (flat_at fys hz)]
      exact hzj
    · intro m hm hmj
      have hml : m < its.length := by simpa using hm
      have hmy : m < ys.length := by omega
      have hy' : ys[m]? = some ys[m] := List.getElem?_eq_getElem hmy
      obtain ⟨u2, hu2, ru2⟩ := rv.get hy'
      obtain ⟨_, hme⟩ := List.getElem?_eq_some_iff.mp hu2
      have e1 : its.toArray[m] = u2 := by simpa using hme
      rw [e1, eqU_of ru2 (flat_at fys hy')]
      exact hno m _ hmj hy'
    · exact ⟨.int (j : Nat), H, I.tok _, ⟨_, rfl⟩, q⟩
theorem flat_find {K : Kn} {H : Hp} {vs : List V} {ds : List U} {y : V} {w : U} {j : Nat} (r : Rps K H vs ds) (ry : Rp K H y w) (fw : flatU w = true) (fd : ds.all flatU = true) (h : ds.findIdx? (fun d => eqF d w) = some j) :
    ∃ z, vs[j]? = some z ∧ eqV z y = true ∧ ∀ (m : Nat) (z' : V), m < j → vs[m]? = some z' → eqV z' y = false := by
  obtain ⟨z, h1, h2, h3⟩ := find_at h
  have fl : ∀ {i : Nat} {d : U}, ds[i]? = some d → flatU d = true := fun {i d} e => List.all_eq_true.mp fd d (List.mem_of_getElem? e)
  obtain ⟨v, q1, q2⟩ := pairedGet r h1
  refine ⟨v, q1, by rw [eqF_v q2 ry (fl h1) fw]; exact h2, fun m z' hm hz => ?_⟩
  obtain ⟨d, g1, g2⟩ := paired_fst r hz
  rw [eqF_v g2 ry (fl g1) fw]
  exact h3 m d hm g1
variable {o e : Expr} {mo me : MX} {apos cpos : Pos}
theorem x_index (hu : X.A.units + 65 < cLine) (ho : EX X o mo) (he : EX X e me) (hbase : attributeBase o "index" X.env (eval o X.env) = eval o X.env := by rfl)
    (hfew : ((backTo cpos (starEach [e] X.env)).all (fun x => !x.1) && (backToKw cpos (keywordEach [] X.env)).all (fun x => x.1.isSome)
      && decide ([e].length + ([] : List Keyword).length + (if ([] : List Keyword).isEmpty then 0 else 1) < 30)) = true := by rfl)
    (hline : (apos.endLine == cpos.line) = true := by rfl) (hs : starEach [e] X.env = (false, eval e X.env) :: starEach [] X.env := by rfl) :
    EX X (.Call (.Attribute o "index" apos) [e] [] cpos) (mIndex mo me) := by
  refine ⟨fun pins s σ H Q I h => ?_⟩
  obtain ⟨as, Hs, Fz, ρ, tv, ρ', R, e1, k⟩ := h
  obtain ⟨t1, ρ1, e2, e1⟩ := obind2 e1
  obtain ⟨u0, e3, e1⟩ := obind e1
  obtain ⟨t2, ρ2, e4, e1⟩ := obind2 e1
  obtain ⟨u, e5, e1⟩ := obind e1
  obtain ⟨w, e6, e1⟩ := obind e1
  split at e1
  · rename_i hl
    obtain ⟨z, e7, e1⟩ := obind e1
    cases e1
    refine wpAny_Call_method_late hbase hfew hline rfl (thn (ho.run pins s σ H (fun v H' => ∃ Hs', Rel (kx X) as σ H' Hs' Fz ρ1 ∧ HLe Hs Hs' ∧ RT (kx X) Hs' σ t1 v) I ⟨as, Hs, Fz, ρ, t1, ρ1, R, e2, fun v H' Hs' R' le r => ⟨Hs', R', le, r⟩⟩) fun v s1 ⟨x, H1, I1, r1, Hs1, R1, le1, q1⟩ => ?_)
    have lk := R1.look q1 e3
    -- the argument
    have arg : ∀ {id : String}, (∀ (s2 : Shared) (H2 Hs2 : Hp) (y : V) (uy : Value), Inv X pins σ H2 s2 → RelV y uy → Rel (kx X) as σ H2 Hs2 Fz ρ2 → HLe Hs1 Hs2 → Rp (kx X) Hs2 y w → wpAny (model X.prog X.w) X.A (call (.builtin id) [v, uy]) (EP X pins σ Q) X.xe s2) →
        wpAny (model X.prog X.w) X.A (callWith cpos (.builtin id) [v] (backTo cpos (starEach [e] X.env)) []) (EP X pins σ Q) X.xe s1 := fun {id} hcall => by
      rw [hs]
      refine Calls.callWith_builtin (by rfl) (Calls.evalArgs_plain (Calls.spliced_cons ?_))
      refine thn (he.run pins s1 σ H1 (fun y H' => ∃ Hs', Rel (kx X) as σ H' Hs' Fz ρ2 ∧ HLe Hs1 Hs' ∧ Rp (kx X) Hs' y w) I1 ⟨as, Hs1, Fz, ρ1, t2, ρ2, R1, e4, fun y H' Hs' R' le r => ?_⟩) fun uy s2 ⟨y, H2, I2, r2, Hs2, R2, le2, q2⟩ => Calls.spliced_nil (hcall s2 H2 Hs2 y uy I2 r2 R2 le2 q2)
      cases t2 with
      | val q => cases e6; exact ⟨Hs', R', le, r⟩
      | own i => cases e6
    have fin : ∀ {s2 : Shared} {H2 Hs2 : Hp} {j : Nat}, Rel (kx X) as σ H2 Hs2 Fz ρ2 → HLe Hs1 Hs2 → z = .int (j : Nat) → Q (.int (j : Nat)) H2 := fun {s2 H2 Hs2 j} R2 le2 ez => by
      subst ez
      exact k _ H2 Hs2 R2 (hle_trans le1 le2) (show Rp (kx X) Hs2 _ _ from .int _)
    unfold gIndex at e7
    split at e7
    · rename_i ds
      have hl0 : ∃ ds0, u0 = .list ds0 := by
        cases u0 <;> first | (cases hl; done) | exact ⟨_, rfl⟩ | (simp [isL] at hl)
      obtain ⟨ds0, rfl⟩ := hl0
      obtain ⟨_, a, xs0, rfl, q0, _⟩ := lk
      cases r1
      obtain ⟨its, _, pl, _⟩ := I1.list q0
      refine ⟨"list", "list.index", F.plainAttrs_list, F.slot_list_index, F.type_list_index, pl.isList.typeIs, fun b eb => ?_, arg fun s2 H2 Hs2 y uy I2 r2 R2 le2 q2 => ?_⟩
      · cases eb
        obtain ⟨o, n, e, c, hd, _⟩ := pl
        exact ⟨o, e, hd⟩
      · have lk2 := R2.look (q1.mono le2) e5
        obtain ⟨lz, a', xs, ea, q3, rs⟩ := lk2
        cases ea
        split at e7
        · rename_i hf
          obtain ⟨j, e8, e9⟩ := obind e7
          cases e9
          obtain ⟨zv, g1, g2, g3⟩ := flat_find rs q2 hf.1 hf.2 e8
          exact mt_index pins s2 σ H2 (.ref a) [y] (.ref a) [uy] Q I2 rfl (.cons r2 .nil) ⟨a, xs, y, j, zv, rfl, rfl, q3, flat_v q2 hf.1, flats_v rs hf.2, g1, g2, g3, fin (s2 := s2) R2 le2 rfl⟩
        · split at e7
          · rename_i hsh
            obtain ⟨j, e8, e9⟩ := obind e7
            cases e9
            obtain ⟨zv, g1, g2, g3⟩ := find_at e8
            exact mt_indexD hu pins s2 σ H2 (.ref a) [y] (.ref a) [uy] Q I2 rfl (.cons r2 .nil) ⟨a, y, w, _, j, zv, rfl, rfl, dp_of _ (lay_of hsh.1) (.lst q3 (rps_mono R2.s _ rs) lz), dp_of _ (lay_of hsh.2) (rp_mono R2.s _ q2), hsh.1, hsh.2, g1, g2, g3, fin (s2 := s2) R2 le2 rfl⟩
          · cases e7
    · rename_i ds
      have hl0 : ∃ ds0, u0 = .tuple ds0 := by
        cases u0 <;> first | (cases hl; done) | exact ⟨_, rfl⟩ | (simp [isL] at hl)
      obtain ⟨ds0, rfl⟩ := hl0
      obtain ⟨_, a, xs0, rfl, q0, _⟩ := lk
      cases r1
      obtain ⟨its, _, pl, _⟩ := I1.tuple (hle_sqTs R1.s q0).sq
      refine ⟨"tuple", "tuple.index", F.plainAttrs_tuple, F.slot_tuple_index, F.type_tuple_index, ?_, fun b eb => ?_, arg fun s2 H2 Hs2 y uy I2 r2 R2 le2 q2 => ?_⟩
      · obtain ⟨ob, g1, g2, _⟩ := pl
        exact ⟨ob, g1, g2⟩
      · cases eb
        rcases q0 with ⟨ob, g1, g2⟩ | ⟨ob, its, n, g1, _, g2, _⟩
        · obtain ⟨g3, _⟩ := I1.hok _ _ (R1.s _ _ g1)
          exact ⟨ob, g3, g2⟩
        · exact ⟨ob, I1.kIn _ _ g1, g2⟩
      · have lk2 := R2.look (q1.mono le2) e5
        obtain ⟨lz, a', xs, ea, q3, rs⟩ := lk2
        cases ea
        split at e7
        · rename_i hf
          obtain ⟨j, e8, e9⟩ := obind e7
          cases e9
          obtain ⟨zv, g1, g2, g3⟩ := flat_find rs q2 hf.1 hf.2 e8
          exact mt_indexT pins s2 σ H2 (.ref a) [y] (.ref a) [uy] Q I2 rfl (.cons r2 .nil) ⟨a, xs, y, j, zv, rfl, rfl, (hle_sqTs R2.s q3).sq, flat_v q2 hf.1, flats_v rs hf.2, g1, g2, g3, fin (s2 := s2) R2 le2 rfl⟩
        · cases e7
    · cases e7
  · cases e1
end
/-! ### list + list -/
section
variable {X : Cx}
theorem cat_list (l : Addr) (items : Array Value) (n : Nat) (b : Addr) (items2 : Array Value) (n2 : Nat) (d1 d2 : Option Addr) (s1 s2 : Array (Option Value)) (hc0 : items.size + items2.size ≤ sizeLine) :
    Meets (Builtin.«list.__add__» ⟨[.ref l, .ref b], []⟩) (fun _ R s => s.heap.get? l = some { cls := .type "list", dict := d1, data := .seq items n, slots := s1 } ∧ s.heap.get? b = some { cls := .type "list", dict := d2, data := .seq items2 n2, slots := s2 } ∧ R (.ok (.ret (Value.ref s.heap.objs.size))) { s with heap := s.heap.push { cls := Value.type "list", data := Data.seq (items ++ items2) }, toks := s.toks }) :=
  .of_wp fun prog w A R s h => by obtain ⟨hp, g, d, tk, os⟩ := s; obtain ⟨hl, hb, h⟩ := h; have f1 := AutoSeq1.idx_int; have f2 := AutoSeq1.sub_tuple_tuple; have f3 := AutoSeq1.sub_list_list; have f4 := AutoSeq1.sub_tuple_list; have f5 := AutoSeq1.sub_list_tuple; wp_walk using AutoSeq1.wpAny_loadPart' hl, AutoSeq1.wpAny_loadPart' hb; exact ⟨_, rfl, h⟩
def rCatG (K : Kn) : R2 := fun x y H Q => ∃ l b xs zs, x = .ref l ∧ y = .ref b ∧ SqL K H l xs ∧ SqL K H b zs ∧ xs.length + zs.length ≤ sizeLine ∧ ∀ p, H p = none → Q (.ref p) (upd H p (.lst (xs ++ zs)))
theorem op_catG : OpR X (binaryOp .Add) (rCatG (kx X)) := by
  intro pins s σ H x y v u Q I rx ry h
  obtain ⟨l, b, xs, zs, rfl, rfl, hH, hB, hz, q⟩ := h
  cases rx
  cases ry
  obtain ⟨its, r, ⟨⟨cls, dd, data, sl⟩, n, ho, hc, hdn, hd⟩, _⟩ := I.list hH
  simp only at hc hd
  subst hc hd
  obtain ⟨its2, r2, ⟨⟨cls2, dd2, data2, sl2⟩, n2, ho2, hc2, hdn2, hd2⟩, _⟩ := I.list hB
  simp only at hc2 hd2
  subst hc2 hd2
  have hl := r.length
  have hl2 := r2.length
  refine concat_meets ⟨_, ho, rfl⟩ ⟨_, ho2, rfl⟩ noFill_list_add seq_list_add F.slot_list_add F.entry_list_add (F.args_list_add_2 _ _) (cat_list l its.toArray n b its2.toArray n2 dd dd2 sl sl2 (by rw [List.size_toArray, List.size_toArray]; omega)) ⟨ho, ho2, ?_⟩
  have ea : its.toArray ++ its2.toArray = (its ++ its2).toArray := by simp
  rw [ea]
  exact ⟨.ref _, _, I.lnew (t' := s.toks) (r.append r2) (by rw [List.length_append]; omega), rfl, q _ I.fresh⟩
theorem o_cat : OpGL X (binaryOp .Add) gCat := by
  refine ⟨_, op_catG, fun Hs H x y u w z Q le rx ry e k => ?_⟩
  unfold gCat at e
  split at e
  · split at e
    · split at e
      · rename_i hl
        cases e
        obtain ⟨l1, a, xs, rfl, qa, ra⟩ := rx
        obtain ⟨l2, b, ys, rfl, qb, rb⟩ := ry
        exact ⟨a, b, xs, ys, rfl, rfl, qa, qb, by rw [paired_len ra, paired_len rb]; exact hl, fun p hp => k _ _ ⟨p, _, _, hp, rfl, rfl, rfl, rps_app ra rb, by rw [List.length_append]; exact hl⟩⟩
      · cases e
    · cases e
  · cases e
/-- + of whatever may be added -/
def gPlus : U → U → Option U := orG gAdd gCat
theorem o_plus : OpA X (binaryOp .Add) gPlus := o_add.a.or o_cat.a
/-! ### constants -/
theorem x_int {i : Int} {j pos} : EX X (.Constant (.int i) j pos) (mC (.int i)) := x_c pe_int fun _ _ => .int _
theorem x_bool {b : Bool} {j pos} : EX X (.Constant (.bool b) j pos) (mC (.bool b)) := x_c pe_bl fun _ _ => .bl _
theorem x_none {j pos} : EX X (.Constant .none j pos) (mC .none) := x_c pe_non fun _ _ => .non
theorem x_str {x : Str} {j pos} (h : x.length ≤ sizeLine := by decide +kernel) : EX X (.Constant (.str x) j pos) (mC (.str x)) := x_c pe_str fun _ _ => .str _ h
def gNeg : U → Option U := fun u => match u with
  | .int i => some (.int (-i))
  | _ => none
theorem x_neg {a : Expr} {ma : MX} {pos : Pos} (ha : EX X a ma) : EX X (.UnaryOp .USub a pos) (mUn gNeg ma) := by
  refine pe_imp (pe_un un_neg ha) fun σ H Q q => ?_
  obtain ⟨as, Hs, Fz, ρ, tv, ρ', R, e1, k⟩ := q
  obtain ⟨t1, ρ1, e2, e1⟩ := obind2 e1
  obtain ⟨u, e3, e1⟩ := obind e1
  obtain ⟨z, e4, e1⟩ := obind e1
  cases e1
  refine ⟨as, Hs, Fz, ρ, t1, _, R, e2, fun v H1 Hs1 R1 le1 r1 => ?_⟩
  have lk := R1.look r1 e3
  unfold gNeg at e4
  split at e4
  · cases e4
    cases lk
    exact ⟨_, rfl, k _ _ Hs1 R1 le1 (show Rp (kx X) Hs1 _ _ from .int _)⟩
  · cases e4
/-! ### constants of the module -/
theorem x_glob {x : Str} {v : V} {u : Value} {d : U} {pos : Pos} (hm : X.mg x = some u) (r : RelV v u) (rp : ∀ H, Rp (kx X) H v d) (hg : Gl X x := by rfl) (hd : (x == ("__debug__" : Str)) = false := by decide) : EX X (.Name x pos) (mC d) := by
  refine pe_imp (pe_glob hg hm r hd) fun σ H Q q => ?_
  obtain ⟨as, Hs, Fz, ρ, tv, ρ', R, e, k⟩ := q
  cases e
  exact k v H Hs R (hle_refl _) (rp _)
end
end G

/-! Layer G, part 11: the ends. -/
namespace G
open PySem PySem.Spec PyProof.Rows L2
/-- a def that stands at the top -/
def DefT (K : PySem.W.Frag) (mg : Str → Option Value) (x : Str) (st : Stmt) (ps : List Str) : Prop :=
  ∃ (f : Addr) (fd : FuncData), Fun K x x st f fd ∧ mg x = some (.ref f) ∧ PySem.W.keepIn K (.ref f) = true ∧ Binds K fd ps []
section
variable {P : Program} {w : World} {K : PySem.W.Frag} {mg : Str → Option Value} {base : Heap}
theorem DefT.mk' {x : Str} {st : Stmt} {ps : List Str} {f : Addr} {fd : FuncData} (F : Fun K x x st f fd) (m : mg x = some (.ref f)) (k : PySem.W.keepIn K (.ref f) = true) (b : Binds K fd ps []) : DefT K mg x st ps := ⟨f, fd, F, m, k, b⟩
theorem DefT.callee {x : Str} {st : Stmt} {N ps : List Str} {k n : Nat} {mask : List Bool} {fr : Bool} {m : MS} (D : DefT K mg x st ps) (S : FnScope N ps (defScope st)) (lp : ps.length = mask.length) (hN : N.length = mask.length + n)
    (hbody : ∀ (f : Addr) (cdv : Value) (A : Around) (outer : List Env) (s : Shared) (H : Hp) (E : XK), Room k (A.deeper (envOfC x (defScope st) s.heap.objs.size f cdv)) →
      BX (cxOf CX0 P w K mg base N x (defScope st) f cdv A outer s H E).nox (ioOf 0 mask) fr (defBody st) m) : Callee P w ⟨K, P, w⟩ mg base x (k + 1) mask fr (defM mask n fr m) := by
  obtain ⟨f, fd, F, hm, hk, hb⟩ := D
  exact ⟨f, fd, ps, fn_ok F S lp hN (hbody f), hm, hk, hb⟩
theorem hu65 {k : Nat} {A : Around} (hr : Room k A) : A.units + 65 < cLine := by have := hr.un; omega
def OkIn (ns : List Int) : Prop := ns.length ≤ 63 ∧ ∀ z ∈ ns, Builtin.Int.intBits z ≤ 1048576
/-- what law(script) promises -/
def spLaw (K : PySem.W.Frag) : Sp := fun vs H Q _ => ∃ (a : Addr) (ns : List Int), vs = [.ref a] ∧ SqL K H a (ns.map V.int) ∧ OkIn ns ∧ ∀ v H', v = V.bl true → Q v H'
theorem rps_ints {K : Kn} {H : Hp} : ∀ ns : List Int, Rps K H (ns.map V.int) (ns.map PyData.int)
  | [] => .nil
  | n :: ns => .cons (.int n) (rps_ints ns)
theorem sp_law {m : FM} (hm : ∀ ns : List Int, OkIn ns → ∃ us, m [.list (ns.map .int)] = some (.bool true, us)) (vs : List V) (H : Hp) (Q : VK) (E : XK) (h : spLaw K vs H Q E) : spOf ⟨K, P, w⟩ [false] false m vs H Q E := by
  obtain ⟨a, ns, rfl, hS, hl, k⟩ := h
  obtain ⟨us, hm⟩ := hm ns hl
  have rp : Rp ⟨K, P, w⟩ H (.ref a) (.list (ns.map .int)) := .lst hS (rps_ints ns) (by rw [List.length_map]; exact Nat.le_trans hl.1 (by decide))
  have R : Rel ⟨K, P, w⟩ [] ([V.ref a].map some) H H (fun _ => none) (argsRho [false] [.list (ns.map .int)]) := by
    have c : argsRho [false] [.list (ns.map .int)] = [.sh (.list (ns.map .int))] := rfl
    rw [c]
    refine ⟨rfl, hle_refl _, fun b o e => (by cases e), fun b o e => (by cases e), fun i u e => ?_, fun i u e => ?_, fun i j u w b e => ?_, fun p hp => (by cases hp)⟩
    · cases i with
      | zero => simp at e; subst e; exact ⟨_, rfl, rp⟩
      | succ i => simp at e
    · cases i with
      | zero => simp at e
      | succ i => simp at e
    · cases i with
      | zero => simp at e
      | succ i => simp at e
  refine ⟨rfl, H, fun _ => none, [.list (ns.map .int)], .bool true, us, rfl, R, hm, fun v H' Hs' _ _ r => ?_⟩
  · have r' : Rp ⟨K, P, w⟩ Hs' v (.bool true) := r
    exact k _ _ (by cases r'; rfl)
end
end G

/-! Layer G, part 12: going through mirrors. -/
namespace G
open PySem PySem.Spec PyProof.Rows L2
def wp {α : Type} (o : Option α) (Q : α → Prop) : Prop := ∃ x, o = some x ∧ Q x
theorem wp_cong {α : Type} {o o' : Option α} {Q : α → Prop} (h : o = o') : wp o Q = wp o' Q := by rw [h]
theorem wp_some {α : Type} {x : α} {Q : α → Prop} : wp (some x) Q = Q x := by
  unfold wp
  exact propext ⟨fun ⟨y, h, q⟩ => by cases h; exact q, fun q => ⟨x, rfl, q⟩⟩
theorem wp_bind {α β : Type} {o : Option α} {f : α → Option β} {Q : β → Prop} : wp (o.bind f) Q = wp o fun x => wp (f x) Q := by
  unfold wp
  refine propext ⟨fun ⟨y, h, q⟩ => ?_, fun ⟨x, h, y, h2, q⟩ => ⟨y, by rw [h]; exact h2, q⟩⟩
  obtain ⟨x, h1, h2⟩ := obind h
  exact ⟨x, h1, y, h2, q⟩
theorem wp_mono {α : Type} {o : Option α} {Q Q' : α → Prop} (h : wp o Q) (k : ∀ x, Q x → Q' x) : wp o Q' := let ⟨x, e, q⟩ := h; ⟨x, e, k x q⟩
theorem wp_if {α : Type} {c : Prop} [Decidable c] {a b : Option α} {Q : α → Prop} (h1 : c → wp a Q) (h2 : ¬ c → wp b Q) : wp (if c then a else b) Q := by
  split
  · exact h1 ‹_›
  · exact h2 ‹_›
theorem wp_pos {α : Type} {c : Prop} [Decidable c] {a b : Option α} {Q : α → Prop} (h : c) (h1 : wp a Q) : wp (if c then a else b) Q := by rw [if_pos h]; exact h1
theorem wp_neg {α : Type} {c : Prop} [Decidable c] {a b : Option α} {Q : α → Prop} (h : ¬ c) (h1 : wp b Q) : wp (if c then a else b) Q := by rw [if_neg h]; exact h1
/-- pairs of lists, item by item -/
abbrev F2 {α β : Type} (R : α → β → Prop) : List α → List β → Prop := Paired R
/-- a list comprehension whose elements are each within R, by an invariant of the slots -/
theorem wp_lc {g : MG} {t : MB} {me : MX} {vs : List Nat} {us : List U} {ρ : Rho} {Q : List U × Rho → Prop} (I : Rho → Prop) (R : U → U → Prop) (h0 : I ρ)
    (hs : ∀ u ρ, u ∈ us → I ρ → wp (g u ρ) fun ρ1 => wp (t ρ1) fun p => p.1 = true ∧ wp (me p.2) fun q => wp (asVal q.1) fun z => R u z ∧ I (wipeR q.2 vs))
    (hq : ∀ zs ρ', F2 R us zs → I ρ' → Q (zs, ρ')) : wp (mLcLoop g t me vs us [] ρ) Q := by
  have gen : ∀ (us : List U) (acc : List U) (ρ : Rho) (Q : List U × Rho → Prop), I ρ → (∀ u ρ, u ∈ us → I ρ → wp (g u ρ) fun ρ1 => wp (t ρ1) fun p => p.1 = true ∧ wp (me p.2) fun q => wp (asVal q.1) fun z => R u z ∧ I (wipeR q.2 vs)) →
      (∀ zs ρ', F2 R us zs → I ρ' → Q (acc ++ zs, ρ')) → wp (mLcLoop g t me vs us acc ρ) Q := by
    intro us
    induction us with
    | nil =>
      intro acc ρ Q h0 _ hq
      have := hq [] ρ .nil h0
      rw [List.append_nil] at this
      show wp (some (acc, ρ)) Q
      rw [wp_some]
      exact this
    | cons u us ih =>
      intro acc ρ Q h0 hs hq
      unfold mLcLoop
      obtain ⟨ρ1, e1, ⟨b, ρ2⟩, e2, hb, ⟨tv, ρ3⟩, e3, z, e4, r, i2⟩ := hs u ρ (List.mem_cons_self ..) h0
      have hb' : b = true := hb
      subst hb'
      rw [e1]
      show wp ((t ρ1).bind _) Q
      rw [e2]
      show wp ((me ρ2).bind _) Q
      rw [e3]
      show wp ((asVal tv).bind _) Q
      have e4' : asVal tv = some z := e4
      rw [e4']
      show wp (mLcLoop g t me vs us (acc ++ [z]) (wipeR ρ3 vs)) Q
      refine ih _ _ _ i2 (fun u ρ hu => hs u ρ (List.mem_cons_of_mem _ hu)) fun zs ρ' hz i3 => ?_
      have := hq (z :: zs) ρ' (.cons r hz) i3
      rw [List.append_assoc]
      exact this
  exact gen us [] ρ Q h0 hs hq
/-- the same by the place -/
theorem wp_lcN {g : MG} {t : MB} {me : MX} {vs : List Nat} {us : List U} {ρ : Rho} {Q : List U × Rho → Prop} (I : Nat → List U → Rho → Prop) (h0 : I 0 [] ρ)
    (hs : ∀ i acc u ρ, us[i]? = some u → acc.length ≤ i → I i acc ρ → wp (g u ρ) fun ρ1 => wp (t ρ1) fun p => (p.1 = true → wp (me p.2) fun q => wp (asVal q.1) fun z => I (i + 1) (acc ++ [z]) (wipeR q.2 vs)) ∧ (p.1 = false → I (i + 1) acc (wipeR p.2 vs)))
    (hq : ∀ zs ρ', zs.length ≤ us.length → I us.length zs ρ' → Q (zs, ρ')) : wp (mLcLoop g t me vs us [] ρ) Q := by
  have gen : ∀ (suf : List U) (i : Nat) (acc : List U) (ρ : Rho), us.drop i = suf → i ≤ us.length → acc.length ≤ i → I i acc ρ → wp (mLcLoop g t me vs suf acc ρ) Q := by
    intro suf
    induction suf with
    | nil =>
      intro i acc ρ e hi ha h
      have hi' : i = us.length := by
        have := List.drop_eq_nil_iff.mp e
        omega
      subst hi'
      show wp (some (acc, ρ)) Q
      rw [wp_some]
      exact hq acc ρ ha h
    | cons u suf ih =>
      intro i acc ρ e hi ha h
      have hu : us[i]? = some u := by
        have : (us.drop i)[0]? = some u := by rw [e]; rfl
        rw [List.getElem?_drop] at this
        simpa using this
      have hl : i < us.length := (List.getElem?_eq_some_iff.mp hu).1
      have e' : us.drop (i + 1) = suf := by
        have : (us.drop i).drop 1 = suf := by rw [e]; rfl
        rw [List.drop_drop] at this
        exact this
      unfold mLcLoop
      obtain ⟨ρ1, e1, ⟨b, ρ2⟩, e2, hy, hn⟩ := hs i acc u ρ hu ha h
      rw [e1]
      show wp ((t ρ1).bind _) Q
      rw [e2]
      show wp (if b = true then _ else _) Q
      cases b with
      | true =>
        obtain ⟨⟨tv, ρ3⟩, e3, z, e4, i2⟩ := hy rfl
        show wp ((me ρ2).bind _) Q
        have e3' : me ρ2 = some (tv, ρ3) := e3
        rw [e3']
        show wp ((asVal tv).bind _) Q
        have e4' : asVal tv = some z := e4
        rw [e4']
        exact ih (i + 1) _ _ e' hl (by rw [List.length_append, List.length_singleton]; omega) i2
      | false => exact ih (i + 1) _ _ e' hl (by omega) (hn rfl)
  exact gen us 0 [] ρ rfl (Nat.zero_le _) (Nat.le_refl _) h0
/-- a loop, by the place; a turn may end it -/
theorem wp_loop {g : MG} {b : MS} {us : List U} {ρ : Rho} {Q : Fl × Rho → Prop} (I : Nat → Rho → Prop) (h0 : I 0 ρ)
    (hs : ∀ i u ρ, us[i]? = some u → I i ρ → wp (g u ρ) fun ρ1 => wp (b ρ1) fun q => (q.1 = .nx → I (i + 1) q.2) ∧ (q.1 = .ct → I (i + 1) q.2) ∧ (q.1 = .bk → Q (.nx, q.2)) ∧ ∀ w, q.1 = .rt w → Q (.rt w, q.2))
    (hq : ∀ ρ', I us.length ρ' → Q (.nx, ρ')) : wp (mLoop g b us ρ) Q := by
  have gen : ∀ (suf : List U) (i : Nat) (ρ : Rho), us.drop i = suf → i ≤ us.length → I i ρ → wp (mLoop g b suf ρ) Q := by
    intro suf
    induction suf with
    | nil =>
      intro i ρ e hi h
      have hi' : i = us.length := by
        have := List.drop_eq_nil_iff.mp e
        omega
      subst hi'
      show wp (some (Fl.nx, ρ)) Q
      rw [wp_some]
      exact hq ρ h
    | cons u suf ih =>
      intro i ρ e hi h
      have hu : us[i]? = some u := by
        have : (us.drop i)[0]? = some u := by rw [e]; rfl
        rw [List.getElem?_drop] at this
        simpa using this
      have hl : i < us.length := (List.getElem?_eq_some_iff.mp hu).1
      have e' : us.drop (i + 1) = suf := by
        have : (us.drop i).drop 1 = suf := by rw [e]; rfl
        rw [List.drop_drop] at this
        exact this
      unfold mLoop
      obtain ⟨ρ1, e1, ⟨fl, ρ2⟩, e2, k1, k2, k3, k4⟩ := hs i u ρ hu h
      rw [e1]
      show wp ((b ρ1).bind _) Q
      rw [e2]
      cases fl with
      | nx => exact ih (i + 1) _ e' hl (k1 rfl)
      | ct => exact ih (i + 1) _ e' hl (k2 rfl)
      | bk => show wp (some _) Q; rw [wp_some]; exact k3 rfl
      | rt w => show wp (some _) Q; rw [wp_some]; exact k4 w rfl
  exact gen us 0 ρ rfl (Nat.zero_le _) h0
/-- a loop of which each turn goes on -/
theorem wp_loopN {g : MG} {b : MS} {us : List U} {ρ : Rho} {Q : Fl × Rho → Prop} (I : Nat → Rho → Prop) (h0 : I 0 ρ)
    (hs : ∀ i u ρ, us[i]? = some u → I i ρ → wp (g u ρ) fun ρ1 => wp (b ρ1) fun q => q.1 = .nx ∧ I (i + 1) q.2)
    (hq : ∀ ρ', I us.length ρ' → Q (.nx, ρ')) : wp (mLoop g b us ρ) Q := by
  refine wp_loop I h0 (fun i u ρ hu h => wp_mono (hs i u ρ hu h) fun ρ1 k => wp_mono k fun q k => ?_) hq
  obtain ⟨e, k⟩ := k
  rw [e]
  exact ⟨fun _ => k, (by intro z; cases z), (by intro z; cases z), (by intro w z; cases z)⟩
theorem rangeU_len (lo : Int) (n : Nat) : (rangeU lo n).length = n := by unfold rangeU; rw [List.length_map, List.length_range]
theorem rangeU_get {lo : Int} {n i : Nat} {u : U} (h : (rangeU lo n)[i]? = some u) : i < n ∧ u = .int (lo + (i : Nat)) := by
  unfold rangeU at h
  rw [List.getElem?_map] at h
  cases e : (List.range n)[i]? with
  | none => rw [e] at h; cases h
  | some j =>
    rw [e] at h
    obtain ⟨h1, h2⟩ := List.getElem?_eq_some_iff.mp e
    rw [List.length_range] at h1
    rw [List.getElem_range] at h2
    subst h2
    cases h
    exact ⟨h1, rfl⟩
theorem rangeU_mem {lo : Int} {n : Nat} {u : U} (h : u ∈ rangeU lo n) : ∃ i, i < n ∧ u = .int (lo + (i : Nat)) := by
  obtain ⟨i, hi⟩ := List.mem_iff_getElem?.mp h
  exact ⟨i, rangeU_get hi⟩
/-! the words' equations -/
theorem mName_ap {i : Nat} {ρ : Rho} : mName i ρ = match ρ[i]? with
    | some (.sh u) => some (.val u, ρ)
    | some (.ow u) => some (.val u, ρ.set i (.sh u))
    | _ => none := rfl
theorem mPeek_ap {i : Nat} {ρ : Rho} : mPeek i ρ = match ρ[i]? with
    | some (.sh u) => some (.val u, ρ)
    | some (.ow _) => some (.own i, ρ)
    | _ => none := rfl
theorem mC_ap {u : U} {ρ : Rho} : mC u ρ = some (.val u, ρ) := rfl
theorem mSh_ap {m : MF} {ρ : Rho} : mSh m ρ = (m ρ).bind fun p => some (.val p.1, p.2) := rfl
theorem mBin_ap {g : U → U → Option U} {ma mb : MX} {ρ : Rho} : mBin g ma mb ρ = (ma ρ).bind fun p => (mb p.2).bind fun q => (deref q.2 p.1).bind fun u => (deref q.2 q.1).bind fun w => (g u w).bind fun z => some (.val z, q.2) := rfl
theorem mBinF_ap {g : U → U → Option U} {ma mb : MX} {ρ : Rho} : mBinF g ma mb ρ = (ma ρ).bind fun p => (mb p.2).bind fun q => (deref q.2 p.1).bind fun u => (deref q.2 q.1).bind fun w => (g u w).bind fun z => some (z, q.2) := rfl
theorem mTest_ap {m : MX} {ρ : Rho} : mTest m ρ = (m ρ).bind fun p => match p.1 with
    | .val (.bool b) => some (b, p.2)
    | _ => none := rfl
theorem mChain_ap {g g' : U → U → Option U} {ma mb mc : MX} {ρ : Rho} : mChain g g' ma mb mc ρ = (ma ρ).bind fun p => (mb p.2).bind fun q => (deref q.2 p.1).bind fun u => (deref q.2 q.1).bind fun w => (g u w).bind fun z => match z with
    | .bool true => (mc q.2).bind fun s => (deref s.2 q.1).bind fun w => (deref s.2 s.1).bind fun w' => (g' w w').bind fun z' => some (.val z', s.2)
    | .bool false => some (.val (.bool false), q.2)
    | _ => none := rfl
theorem mAnd_ap {t u : MB} {ρ : Rho} : mAnd t u ρ = (t ρ).bind fun p => if p.1 = true then u p.2 else some (false, p.2) := rfl
theorem mOr_ap {t u : MB} {ρ : Rho} : mOr t u ρ = (t ρ).bind fun p => if p.1 = true then some (true, p.2) else u p.2 := rfl
theorem mNot_ap {t : MB} {ρ : Rho} : mNot t ρ = (t ρ).bind fun p => some (!p.1, p.2) := rfl
theorem mAndV_ap {m n : MX} {ρ : Rho} : mAndV m n ρ = (mTest m ρ).bind fun p => if p.1 = true then n p.2 else some (.val (.bool false), p.2) := rfl
theorem mOrV_ap {m n : MX} {ρ : Rho} : mOrV m n ρ = (mTest m ρ).bind fun p => if p.1 = true then some (.val (.bool true), p.2) else n p.2 := rfl
theorem mNotV_ap {m : MX} {ρ : Rho} : mNotV m ρ = (mTest m ρ).bind fun p => some (.val (.bool (!p.1)), p.2) := rfl
theorem mIf_ap {t : MB} {ma mb : MX} {ρ : Rho} : mIf t ma mb ρ = (t ρ).bind fun p => if p.1 = true then ma p.2 else mb p.2 := rfl
theorem mNil_ap {ρ : Rho} : mNil  ρ = some ([], ρ) := rfl
theorem mCons_ap {m : MX} {ms : MA} {ρ : Rho} : mCons m ms ρ = (m ρ).bind fun p => (ms p.2).bind fun q => some (p.1 :: q.1, q.2) := rfl
theorem mTup_ap {ms : MA} {ρ : Rho} : mTup ms ρ = (ms ρ).bind fun p => (vals p.1).bind fun us => if us.length ≤ sizeLine then some (.val (.tuple us), p.2) else none := rfl
theorem mLst_ap {ms : MA} {ρ : Rho} : mLst ms ρ = (ms ρ).bind fun p => (vals p.1).bind fun us => if us.length ≤ sizeLine then some (.list us, p.2) else none := rfl
theorem mCall_ap {mask : List Bool} {m : FM} {ms : MA} {ρ : Rho} : mCall mask m ms ρ = (ms ρ).bind fun p => if (ownIx p.1).Nodup then (argOk p.2 mask p.1).bind fun us => (m us).bind fun r => some (.val r.1, wb p.1 r.2 p.2) else none := rfl
theorem mCallF_ap {mask : List Bool} {m : FM} {ms : MA} {ρ : Rho} : mCallF mask m ms ρ = (ms ρ).bind fun p => if (ownIx p.1).Nodup then (argOk p.2 mask p.1).bind fun us => (m us).bind fun r => some (r.1, wb p.1 r.2 p.2) else none := rfl
theorem mSkip_ap {ρ : Rho} : mSkip  ρ = some (.nx, ρ) := rfl
theorem mSeq_ap {m n : MS} {ρ : Rho} : mSeq m n ρ = (m ρ).bind fun p => match p.1 with
    | .nx => n p.2
    | .bk => some (.bk, p.2)
    | .ct => some (.ct, p.2)
    | .rt u => some (.rt u, p.2) := rfl
theorem mBreak_ap {ρ : Rho} : mBreak  ρ = some (.bk, ρ) := rfl
theorem mCont_ap {ρ : Rho} : mCont  ρ = some (.ct, ρ) := rfl
theorem mDrop_ap {me : MX} {ρ : Rho} : mDrop me ρ = (me ρ).bind fun p => some (.nx, p.2) := rfl
theorem mRet_ap {me : MX} {ρ : Rho} : mRet me ρ = (me ρ).bind fun p => (asVal p.1).bind fun u => some (.rt u, p.2) := rfl
theorem mRetF_ap {mf : MF} {ρ : Rho} : mRetF mf ρ = (mf ρ).bind fun p => some (.rt p.1, p.2) := rfl
theorem mRetO_ap {i : Nat} {ρ : Rho} : mRetO i ρ = match ρ[i]? with
    | some (.ow u) => some (.rt u, ρ.set i .no)
    | _ => none := rfl
theorem mOwn_ap {i : Nat} {ρ : Rho} : mOwn i ρ = match ρ[i]? with | some (.ow u) => some (u, ρ.set i .no) | _ => none := rfl
theorem mRetN_ap {ρ : Rho} : mRetN  ρ = some (.rt .none, ρ) := rfl
theorem mIfS_ap {t : MB} {m n : MS} {ρ : Rho} : mIfS t m n ρ = (t ρ).bind fun p => if p.1 = true then m p.2 else n p.2 := rfl
theorem mPut_ap {i : Nat} {u : U} {ρ : Rho} : mPut i u ρ = if i < ρ.length then some (ρ.set i (.sh u)) else none := rfl
theorem mSet_ap {i : Nat} {me : MX} {ρ : Rho} : mSet i me ρ = (me ρ).bind fun p => (asVal p.1).bind fun u => if i < p.2.length then some (.nx, p.2.set i (.sh u)) else none := rfl
theorem mSetF_ap {i : Nat} {mf : MF} {ρ : Rho} : mSetF i mf ρ = (mf ρ).bind fun p => if i < p.2.length then some (.nx, p.2.set i (.ow p.1)) else none := rfl
theorem mgNil_ap {us : List U} {ρ : Rho} : mgNil  us ρ = match us with
    | [] => some ρ
    | _ => none := rfl
theorem mgCons_ap {g : MG} {gs : MGs} {us : List U} {ρ : Rho} : mgCons g gs us ρ = match us with
    | u :: r => (g u ρ).bind fun ρ1 => gs r ρ1
    | [] => none := rfl
theorem mgTup_ap {n : Nat} {gs : MGs} {u : U} {ρ : Rho} : mgTup n gs u ρ = match u with
    | .tuple us => if us.length = n then gs us ρ else none
    | .list us => if us.length = n then gs us ρ else none
    | _ => none := rfl
theorem mAsg_ap {me : MX} {g : MG} {ρ : Rho} : mAsg me g ρ = (me ρ).bind fun p => (asVal p.1).bind fun u => (g u p.2).bind fun ρ' => some (.nx, ρ') := rfl
theorem mPar_ap {i j : Nat} {ma : MA} {ρ : Rho} : mPar i j ma ρ = (ma ρ).bind fun p => match p.1 with
    | [.val u, .val w] => if i < p.2.length ∧ j < p.2.length then some (.nx, (p.2.set i (.sh u)).set j (.sh w)) else none
    | _ => none := rfl
theorem mFor_ap {mi : MI} {g : MG} {b : MS} {ρ : Rho} : mFor mi g b ρ = (mi ρ).bind fun p => mLoop g b p.1 p.2 := rfl
theorem mYes_ap {ρ : Rho} : mYes  ρ = some (true, ρ) := rfl
theorem mLC_ap {mi : MI} {g : MG} {t : MB} {me : MX} {vs : List Nat} {ρ : Rho} : mLC mi g t me vs ρ = (mi ρ).bind fun p => (mLcLoop g t me vs p.1 [] (wipeR p.2 vs)).bind fun q => some (.list q.1, unwipe p.2 q.2 vs) := rfl
theorem mIter_ap {me : MX} {ρ : Rho} : mIter me ρ = (me ρ).bind fun p => (asVal p.1).bind fun u => (itemsOf u).bind fun us => some (us, p.2) := rfl
theorem mRange1_ap {ms : MA} {ρ : Rho} : mRange1 ms ρ = (ms ρ).bind fun p => (asInts p.1).bind fun is => match is with
    | [n] => if -16777216 ≤ n ∧ n ≤ 16777216 then some (rangeU 0 n.toNat, p.2) else none
    | _ => none := rfl
theorem mRange2_ap {ms : MA} {ρ : Rho} : mRange2 ms ρ = (ms ρ).bind fun p => (asInts p.1).bind fun is => match is with
    | [a, b] => if 0 ≤ a ∧ a ≤ 16777216 ∧ 0 ≤ b ∧ b ≤ 16777216 then some (rangeU a (b - a).toNat, p.2) else none
    | _ => none := rfl
theorem moNone_ap {ρ : Rho} : moNone  ρ = some (none, ρ) := rfl
theorem moSome_ap {me : MX} {ρ : Rho} : moSome me ρ = (me ρ).bind fun p => match p.1 with
    | .val (.int i) => some (some i, p.2)
    | _ => none := rfl
theorem mSl_ap {me : MX} {ml mh : MO} {ρ : Rho} : mSl me ml mh ρ = (me ρ).bind fun p => (ml p.2).bind fun q => (mh q.2).bind fun r => (deref r.2 p.1).bind fun u => (gSl u q.1 r.1).bind fun z => some (.val z, r.2) := rfl
theorem mSlF_ap {me : MX} {ml mh : MO} {ρ : Rho} : mSlF me ml mh ρ = (me ρ).bind fun p => (ml p.2).bind fun q => (mh q.2).bind fun r => (deref r.2 p.1).bind fun u => (gSlL u q.1 r.1).bind fun z => some (z, r.2) := rfl
theorem mBi_ap {g : List U → Option U} {ms : MA} {ρ : Rho} : mBi g ms ρ = (ms ρ).bind fun p => (derefs p.2 p.1).bind fun us => (g us).bind fun z => some (.val z, p.2) := rfl
theorem mBiF_ap {g : List U → Option U} {ms : MA} {ρ : Rho} : mBiF g ms ρ = (ms ρ).bind fun p => (derefs p.2 p.1).bind fun us => (g us).bind fun z => some (z, p.2) := rfl
theorem mIsi_ap {T : String} {me : MX} {ρ : Rho} : mIsi T me ρ = (me ρ).bind fun p => (deref p.2 p.1).bind fun u => (noD u).bind fun _ => some (.val (.bool (isiU T u)), p.2) := rfl
theorem mUn_ap {g : U → Option U} {me : MX} {ρ : Rho} : mUn g me ρ = (me ρ).bind fun p => (deref p.2 p.1).bind fun u => (g u).bind fun z => some (.val z, p.2) := rfl
theorem mJoin_ap {mo me : MX} {ρ : Rho} : mJoin mo me ρ = (mo ρ).bind fun p => (asStr p.1).bind fun a => (me p.2).bind fun q => (deref q.2 q.1).bind fun w => (gJoin a w).bind fun z => some (.val z, q.2) := rfl
theorem mStore_ap {i : Nat} {me mk : MX} {ρ : Rho} : mStore i me mk ρ = (me ρ).bind fun p => (asVal p.1).bind fun u => (isOw p.2[i]?).bind fun _ => (mk p.2).bind fun q => match q.1 with
    | .val (.int k) => match q.2[i]? with
      | some (.ow (.list ds)) => (ixN ds.length k).bind fun j => some (.nx, q.2.set i (.ow (.list (ds.set j u))))
      | _ => none
    | _ => none := rfl
theorem mIndex_ap {mo me : MX} {ρ : Rho} : mIndex mo me ρ = (mo ρ).bind fun p => (deref p.2 p.1).bind fun u0 => (me p.2).bind fun q => (deref q.2 p.1).bind fun u => (asVal q.1).bind fun w => if isL u0 = isL u then (gIndex u w).bind fun z => some (.val z, q.2) else none := rfl
theorem mMut_ap {g : List U → List U → Option (U × List U)} {i : Nat} {ms : MA} {ρ : Rho} : mMut g i ms ρ = match ρ[i]? with
  | some (.ow (.list _)) => (ms ρ).bind fun q => (vals q.1).bind fun us => match q.2[i]? with
    | some (.ow (.list ds)) => (g ds us).bind fun r => some (.val r.1, q.2.set i (.ow (.list r.2)))
    | _ => none
  | _ => none := rfl
def kSeq (n : MS) (Q : Fl × Rho → Prop) : Fl × Rho → Prop := fun p => match p.1 with
  | .nx => wp (n p.2) Q
  | .bk => Q (.bk, p.2)
  | .ct => Q (.ct, p.2)
  | .rt u => Q (.rt u, p.2)
theorem wp_seq {m n : MS} {ρ : Rho} {Q : Fl × Rho → Prop} : wp (mSeq m n ρ) Q = wp (m ρ) (kSeq n Q) := by
  rw [mSeq_ap, wp_bind]
  congr 1
  funext p
  obtain ⟨fl, ρ1⟩ := p
  cases fl <;> first | rfl | exact wp_some
theorem kSeq_nx {n : MS} {Q : Fl × Rho → Prop} {ρ : Rho} : kSeq n Q (.nx, ρ) = wp (n ρ) Q := rfl
theorem kSeq_bk {n : MS} {Q : Fl × Rho → Prop} {ρ : Rho} : kSeq n Q (.bk, ρ) = Q (.bk, ρ) := rfl
theorem kSeq_ct {n : MS} {Q : Fl × Rho → Prop} {ρ : Rho} : kSeq n Q (.ct, ρ) = Q (.ct, ρ) := rfl
theorem kSeq_rt {n : MS} {Q : Fl × Rho → Prop} {ρ : Rho} {u : U} : kSeq n Q (.rt u, ρ) = Q (.rt u, ρ) := rfl
def kDef (mask : List Bool) (fr : Bool) (us : List U) (Q : U × List U → Prop) : Fl × Rho → Prop := fun p => match p.1 with
  | .nx => fr = false ∧ wp (pickBack mask p.2 us) fun us' => Q (.none, us')
  | .rt r => wp (pickBack mask p.2 us) fun us' => Q (r, us')
  | _ => False
theorem wp_def {mask : List Bool} {n : Nat} {fr : Bool} {m : MS} {us : List U} {Q : U × List U → Prop} (h : wp (m (argsRho mask us ++ List.replicate n .no)) (kDef mask fr us Q)) : wp (defM mask n fr m us) Q := by
  unfold defM
  rw [wp_bind]
  refine wp_mono h fun p q => ?_
  obtain ⟨fl, ρ1⟩ := p
  cases fl with
  | nx =>
    obtain ⟨e, q⟩ := q
    subst e
    show wp ((pickBack mask ρ1 us).bind _) Q
    rw [wp_bind]
    exact wp_mono q fun us' k => by rw [wp_some]; exact k
  | bk => exact q.elim
  | ct => exact q.elim
  | rt r =>
    show wp ((pickBack mask ρ1 us).bind _) Q
    rw [wp_bind]
    exact wp_mono q fun us' k => by rw [wp_some]; exact k
theorem kDef_nx {mask : List Bool} {fr : Bool} {us : List U} {Q : U × List U → Prop} {ρ : Rho} : kDef mask fr us Q (.nx, ρ) = (fr = false ∧ wp (pickBack mask ρ us) fun us' => Q (.none, us')) := rfl
theorem kDef_rt {mask : List Bool} {fr : Bool} {us : List U} {Q : U × List U → Prop} {ρ : Rho} {r : U} : kDef mask fr us Q (.rt r, ρ) = wp (pickBack mask ρ us) fun us' => Q (r, us') := rfl
theorem wp_ite_none {α : Type} {c : Prop} [Decidable c] {a : Option α} {Q : α → Prop} : wp (if c then a else none) Q = (c ∧ wp a Q) := by
  by_cases h : c
  · rw [if_pos h]; exact propext ⟨fun q => ⟨h, q⟩, fun q => q.2⟩
  · rw [if_neg h]; exact propext ⟨fun ⟨x, e, _⟩ => by (cases e), fun q => absurd q.1 h⟩
/-! what single words of mirrors do -/
section
variable {α : Type} {Q : α → Prop}
theorem gPlus_int {i j : Int} : gPlus (.int i) (.int j) = some (.int (i + j)) := rfl
theorem gPlus_str {x y : Str} (h : x.length + y.length ≤ sizeLine) : gPlus (.str x) (.str y) = some (.str (x ++ y)) := by
  show ((none : Option U).or ((if x.length + y.length ≤ sizeLine then some (PyData.str (x ++ y)) else none).or none)).or none = _
  rw [if_pos h]
  rfl
theorem gPlus_tup {x y : List U} (h : x.length + y.length ≤ sizeLine) : gPlus (.tuple x) (.tuple y) = some (.tuple (x ++ y)) := by
  show ((none : Option U).or ((none : Option U).or (if x.length + y.length ≤ sizeLine then some (PyData.tuple (x ++ y)) else none))).or none = _
  rw [if_pos h]
  rfl
theorem gSub_int {i j : Int} : gSub (.int i) (.int j) = some (.int (i - j)) := rfl
theorem gMul_int {i j : Int} (h : cMul i j = true) : gMul (.int i) (.int j) = some (.int (i * j)) := by
  show (if cMul i j = true then some (PyData.int (i * j)) else none) = _
  rw [if_pos h]
theorem cMul_l {i j : Int} (h : -(2 ^ 64) < i ∧ i < 2 ^ 64) : cMul i j = true := by
  unfold cMul
  simp only [Bool.or_eq_true, Bool.and_eq_true, decide_eq_true_eq]
  exact .inl h
theorem cMul_r {i j : Int} (h : -(2 ^ 64) < j ∧ j < 2 ^ 64) : cMul i j = true := by
  unfold cMul
  simp only [Bool.or_eq_true, Bool.and_eq_true, decide_eq_true_eq]
  exact .inr h
theorem gMod_int {i j : Int} (h : 0 < j) : gMod (.int i) (.int j) = some (.int (i % j)) := by
  show (if cPos i j = true then some (PyData.int (i % j)) else none) = _
  have c : cPos i j = true := decide_eq_true h
  rw [if_pos c]
theorem gFdiv_int {i j : Int} (h : 0 < j ∧ j < 2 ^ 64) : gFdiv (.int i) (.int j) = some (.int (i / j)) := by
  show (if cDiv i j = true then some (PyData.int (i / j)) else none) = _
  have c : cDiv i j = true := by
    unfold cDiv
    rw [decide_eq_true h.1, decide_eq_true h.2]
    rfl
  rw [if_pos c]
theorem gLt_int {i j : Int} : gLt (.int i) (.int j) = some (.bool (decide (i < j))) := rfl
theorem gLe_int {i j : Int} : gLe (.int i) (.int j) = some (.bool (decide (i ≤ j))) := rfl
theorem gGt_int {i j : Int} : gGt (.int i) (.int j) = some (.bool (decide (j < i))) := rfl
theorem gGe_int {i j : Int} : gGe (.int i) (.int j) = some (.bool (decide (j ≤ i))) := rfl
theorem gEq_int {i j : Int} : gEq (.int i) (.int j) = some (.bool (decide (i = j))) := rfl
theorem gNe_int {i j : Int} : gNe (.int i) (.int j) = some (.bool (!decide (i = j))) := rfl
theorem gEq_str {i j : Str} : gEq (.str i) (.str j) = some (.bool (decide (i = j))) := rfl
theorem gNe_str {i j : Str} : gNe (.str i) (.str j) = some (.bool (!decide (i = j))) := rfl
theorem gPow_int {i j : Int} (h : cPow i j = true) : gPow (.int i) (.int j) = some (.int (i ^ j.toNat)) := by
  show (if cPow i j = true then some (PyData.int (i ^ j.toNat)) else none) = _
  rw [if_pos h]
theorem gIx_list {ds : List U} {i : Int} : gIx (.list ds) (.int i) = atI ds i := rfl
theorem gIx_tuple {ds : List U} {i : Int} : gIx (.tuple ds) (.int i) = atI ds i := rfl
theorem gIx_str {x : Str} {i : Int} : gIx (.str x) (.int i) = (atI x.cps.toList i).bind fun c => some (.str ⟨#[c]⟩) := rfl
theorem atI_at {α : Type} {xs : List α} {i : Int} {x : α} (h0 : 0 ≤ i) (h : xs[i.toNat]? = some x) : atI xs i = some x := by
  have hl := (List.getElem?_eq_some_iff.mp h).1
  unfold atI ixN
  rw [if_pos h0, if_pos (by omega)]
  exact h
theorem atI_neg {α : Type} {xs : List α} {i : Int} {x : α} (h0 : i < 0) (h1 : 0 ≤ i + xs.length) (h : xs[(i + xs.length).toNat]? = some x) : atI xs i = some x := by
  unfold atI ixN
  rw [if_neg (by omega), if_pos (by omega)]
  exact h
theorem wp_atI {xs : List α} {i : Int} (h0 : 0 ≤ i) (h1 : i < xs.length) (k : ∀ x, xs[i.toNat]? = some x → Q x) : wp (atI xs i) Q := by
  have hl : i.toNat < xs.length := by omega
  have e := List.getElem?_eq_getElem hl
  exact ⟨_, atI_at h0 e, k _ e⟩
theorem wp_gMul {Q : U → Prop} {i j : Int} : wp (gMul (.int i) (.int j)) Q = (((-(2 ^ 64) < i ∧ i < 2 ^ 64) ∨ (-(2 ^ 64) < j ∧ j < 2 ^ 64)) ∧ Q (.int (i * j))) := by
  show wp (if cMul i j = true then some (PyData.int (i * j)) else none) Q = _
  rw [wp_ite_none, wp_some]
  congr 1
  unfold cMul
  simp only [Bool.or_eq_true, Bool.and_eq_true, decide_eq_true_eq]
theorem wp_gMod {Q : U → Prop} {i j : Int} : wp (gMod (.int i) (.int j)) Q = (0 < j ∧ Q (.int (i % j))) := by
  show wp (if cPos i j = true then some (PyData.int (i % j)) else none) Q = _
  rw [wp_ite_none, wp_some]
  congr 1
  unfold cPos
  simp only [decide_eq_true_eq]
theorem wp_gFdiv {Q : U → Prop} {i j : Int} : wp (gFdiv (.int i) (.int j)) Q = ((0 < j ∧ j < 2 ^ 64) ∧ Q (.int (i / j))) := by
  show wp (if cDiv i j = true then some (PyData.int (i / j)) else none) Q = _
  rw [wp_ite_none, wp_some]
  congr 1
  unfold cDiv
  simp only [Bool.and_eq_true, decide_eq_true_eq]
theorem atI_0 {α : Type} {x : α} {xs : List α} : atI (x :: xs) 0 = some x := atI_at (Int.le_refl 0) rfl
theorem atI_1 {α : Type} {x y : α} {xs : List α} : atI (x :: y :: xs) 1 = some y := atI_at (by decide) rfl
theorem atI_2 {α : Type} {x y z : α} {xs : List α} : atI (x :: y :: z :: xs) 2 = some z := atI_at (by decide) rfl
theorem atI_3 {α : Type} {x y z t : α} {xs : List α} : atI (x :: y :: z :: t :: xs) 3 = some t := atI_at (by decide) rfl
theorem ixN_nat {n : Nat} {i : Int} (h : 0 ≤ i ∧ i < n) : ixN n i = some i.toNat := by
  unfold ixN
  rw [if_pos h.1, if_pos h.2]
theorem ixN_20 : ixN 2 0 = some 0 := rfl
theorem ixN_21 : ixN 2 1 = some 1 := rfl
theorem gIn_def {u w : U} : gIn u w = (inU u w).bind fun b => some (.bool b) := rfl
theorem gNotIn_def {u w : U} : gNotIn u w = (inU u w).bind fun b => some (.bool !b) := rfl
theorem gSl_str {x : Str} {lo hi : Option Int} : gSl (.str x) lo hi = some (.str (cutS x lo hi)) := rfl
theorem gSl_tup {x : List U} {lo hi : Option Int} : gSl (.tuple x) lo hi = some (.tuple (cutU x lo hi)) := rfl
theorem gSl_list {x : List U} {lo hi : Option Int} : gSl (.list x) lo hi = some (.list (cutU x lo hi)) := rfl
end
end G

/-! Layer G, part 13: dicts whose keys are tuples. -/
namespace G
open PySem PySem.Spec PyProof.Rows L2
mutual
def keyN : U → Option NestedKey
  | .none => some .none
  | .int i => some (.num i)
  | .str x => some (.text x)
  | .tuple ds => (keyNs ds).bind fun ks => some (.tup ks)
  | .bool _ => none
  | .list _ => none
  | .dict _ => none
def keyNs : List U → Option (List NestedKey)
  | [] => some []
  | d :: ds => (keyN d).bind fun k => (keyNs ds).bind fun ks => some (k :: ks)
end
/-- a tuple as a key -/
def keyD (u : U) : Option NestedKey := match u with
  | .tuple _ => (keyN u).bind fun k => if k.depth ≤ 8 then some k else none
  | _ => none
mutual
theorem keyN_data : ∀ (u : U) (k : NestedKey), keyN u = some k → k.data = u
  | .none, k, h => by cases h; rfl
  | .int i, k, h => by cases h; rfl
  | .str x, k, h => by cases h; rfl
  | .tuple ds, k, h => by
    unfold keyN at h
    obtain ⟨ks, h1, h2⟩ := obind h
    cases h2
    show PyData.tuple (NestedKey.datas ks) = _
    rw [keyNs_data ds ks h1]
  | .bool _, k, h => by cases h
  | .list _, k, h => by cases h
  | .dict _, k, h => by cases h
theorem keyNs_data : ∀ (us : List U) (ks : List NestedKey), keyNs us = some ks → NestedKey.datas ks = us
  | [], ks, h => by cases h; rfl
  | u :: us, ks, h => by
    unfold keyNs at h
    obtain ⟨k, h1, h⟩ := obind h
    obtain ⟨ks', h2, h3⟩ := obind h
    cases h3
    show k.data :: NestedKey.datas ks' = _
    rw [keyN_data u k h1, keyNs_data us ks' h2]
end
mutual
theorem keyN_of : ∀ k : NestedKey, keyN k.data = some k
  | .none => rfl
  | .num i => rfl
  | .text x => rfl
  | .tup ks => by
    show (keyNs (NestedKey.datas ks)).bind _ = _
    rw [keyNs_of ks]
    rfl
theorem keyNs_of : ∀ ks : List NestedKey, keyNs (NestedKey.datas ks) = some ks
  | [] => rfl
  | k :: ks => by
    show (keyN k.data).bind _ = _
    rw [keyN_of k]
    show (keyNs (NestedKey.datas ks)).bind _ = _
    rw [keyNs_of ks]
    rfl
end
theorem keyD_of {u : U} {k : NestedKey} (h : keyD u = some k) : keyN u = some k ∧ k.depth ≤ 8 ∧ ∃ ds, u = .tuple ds := by
  unfold keyD at h
  cases u with
  | tuple ds =>
    obtain ⟨k', h1, h2⟩ := obind h
    split at h2
    · cases h2; exact ⟨h1, ‹_›, ds, rfl⟩
    · cases h2
  | none => cases h
  | bool _ => cases h
  | int _ => cases h
  | str _ => cases h
  | list _ => cases h
  | dict _ => cases h
/-- looked up, put -/
def lkU : List (U × U) → NestedKey → Option U
  | [], _ => none
  | p :: r, k => if keyN p.1 = some k then some p.2 else lkU r k
def putU : List (U × U) → U → NestedKey → U → List (U × U)
  | [], u, _, w => [(u, w)]
  | p :: r, u, k, w => if keyN p.1 = some k then (p.1, w) :: r else p :: putU r u k w
def vX : List (NestedKey × Addr × V) → NestedKey → Option V
  | [], _ => none
  | p :: r, k => if p.1 = k then some p.2.2 else vX r k
def putX : List (NestedKey × Addr × V) → NestedKey → Addr → V → List (NestedKey × Addr × V)
  | [], k, b, v => [(k, b, v)]
  | p :: r, k, b, v => if p.1 = k then (p.1, p.2.1, v) :: r else p :: putX r k b v
theorem putX_len (k : NestedKey) (b : Addr) (v : V) : ∀ l, (putX l k b v).length ≤ l.length + 1
  | [] => Nat.le_refl _
  | p :: r => by
    unfold putX
    split
    · exact Nat.le_succ _
    · exact Nat.succ_le_succ (putX_len k b v r)
theorem lk_v {K : Kn} {H : Hp} : ∀ {kvs : List (NestedKey × Addr × V)} {es : List (U × U)} (k : NestedKey), kvs.map (fun p => p.1.data) = es.map (·.1) → Rps K H (kvs.map (·.2.2)) (es.map (·.2)) →
    (lkU es k = none → vX kvs k = none) ∧ ∀ w, lkU es k = some w → ∃ v, vX kvs k = some v ∧ Rp K H v w
  | [], [], k, _, _ => ⟨fun _ => rfl, fun w h => by cases h⟩
  | [], _ :: _, k, h, _ => by cases h
  | _ :: _, [], k, h, _ => by cases h
  | p :: r, e :: es, k, h, hv => by
    rw [List.map_cons, List.map_cons] at h hv
    obtain ⟨h1, h2⟩ := List.cons.inj h
    cases hv with | cons r1 t =>
    have ih := lk_v (K := K) (H := H) k h2 t
    unfold lkU vX
    rw [← h1, keyN_of]
    by_cases c : p.1 = k
    · rw [if_pos c, if_pos (by rw [c])]
      exact ⟨(by intro z; cases z), (by intro w z; cases z; exact ⟨_, rfl, r1⟩)⟩
    · rw [if_neg c, if_neg (fun z => c (Option.some.inj z))]
      exact ih
theorem put_v {K : Kn} {H : Hp} {b : Addr} {v : V} {u w : U} {k : NestedKey} (hu : k.data = u) (rb : Rp K H (.ref b) u) (rv : Rp K H v w) : ∀ {kvs : List (NestedKey × Addr × V)} {es : List (U × U)}, kvs.map (fun p => p.1.data) = es.map (·.1) → Rps K H (kvs.map fun p => .ref p.2.1) (es.map (·.1)) → Rps K H (kvs.map (·.2.2)) (es.map (·.2)) →
    (putX kvs k b v).map (fun p => p.1.data) = (putU es u k w).map (·.1) ∧ Rps K H ((putX kvs k b v).map fun p => .ref p.2.1) ((putU es u k w).map (·.1)) ∧ Rps K H ((putX kvs k b v).map (·.2.2)) ((putU es u k w).map (·.2))
  | [], [], _, _, _ => ⟨by show [k.data] = [u]; rw [hu], .cons rb .nil, .cons rv .nil⟩
  | [], _ :: _, h, _, _ => by cases h
  | _ :: _, [], h, _, _ => by cases h
  | p :: r, e :: es, h, hk, hv => by
    rw [List.map_cons, List.map_cons] at h hv hk
    obtain ⟨h1, h2⟩ := List.cons.inj h
    cases hv with | cons r1 t =>
    cases hk with | cons r2 t2 =>
    have ih := put_v hu rb rv h2 t2 t
    unfold putX putU
    rw [← h1, keyN_of]
    by_cases c : p.1 = k
    · rw [if_pos c, if_pos (by rw [c])]
      refine ⟨?_, .cons (by rw [← h1] at r2; exact r2) t2, .cons rv t⟩
      show p.1.data :: _ = p.1.data :: _
      rw [h2]
    · rw [if_neg c, if_neg (fun z => c (Option.some.inj z))]
      refine ⟨?_, .cons r2 ih.2.1, .cons r1 ih.2.2⟩
      show p.1.data :: _ = e.1 :: _
      rw [h1, ih.1]
theorem put_len {u w : U} {k : NestedKey} : ∀ es : List (U × U), (putU es u k w).length ≤ es.length + 1
  | [] => Nat.le_refl _
  | p :: r => by
    unfold putU
    split
    · exact Nat.le_succ _
    · exact Nat.succ_le_succ (put_len r)
/-! ### at the machine -/
abbrev KX : List (NestedKey × Addr × V) → List (NestedKey × Addr × Value) → Prop := Paired fun p q => p.1 = q.1 ∧ p.2.1 = q.2.1 ∧ RelV p.2.2 q.2.2
theorem KX.val {kvs : List (NestedKey × Addr × V)} {xs : List (NestedKey × Addr × Value)} (r : KX kvs xs) (k : NestedKey) : RelO (vX kvs k) ((atKey xs k).map (·.2)) := by
  induction r with
  | nil => exact True.intro
  | @cons p q ps qs h t ih =>
    obtain ⟨h1, _, h2⟩ := h
    unfold vX
    by_cases e : p.1 = k
    · have e' : q.1 = k := h1.symm.trans e
      have b : atKey (q :: qs) k = some q.2 := by simp [atKey, List.find?_cons, e']
      rw [if_pos e, b]; exact h2
    · have e' : ¬ q.1 = k := fun z => e (h1.trans z)
      have b : atKey (q :: qs) k = atKey qs k := by simp [atKey, List.find?_cons, e']
      rw [if_neg e, b]; exact ih
theorem KX.keys {kvs : List (NestedKey × Addr × V)} {xs : List (NestedKey × Addr × Value)} (r : KX kvs xs) : kvs.map (·.1) = xs.map (·.1) := by
  induction r with
  | nil => rfl
  | cons h t ih => rw [List.map_cons, List.map_cons, ih, h.1]
theorem KX.put {k : NestedKey} {b : Addr} {y : V} {u : Value} (ry : RelV y u) : ∀ {kvs : List (NestedKey × Addr × V)} {xs : List (NestedKey × Addr × Value)}, KX kvs xs → (xs.map (·.1)).Nodup → KX (putX kvs k b y) (storedH xs k b u) := by
  intro kvs xs r nd
  induction r with
  | nil =>
    have e : storedH ([] : List (NestedKey × Addr × Value)) k b u = [(k, b, u)] := rfl
    rw [e]
    exact .cons ⟨rfl, rfl, ry⟩ .nil
  | @cons p q ps qs h t ih =>
    obtain ⟨h1, h2, h3⟩ := h
    rw [List.map_cons, List.nodup_cons] at nd
    unfold putX
    by_cases e : p.1 = k
    · have e' : q.1 = k := h1.symm.trans e
      have a : atKey (q :: qs) k = some q.2 := by simp [atKey, List.find?_cons, e']
      have no : ∀ x ∈ qs, ¬ x.1 = k := fun x hx z => nd.1 (List.mem_map.mpr ⟨x, hx, by rw [z, e']⟩)
      have same : qs.map (putAt k u) = qs := by
        have : ∀ l : List (NestedKey × Addr × Value), (∀ x ∈ l, ¬ x.1 = k) → l.map (putAt k u) = l := by
          intro l
          induction l with
          | nil => intro _; rfl
          | cons x l ihl =>
            intro hl
            rw [List.map_cons, ihl fun y hy => hl y (List.mem_cons_of_mem _ hy)]
            unfold putAt
            rw [if_neg (hl x (List.mem_cons_self ..))]
        exact this qs no
      rw [storedH_old a, List.map_cons, same, if_pos e]
      refine .cons ?_ t
      unfold putAt
      rw [if_pos e']
      exact ⟨h1, h2, ry⟩
    · have e' : ¬ q.1 = k := fun z => e (h1.trans z)
      have a : atKey (q :: qs) k = atKey qs k := by simp [atKey, List.find?_cons, e']
      have s : storedH (q :: qs) k b u = q :: storedH qs k b u := by
        unfold storedH
        rw [a]
        split
        · rw [List.map_cons]
          unfold putAt
          rw [if_neg e']
        · rfl
      rw [s, if_neg e]
      exact .cons ⟨h1, h2, h3⟩ (ih nd.2)
section
variable {X : Cx} {pins : List (Addr × Obj)} {σ : L2.St} {H : Hp} {s : Shared} {a : Addr} {A : Around} {E : Value → Shared → Prop}
mutual
theorem nested_of (I : Inv X pins σ H s) : ∀ (u : U) {v : V} {val : Value} {k : NestedKey}, Rp (kx X) H v u → RelV v val → keyN u = some k → NestedIs s.heap k val
  | .none, v, val, k, r, rv, h => by cases h; cases r; cases (show val = Value.none from rv); exact .none
  | .int i, v, val, k, r, rv, h => by
    cases h; cases r
    obtain ⟨t, e⟩ := (show ∃ t, val = Value.int i t from rv)
    subst e
    exact .int i t
  | .str x, v, val, k, r, rv, h => by
    cases h; cases r
    obtain ⟨t, e⟩ := (show ∃ t, val = Value.str x t from rv)
    subst e
    exact .text x t
  | .tuple ds, v, val, k, r, rv, h => by
    unfold keyN at h
    obtain ⟨ks, h1, h2⟩ := obind h
    cases h2
    cases r with | tup q r l =>
    cases (show val = Value.ref _ from rv)
    obtain ⟨its, rits, ⟨o, ho, hc, n, hd⟩, _⟩ := I.tuple q.sq
    exact .tup ho hc hd (by simpa using nesteds_of I ds r rits h1)
  | .bool _, _, _, k, _, _, h => by cases h
  | .list _, _, _, k, _, _, h => by cases h
  | .dict _, _, _, k, _, _, h => by cases h
theorem nesteds_of (I : Inv X pins σ H s) : ∀ (us : List U) {vs : List V} {vals : List Value} {ks : List NestedKey}, Rps (kx X) H vs us → Vals vs vals → keyNs us = some ks → NestedAll s.heap ks vals
  | [], _, _, ks, r, rv, h => by cases h; cases r; cases rv; exact .nil
  | u :: us, _, _, ks, r, rv, h => by
    unfold keyNs at h
    obtain ⟨k, h1, h⟩ := obind h
    obtain ⟨ks', h2, h3⟩ := obind h
    cases h3
    cases r with | cons r t =>
    cases rv with | cons rv tv =>
    exact .cons (nested_of I u r rv h1) (nesteds_of I us t tv h2)
end
/-- the dict at a, its keys all there -/
theorem dx_ok {kvs : List (NestedKey × Addr × V)} {es : List (U × U)} (I : Inv X pins σ H s) (e : H a = some (dxO X.prog X.w a kvs)) (hk : kvs.map (fun p => p.1.data) = es.map (·.1)) (rk : Rps (kx X) H (kvs.map fun p => .ref p.2.1) (es.map (·.1))) :
    kvs.length ≤ sizeLine ∧ (a == sysModules) = false ∧ (∀ p ∈ kvs, p.1.depth ≤ 8) ∧ ∃ xs, KX kvs xs ∧ s.heap.DictOfH (nestedKind X.prog X.w) a xs := by
  obtain ⟨⟨z, y, dp, xs, r, o, eo, ep, h1, h2, h3, h4, h5⟩, _, _⟩ := (show ObjOk X.prog X.w H s.heap a (dxO X.prog X.w a kvs) from I.hok a _ e)
  refine ⟨z, y, dp, xs, r, o, eo, ep, h1, h2, h3, h4, fun x hx => ?_, h5⟩
  have all : ∀ {l : List (NestedKey × Addr × V)} {m : List (NestedKey × Addr × Value)} {es : List (U × U)}, KX l m → l.map (fun p => p.1.data) = es.map (·.1) → Rps (kx X) H (l.map fun p => .ref p.2.1) (es.map (·.1)) → (∀ p ∈ l, p.1.depth ≤ 8) → ∀ x ∈ m, (nestedKind X.prog X.w).is s.heap x.1 x.2.1 := by
    intro l m es q
    induction q generalizing es with
    | nil => intro _ _ _ x hx; exact nomatch hx
    | @cons p q ps qs hq t ih =>
      intro hk rk dp x hx
      match es, hk, rk with
      | e0 :: es, hk, rk =>
        rw [List.map_cons, List.map_cons] at hk rk
        obtain ⟨h1, h2⟩ := List.cons.inj hk
        cases rk with | cons r1 tk =>
        rcases List.mem_cons.mp hx with e | hx
        · subst e
          refine ⟨?_, by rw [← hq.1]; exact dp p (List.mem_cons_self ..)⟩
          rw [← hq.1, ← hq.2.1]
          exact nested_of I _ r1 rfl (by rw [← h1]; exact keyN_of _)
        · exact ih h2 tk (fun p hp => dp p (List.mem_cons_of_mem _ hp)) x hx
  exact all r hk rk dp x hx
end
end G

/-! Layer G, part 14: what one does with a dict whose keys are tuples. -/
namespace G
open PySem PySem.Spec PyProof.Rows L2
section
variable {X : Cx} {pins : List (Addr × Obj)} {σ : L2.St} {H : Hp} {s : Shared} {a b : Addr} {A : Around} {E : Value → Shared → Prop} {kvs : List (NestedKey × Addr × V)} {es : List (U × U)} {k : NestedKey} {v : V}
/-- the dict at a is known, and the key at b -/
structure DxAt (X : Cx) (H : Hp) (a b : Addr) (kvs : List (NestedKey × Addr × V)) (k : NestedKey) : Prop where
  at_ : H a = some (dxO X.prog X.w a kvs)
  ks : ∃ es : List (U × U), kvs.map (fun p => p.1.data) = es.map (·.1) ∧ Rps (kx X) H (kvs.map fun p => .ref p.2.1) (es.map (·.1))
  kb : Rp (kx X) H (.ref b) k.data
  dp : k.depth ≤ 8
theorem DxAt.ok (I : Inv X pins σ H s) (d : DxAt X H a b kvs k) : kvs.length ≤ sizeLine ∧ (a == sysModules) = false ∧ (∀ p ∈ kvs, p.1.depth ≤ 8) ∧ (∃ xs, KX kvs xs ∧ s.heap.DictOfH (nestedKind X.prog X.w) a xs) ∧ (nestedKind X.prog X.w).is s.heap k b := by
  obtain ⟨es, h1, h2⟩ := d.ks
  obtain ⟨z, y, dp, xs, rel, dd⟩ := dx_ok I d.at_ h1 h2
  exact ⟨z, y, dp, ⟨xs, rel, dd⟩, nested_of I _ d.kb rfl (keyN_of k), d.dp⟩
theorem dx_get {Q : Value → Shared → Prop} (hu : A.units + 9 < cLine) (I : Inv X pins σ H s) (d : DxAt X H a b kvs k) (hv : vX kvs k = some v) (h : ∀ w' s', Inv X pins σ H s' → RelV v w' → Q w' s') : wpAny (model X.prog X.w) A (getItem (.ref a) (.ref b)) Q E s := by
  obtain ⟨z, y, dp, ⟨xs, rel, dd⟩, hk⟩ := d.ok I
  obtain ⟨w', hw, rw'⟩ := RelO.some_of (v := v) (o := (atKey xs k).map (·.2)) (by rw [← hv]; exact rel.val k)
  obtain ⟨p, hp, hp2⟩ := Option.map_eq_some_iff.mp hw
  refine wpAny_getItem_heap (knd := nestedKind X.prog X.w) (show A.in1.units + 8 < cLine by rw [Around.in1_units]; omega) hk dd hp ?_
  rw [hp2]
  exact h w' _ (I.tok _) rw'
theorem dx_in {Q : Value → Shared → Prop} (hu : A.units + 9 < cLine) (I : Inv X pins σ H s) (d : DxAt X H a b kvs k) (h : ∀ s', Inv X pins σ H s' → Q (.bool (vX kvs k).isSome) s') : wpAny (model X.prog X.w) A (compareOp .In (.ref b) (.ref a)) Q E s := by
  obtain ⟨z, y, dp, ⟨xs, rel, dd⟩, hk⟩ := d.ok I
  refine wpAny_in_heap (knd := nestedKind X.prog X.w) (show A.in1.units + 8 < cLine by rw [Around.in1_units]; omega) hk y dd ?_
  have q := (rel.val k).isSome_eq
  rw [Option.isSome_map] at q
  rw [← q]
  exact h _ (I.tok _)
theorem dx_notIn {Q : Value → Shared → Prop} (hu : A.units + 9 < cLine) (I : Inv X pins σ H s) (d : DxAt X H a b kvs k) (h : ∀ s', Inv X pins σ H s' → Q (.bool (!(vX kvs k).isSome)) s') : wpAny (model X.prog X.w) A (compareOp .NotIn (.ref b) (.ref a)) Q E s := by
  obtain ⟨z, y, dp, ⟨xs, rel, dd⟩, hk⟩ := d.ok I
  refine wpAny_notIn_heap (knd := nestedKind X.prog X.w) (show A.in1.units + 8 < cLine by rw [Around.in1_units]; omega) hk y dd ?_
  have q := (rel.val k).isSome_eq
  rw [Option.isSome_map] at q
  rw [← q]
  exact h _ (I.tok _)
theorem dx_new (z : kvs.length ≤ sizeLine) (y : (a == sysModules) = false) (dp : ∀ p ∈ kvs, p.1.depth ≤ 8) {P : Program} {w : World} {H' : Hp} {h' : Heap} {xs : List (NestedKey × Addr × Value)} (rel : KX kvs xs) (dd : h'.DictOfH (nestedKind P w) a xs) : ObjOk P w H' h' a (dxO P w a kvs) := by
  obtain ⟨o, eo, ep, h1, h2, h3, h4, _, h5⟩ := dd
  refine ⟨⟨z, y, dp, xs, rel, o, eo, ep, h1, h2, h3, h4, h5⟩, ⟨o, h1⟩, fun g1 g2 q k => ?_⟩
  obtain ⟨z, y, dp, xs, rel, o, eo, ep, h1, h2, h3, h4, h5⟩ := q
  exact ⟨z, y, dp, xs, rel, o, eo, ep, k _ h1, h2, h3, h4, h5⟩
theorem putX_depth {v : V} (hd : k.depth ≤ 8) : ∀ {kvs : List (NestedKey × Addr × V)}, (∀ p ∈ kvs, p.1.depth ≤ 8) → ∀ p ∈ putX kvs k b v, p.1.depth ≤ 8
  | [], _, p, hp => by
    rw [List.mem_singleton.mp hp]
    exact hd
  | q :: r, h, p, hp => by
    unfold putX at hp
    split at hp
    · rcases List.mem_cons.mp hp with e | hp
      · rw [e]; exact h q (List.mem_cons_self ..)
      · exact h p (List.mem_cons_of_mem _ hp)
    · rcases List.mem_cons.mp hp with e | hp
      · rw [e]; exact h q (List.mem_cons_self ..)
      · exact putX_depth hd (fun p hp => h p (List.mem_cons_of_mem _ hp)) p hp
theorem dx_set {Q : Unit → Shared → Prop} {r : Value} (hu : A.units + 9 < cLine) (I : Inv X pins σ H s) (d : DxAt X H a b kvs k) (hl : kvs.length < sizeLine) (rv : RelV v r) (h : ∀ s', Inv X pins σ (upd H a (dxO X.prog X.w a (putX kvs k b v))) s' → Q () s') : wpAny (model X.prog X.w) A (setItem (.ref a) (.ref b) r) Q E s := by
  obtain ⟨z, y, dp, ⟨xs, rel, dd⟩, hk⟩ := d.ok I
  have hz : xs.length ≤ sizeLine := by rw [← Paired.length rel]; exact z
  have nd : (xs.map (·.1)).Nodup := by obtain ⟨_, _, _, _, _, _, _, _, h5⟩ := dd; exact h5
  refine wpAny_setItem_heap (knd := nestedKind X.prog X.w) (hsz := hz) (show A.in1.units + 8 < cLine by rw [Around.in1_units]; omega) hk dd fun h' dd' hs => h _ ?_
  have he : ∃ q, h'.get? a = some q := let ⟨q, _, _, hq, _⟩ := dd'; ⟨q, hq⟩
  refine d_write I (by rw [d.at_]; exact True.intro) hs he (dx_new (by have := putX_len k b v kvs; omega) y (putX_depth d.dp dp) (rel.put rv nd) dd')
end
/-! ### rules -/
section
variable {X : Cx} {pos pos' : Pos} {e ke : Expr} {me mk : MX}
/-- the pairs of a dict with tuple keys -/
def dxU : U → Option (List (U × U))
  | .dict ((.dict [], _) :: es) => some es
  | _ => none
theorem dxU_eq {u : U} {es : List (U × U)} (h : dxU u = some es) : ∃ w, u = .dict ((.dict [], w) :: es) := by
  unfold dxU at h
  split at h
  · cases h; exact ⟨_, rfl⟩
  · cases h
theorem rp2_dx {K : Kn} {Hs H : Hp} {v : V} {u : U} {es : List (U × U)} (h : Rp2 K Hs H v u) (hu : dxU u = some es) : ∃ (a : Addr) (kvs : List (NestedKey × Addr × V)), v = .ref a ∧ H a = some (dxO K.P K.w a kvs) ∧ kvs.map (fun p => p.1.data) = es.map (·.1) ∧ Rps K Hs (kvs.map fun p => .ref p.2.1) (es.map (·.1)) ∧ Rps K Hs (kvs.map (·.2.2)) (es.map (·.2)) ∧ es.length < sizeLine := by
  obtain ⟨w, rfl⟩ := dxU_eq hu
  obtain ⟨l, h⟩ := h
  rcases h with ⟨a, kvs, rfl, q, k, r⟩ | ⟨a, kvs, es', rfl, q, e, k, r1, r⟩
  · match kvs, k with
    | kv :: kvs, k =>
      rw [List.map_cons, List.map_cons] at k
      have k1 := (List.cons.inj k).1
      obtain ⟨key, vv⟩ := kv
      cases key <;> cases k1
  · cases e
    exact ⟨a, kvs, rfl, q, k, r1, r, by rw [List.length_cons] at l; omega⟩
theorem rp2_key {K : Kn} {Hs H : Hp} {v : V} {u : U} {k : NestedKey} (h : Rp2 K Hs H v u) (hk : keyD u = some k) : ∃ b, v = .ref b ∧ Rp K Hs (.ref b) k.data ∧ k.depth ≤ 8 ∧ k.data = u := by
  obtain ⟨h1, h2, ds, rfl⟩ := keyD_of hk
  have hr := h.sh (fun ds e => by cases e) (fun ds e => by cases e)
  have e := keyN_data _ _ h1
  cases hr with | tup q r l =>
  exact ⟨_, rfl, by rw [e]; exact .tup q r l, h2, e⟩
def gIxD : U → U → Option U := fun u w => (dxU u).bind fun es => (keyD w).bind fun k => lkU es k
def gInD : U → U → Option U := fun w u => (dxU u).bind fun es => (keyD w).bind fun k => some (.bool (lkU es k).isSome)
def gNotInD : U → U → Option U := fun w u => (dxU u).bind fun es => (keyD w).bind fun k => some (.bool !(lkU es k).isSome)
def rIxD (X : Cx) : R2 := fun x y H Q => ∃ a b kvs k v, x = .ref a ∧ y = .ref b ∧ DxAt X H a b kvs k ∧ vX kvs k = some v ∧ Q v H
def rInX (X : Cx) (n : Bool) : R2 := fun y x H Q => ∃ a b kvs k, x = .ref a ∧ y = .ref b ∧ DxAt X H a b kvs k ∧ Q (.bl (if n then !(vX kvs k).isSome else (vX kvs k).isSome)) H
theorem op_inX (hu : X.A.units + 9 < cLine) : OpR X (compareOp .In) (rInX X false) := by
  intro pins s σ H x y v u Q I rx ry h
  obtain ⟨a, b, kvs, k, rfl, rfl, d, q⟩ := h
  cases rx
  cases ry
  exact dx_in hu I d fun s' I' => ⟨.bl (vX kvs k).isSome, H, I', rfl, q⟩
theorem op_notInX (hu : X.A.units + 9 < cLine) : OpR X (compareOp .NotIn) (rInX X true) := by
  intro pins s σ H x y v u Q I rx ry h
  obtain ⟨a, b, kvs, k, rfl, rfl, d, q⟩ := h
  cases rx
  cases ry
  exact dx_notIn hu I d fun s' I' => ⟨.bl (!(vX kvs k).isSome), H, I', rfl, q⟩
theorem some_iff {K : Kn} {H : Hp} {kvs : List (NestedKey × Addr × V)} {es : List (U × U)} (k : NestedKey) (h : kvs.map (fun p => p.1.data) = es.map (·.1)) (r : Rps K H (kvs.map (·.2.2)) (es.map (·.2))) : (vX kvs k).isSome = (lkU es k).isSome := by
  obtain ⟨h1, h2⟩ := lk_v k h r
  cases e : lkU es k with
  | none => rw [h1 e]; rfl
  | some w =>
    obtain ⟨v, e2, _⟩ := h2 w e
    rw [e2]
    rfl
theorem o_inD (hu : X.A.units + 9 < cLine) : OpG X (compareOp .In) gInD := by
  refine ⟨_, op_inX hu, fun Hs H x y u w z Q le rx ry e k => ?_⟩
  obtain ⟨es, e1, e⟩ := obind e
  obtain ⟨kk, e2, e⟩ := obind e
  cases e
  obtain ⟨a, kvs, rfl, h1, h2, h3, h4, _⟩ := rp2_dx ry e1
  obtain ⟨b, rfl, h5, h6, h7⟩ := rp2_key rx e2
  refine ⟨a, b, kvs, kk, rfl, rfl, ⟨h1, ⟨es, h2, rps_mono le _ h3⟩, rp_mono le _ h5, h6⟩, ?_⟩
  have c := some_iff kk h2 h4
  show Q (.bl (vX kvs kk).isSome) H
  rw [c]
  exact k _ _ (.inl ⟨rfl, .bl _⟩)
theorem o_notInD (hu : X.A.units + 9 < cLine) : OpG X (compareOp .NotIn) gNotInD := by
  refine ⟨_, op_notInX hu, fun Hs H x y u w z Q le rx ry e k => ?_⟩
  obtain ⟨es, e1, e⟩ := obind e
  obtain ⟨kk, e2, e⟩ := obind e
  cases e
  obtain ⟨a, kvs, rfl, h1, h2, h3, h4, _⟩ := rp2_dx ry e1
  obtain ⟨b, rfl, h5, h6, h7⟩ := rp2_key rx e2
  refine ⟨a, b, kvs, kk, rfl, rfl, ⟨h1, ⟨es, h2, rps_mono le _ h3⟩, rp_mono le _ h5, h6⟩, ?_⟩
  have c := some_iff kk h2 h4
  show Q (.bl (!(vX kvs kk).isSome)) H
  rw [c]
  exact k _ _ (.inl ⟨rfl, .bl _⟩)
theorem pe_ixD {td ty : TE} (hu : X.A.units + 9 < cLine) (ho : PE X e td) (hi : PE X ke ty) (hs : NoSl ke) : PE X (.Subscript e ke pos) (tOp (rIxD X) td ty) := by
  refine ⟨fun pins s σ H Q I h => ?_⟩
  refine subD_of PySem.F.slot_dict_getitem.lookup hs (thn (ho.run pins s σ H _ I h) fun u s1 ⟨x, H1, I1, rx, q1⟩ => thn (hi.run pins s1 σ H1 _ I1 q1) fun iv s2 ⟨y, H2, I2, ry, a, b, kvs, k, v, ex, ey, d, hv, q2⟩ => ?_)
  subst ex
  subst ey
  obtain rfl : u = Value.ref a := rx
  obtain rfl : iv = Value.ref b := ry
  obtain ⟨_, _, _, ⟨xs, _, dd⟩, _⟩ := d.ok I2
  exact ⟨dd.typeIs, dx_get hu I2 d hv fun w' s3 I3 rw' => ⟨v, H2, I3, rw', q2⟩⟩
theorem x_ixD (hu : X.A.units + 9 < cLine) (ha : EX X e me) (hb : EX X ke mk) (hs : NoSl ke := by exact fun _ _ => rfl) : EX X (.Subscript e ke pos) (mBin gIxD me mk) := by
  have hr : Gv (kx X) ResV gIxD (rIxD X) := fun Hs H x y u w z Q le rx ry e k => by
    obtain ⟨es, e1, e⟩ := obind e
    obtain ⟨kk, e2, e⟩ := obind e
    obtain ⟨a, kvs, rfl, h1, h2, h3, h4, _⟩ := rp2_dx rx e1
    obtain ⟨b, rfl, h5, h6, h7⟩ := rp2_key ry e2
    obtain ⟨v, hv, rv⟩ := (lk_v kk h2 h4).2 z e
    exact ⟨a, b, kvs, kk, v, rfl, rfl, ⟨h1, ⟨es, h2, rps_mono le _ h3⟩, rp_mono le _ h5, h6⟩, hv, k _ _ (.inl ⟨rfl, rv⟩)⟩
  exact pe_imp (pe_ixD hu ha hb hs) (rd_bin hr.a)
/-! {} with tuple keys, len -/
def mDict0 : MF := fun ρ => some (.dict [mkD], ρ)
theorem f_dict0 : FX X (.Dict [] [] pos) mDict0 := by
  refine ⟨fun pins s σ H Q I h => ?_⟩
  obtain ⟨as, Hs, Fz, ρ, u, ρ', R, e, k⟩ := h
  cases e
  have hf : H s.heap.objs.size = none := I.hok.fresh (Nat.le_refl _)
  have hn : (s.heap.objs.size == sysModules) = false := beq_eq_false_iff_ne.mpr (Ne.symm (Nat.ne_of_lt I.big))
  have new : ObjOk X.prog X.w (upd H s.heap.objs.size (dxO X.prog X.w s.heap.objs.size [])) (s.heap.push { cls := .type "dict", data := .dict #[] }) s.heap.objs.size (dxO X.prog X.w s.heap.objs.size []) :=
    dx_new (Nat.zero_le _) hn (fun p hp => by cases hp) .nil (Heap.DictOfH.new s.heap)
  refine wpAny_Dict_empty ⟨.ref s.heap.objs.size, _, I.laid (a := s.heap.objs.size) (o := dxO X.prog X.w s.heap.objs.size []) (t' := s.toks) (fun _ _ q => Heap.get?_push_of_some _ q) (Nat.le_refl _) new, rfl, ?_⟩
  refine k _ _ Hs (R.lay _ hf) (hle_refl _) ⟨hle_none R.s hf, hle_none R.f hf, ⟨by show 1 ≤ sizeLine; decide, .inr ⟨[], [], upd_same, rfl, rfl, .nil, .nil⟩⟩, fun i w hw hs => ?_⟩
  obtain ⟨a, g1, _, _, g4⟩ := R.ow i w hw
  rw [hs] at g1
  cases g1
  obtain ⟨o, g5, _⟩ := g4.obj
  rw [hf] at g5
  cases g5
def gLenD : List U → Option U := fun us => match us with
  | [u] => (dxU u).bind fun es => some (.int es.length)
  | _ => none
theorem c_lenD : CallG X (.builtin "len") gLenD := by
  refine ⟨fun xs H Q => ∃ (a b : Addr) (kvs : List (NestedKey × Addr × V)) (es : List (U × U)), xs = [.ref a] ∧ H a = some (dxO X.prog X.w a kvs) ∧ kvs.map (fun p => p.1.data) = es.map (·.1) ∧ Rps (kx X) H (kvs.map fun p => .ref p.2.1) (es.map (·.1)) ∧ Q (.int ((kvs.length : Nat) : Int)) H, ?_, fun Hs H xs us z Q le r e k => ?_⟩
  · intro pins s σ H xs us Q I r h
    obtain ⟨a, b, kvs, es, rfl, h1, h2, h3, q⟩ := h
    obtain ⟨u, rfl, rx⟩ := vals1 r
    obtain rfl : u = .ref a := rx
    obtain ⟨z, y, _, xs, rel, dd⟩ := dx_ok I h1 h2 h3
    have hl : kvs.length = xs.length := Paired.length rel
    refine call_len_dictH y dd (by rw [← hl]; rw [sizeLine_eq] at z; omega) ?_
    exact ⟨.int ((kvs.length : Nat) : Int), H, I.tok _, ⟨_, by rw [hl]⟩, q⟩
  · unfold gLenD at e
    split at e
    · obtain ⟨es, e1, e⟩ := obind e
      cases e
      obtain ⟨v, rfl, rv⟩ := pair1 r
      obtain ⟨a, kvs, rfl, h1, h2, h3, h4, _⟩ := rp2_dx rv e1
      have hl : kvs.length = es.length := by
        have := congrArg List.length h2
        rw [List.length_map, List.length_map] at this
        exact this
      refine ⟨a, a, kvs, es, rfl, h1, h2, rps_mono le _ h3, ?_⟩
      rw [hl]
      exact k _ _ (.inl ⟨rfl, .int _⟩)
    · cases e
end
/-! d[k] = v -/
def rSetX (X : Cx) : V → V → V → Hp → (Hp → Prop) → Prop := fun o i v H Q => ∃ a b kvs k, o = .ref a ∧ i = .ref b ∧ DxAt X H a b kvs k ∧ kvs.length < sizeLine ∧ Q (upd H a (dxO X.prog X.w a (putX kvs k b v)))
theorem set_dx {X : Cx} (hu : X.A.units + 9 < cLine) : PSet X (rSetX X) := by
  intro pins s σ H o i v ov iv u Q I ro ri rv h
  obtain ⟨a, b, kvs, k, rfl, rfl, d, hl, q⟩ := h
  cases ro
  cases ri
  exact dx_set hu I d hl rv fun s' I' => ⟨_, I', q⟩
def mStoreD (i : Nat) (me mk : MX) : MS := fun ρ => (me ρ).bind fun p => (asVal p.1).bind fun u => (isOw p.2[i]?).bind fun _ => (mk p.2).bind fun q => (asVal q.1).bind fun w => match q.2[i]? with
  | some (.ow d) => (dxU d).bind fun es => (keyD w).bind fun k => if es.length + 2 ≤ sizeLine then some (.nx, q.2.set i (.ow (.dict (mkD :: putU es w k u)))) else none
  | _ => none
section
variable {X : Cx} {io : List Nat} {fr : Bool} {e ke : Expr} {me mk : MX} {x : Str} {p pos pos' : Pos}
theorem s_storeD (i : Nat) (hu : X.A.units + 9 < cLine) (he : EX X e me) (hk : EX X ke mk) (hN : X.N[i]? = some x := by rfl) (hv : Vis X.env.scope x := by first | exact Or.inl rfl | exact Or.inr (Or.inl rfl) | exact Or.inr (Or.inr rfl)) (hd : (x == ("__debug__" : Str)) = false := by decide)
    (hcd : (x == ("__classdict__" : Str)) = false := by decide)
    (ha : ∀ v, assign (.Subscript (.Name x p) ke pos') X.env v = (do
      let ov ← holding [v] (eval (.Name x p) X.env)
      let iv ← holding [v, ov] (eval ke X.env)
      standAt pos'
      holding [v, ov, iv] (setItem ov iv v)
      release [v, ov, iv] []) := by intro _; rfl) (hs : swapsWithSole [.Subscript (.Name x p) ke pos'] e pos.line X.env = pure false := by rfl) (hw : swappedStores [.Subscript (.Name x p) ke pos'] e X.env = pure none := by rfl)
    (h1 : (assignEach [.Subscript (.Name x p) ke pos'] X.env).map (·.2) = [assign (.Subscript (.Name x p) ke pos') X.env] := by rfl) : SX X io fr (.Assign [.Subscript (.Name x p) ke pos'] e pos) (mStoreD i me mk) := by
  refine ps_imp (ps_asg he (pg_sub (pe_var hN hv hd hcd) hk (set_dx hu) ha) hs hw h1) fun D σ H q => ?_
  obtain ⟨as, Hs, Fz, ρ, fl, ρ', ea, R, e1, k⟩ := q
  obtain ⟨tv, ρ1, e2, e1⟩ := obind2 e1
  obtain ⟨u, e3, e1⟩ := obind e1
  obtain ⟨_, eo, e1⟩ := obind e1
  obtain ⟨tk, ρ2, e4, e1⟩ := obind2 e1
  obtain ⟨w, e5, e1⟩ := obind e1
  split at e1
  · rename_i d hi
    obtain ⟨es, e6, e1⟩ := obind e1
    obtain ⟨kk, e7, e1⟩ := obind e1
    split at e1
    · rename_i hz
      cases e1
      cases tv with
      | own i => cases e3
      | val u' =>
      cases e3
      cases tk with
      | own i => cases e5
      | val w' =>
      cases e5
      refine ⟨as, Hs, Fz, ρ, _, ρ1, R, e2, fun v H1 Hs1 R1 le1 rv => ?_⟩
      have hi0 : ∃ a : Addr, σ[i]? = some (some (V.ref a)) := by
        unfold isOw at eo
        split at eo
        · rename_i w0 hw0
          obtain ⟨a, g1, _⟩ := R1.ow i _ hw0
          exact ⟨a, g1⟩
        · cases eo
      obtain ⟨a, ga⟩ := hi0
      refine ⟨_, ga, as, Hs1, Fz, ρ1, _, ρ2, R1, e4, fun y H2 Hs2 R2 le2 ry => ?_⟩
      obtain ⟨a', q1, _, _, q2⟩ := R2.ow i _ hi
      rw [ga] at q1
      cases q1
      obtain ⟨a2, kvs, ev, h1, h2, h3, h4, _⟩ := rp2_dx (Rp2.own q2) e6
      cases ev
      have ry' : Rp (kx X) Hs2 y w := ry
      obtain ⟨b, rfl, h5, h6, h7⟩ := rp2_key (Rp2.of ry' R2.s) e7
      have rv' : Rp (kx X) Hs2 v u := rp_mono le2 _ rv
      have hl : kvs.length = es.length := by
        have := congrArg List.length h2
        rw [List.length_map, List.length_map] at this
        exact this
      refine ⟨a, b, kvs, kk, rfl, rfl, ⟨h1, ⟨es, h2, rps_mono R2.s _ h3⟩, rp_mono R2.s _ h5, h6⟩, by omega, ?_⟩
      have pv := put_v (K := kx X) (H := Hs2) (v := v) (w := u) (k := kk) h7 (by rw [← h7]; exact h5) rv' h2 h3 h4
      exact k σ _ Hs2 (R2.put hi ga (u := .dict (mkD :: putU es w kk u)) (o := dxO X.prog X.w a (putX kvs kk b v)) ⟨by have := put_len (u := w) (w := u) (k := kk) es; rw [List.length_cons]; omega, .inr ⟨_, _, rfl, rfl, pv.1, pv.2.1, pv.2.2⟩⟩) (hle_trans le1 le2)
    · cases e1
  · cases e1
end
end G

/-! Layer G, part 15: enumerate, zip. -/
namespace G
open PySem PySem.Spec PyProof.Rows L2
open AutoSeq1 (wpAny_loadPart')
/-! ### enumerate -/
def IteF (S : Hp → List V → Prop) : It :=
  ⟨fun i H => ∃ (xs : List V) (x : V), S H xs ∧ xs[i]? = some x, fun i H v H' => ∃ T o x, v = .ref T ∧ H T = none ∧ H' = upd H T (.frz o (.tup [.int (i : Nat), x])) ∧ o.dict = none ∧ ∀ xs, S H xs → xs[i]? = some x, fun i H => ∃ xs : List V, S H xs ∧ xs.length ≤ i⟩
theorem turn_enumL {P : Program} {w : World} {K : PySem.W.Frag} {elts : List Expr} {kk : Nat} {tpos : Pos} (a e it : Addr) :
    Turn P w K (.Tuple elts kk tpos) (IteF fun H xs => SqL K H a xs) [e, it] e (fun i h => (∃ old, IsEnum h e it ((i : Nat) : Int) old) ∧ h.IsListIter it a i ∧ e ≠ it) where
  mem := by simp
  obj := (turn_enum (P := P) (w := w) (K := K) (elts := elts) (kk := kk) (tpos := tpos) a e it).obj
  keep := (turn_enum (P := P) (w := w) (K := K) (elts := elts) (kk := kk) (tpos := tpos) a e it).keep
  item := by
    intro X hP hw hK hc i pins s σ H E I hf st hg
    subst hP hw hK
    obtain ⟨⟨old, he⟩, hit, hne⟩ := st
    obtain ⟨xs, x, hq, hx⟩ := hg
    obtain ⟨its, rv, p, hz⟩ := I.list hq
    obtain ⟨u, hu, ru⟩ := rv.get hx
    have hel : e < s.heap.objs.size := Heap.lt_size he
    have hil : it < s.heap.objs.size := by obtain ⟨_, q, _⟩ := hit; exact Heap.lt_size q
    refine wpAny_pyNext_enum_item he hit p.isList (x := u) (by simpa using hu) hne fun h' ho hit' hT hsz hk => ?_
    refine ⟨_, rfl, wpAny_letOwnedTupleGo_enum (s := { s with heap := h', toks := s.toks + 1 }) ho fun h'' he' sb => ?_⟩
    have hT2 := (sb.2 _ (Nat.ne_of_gt hel)).trans hT
    have new : ObjOk X.prog X.w (upd H s.heap.objs.size (.frz { cls := .type "tuple", data := .seq #[.int i s.toks, u] } (.tup [.int (i : Nat), x]))) h'' s.heap.objs.size (.frz { cls := .type "tuple", data := .seq #[.int i s.toks, u] } (.tup [.int (i : Nat), x])) :=
      ⟨hT2, by show 2 ≤ sizeLine; decide, [.int i s.toks, u], .cons ⟨_, rfl⟩ (.cons ru .nil), ⟨_, hT2, rfl, _, rfl⟩⟩
    have I1 := I.turnedNew (t' := s.toks + 1) (ch := [e, it]) (fun b ob hb q => (sb.2 b (fun z => hb (by simp [z]))).trans (hk b ob (fun z => hb (by simp [z])) (fun z => hb (by simp [z])) q)) hf (Nat.le_refl _) new
    refine ⟨.ref s.heap.objs.size, _, I1, rfl, ⟨_, _, x, rfl, I.hok.fresh (Nat.le_refl _), rfl, rfl, fun ys hy => by rw [I.list_inj hy hq]; exact hx⟩, ⟨⟨u, ?_⟩, hit'.at fun o q => (sb.2 it (Ne.symm hne)).trans q, hne⟩, fun b hb => ?_⟩
    · have e1 : ((i + 1 : Nat) : Int) = (i : Int) + 1 := by omega
      rw [e1]; exact he'
    · have hb' : b < s.heap.objs.size := by
        have e' : b = e ∨ b = it := by simpa using hb
        rcases e' with z | z
        · rw [z]; exact hel
        · rw [z]; exact hil
      rw [upd_ne (Nat.ne_of_lt hb')]
      exact (hf b hb).1
  done := (turn_enum (P := P) (w := w) (K := K) (elts := elts) (kk := kk) (tpos := tpos) a e it).done
  self := (turn_enum (P := P) (w := w) (K := K) (elts := elts) (kk := kk) (tpos := tpos) a e it).self
section
variable {prog : Program} {w : World} {A : Around} {E : Value → Shared → Prop} {s : Shared}
theorem draws_tup {it t : Addr} {items : Array Value} (hh : A.handled = none) (hne : t ≠ it) : Draws prog w A it [it, t] items.size (fun i x => items[i]? = some x) (fun i h => h.IsTupleIter it t i ∧ h.IsTuple t items) where
  live := fun i h st => by obtain ⟨⟨o, ho, _⟩, _⟩ := st; exact ⟨o, ho⟩
  frame := fun i h h' st k => by
    obtain ⟨⟨o, ho, r⟩, ⟨o2, ho2, r2⟩⟩ := st
    exact ⟨⟨o, k it (by simp) _ ho, r⟩, ⟨o2, k t (by simp) _ ho2, r2⟩⟩
  item := fun i s Q E hi st hQ => by
    have hx : items[i]? = some items[i] := by simp [hi]
    refine RZ.nextOf_tuple_item st.1 st.2 hx fun h' hit sb => ?_
    exact hQ _ h' s.toks hx ⟨hit, st.2.extBut sb.extBut hne⟩ sb
  done := fun s Q E st hE => RZ.nextOf_tuple_end hh st.1 st.2 (by simp) fun h' e he ho => hE h' e he ho
theorem meets_enumerate_newT (l : Addr) (items : Array Value) (n : Nat) (dct : Option Addr) (sl : Array (Option Value)) :
    Meets (Builtin.«enumerate.__new__» ⟨[.type "enumerate", .ref l], []⟩) (fun _ R s => s.heap.get? l = some { cls := .type "tuple", dict := dct, data := .seq items n, slots := sl } ∧
      R (.ok (.ret (.ref (s.heap.push { cls := .type "tuple_iterator", data := .fields #[.ref l, .int 0 0] }).objs.size)))
        { s with heap := (s.heap.push { cls := .type "tuple_iterator", data := .fields #[.ref l, .int 0 0] }).push { cls := .type "enumerate", data := .fields #[.none, .bool false, .ref s.heap.objs.size, rawInt 0, .none, .none] } }) :=
  .of_wp fun prog w A R s h => by
    obtain ⟨hp, g, d, tk, os⟩ := s; obtain ⟨hl, h⟩ := h
    have hsub := sub_enumerate
    have hL : IsTup (Shared.heap ⟨hp, g, d, tk, os⟩) l items := ⟨_, hl, rfl, n, rfl⟩
    wp_walk using wpAny_loadPart' hl
    refine wpAny_stack_any fun st => wpAny_pure ?_
    split
    · rename_i c _ _ _ _ _
      cases (c == Value.type "enumerate")
      · wp_walk using wpAny_loadPart' hl, iter_tuple hL
        exact ⟨_, rfl, h⟩
      · wp_walk using wpAny_loadPart' hl, iter_tuple hL
        exact ⟨_, rfl, h⟩
    · wp_walk using wpAny_loadPart' hl, iter_tuple hL
      exact ⟨_, rfl, h⟩
theorem call_enumerate_tup {l : Addr} {items : Array Value} {Q : Value → Shared → Prop} (hL : IsTup s.heap l items)
    (h : ∀ h', IsEnum h' (s.heap.objs.size + 1) s.heap.objs.size 0 .none → h'.IsTupleIter s.heap.objs.size l 0 → h'.objs.size = s.heap.objs.size + 2 →
      (∀ b o, s.heap.get? b = some o → h'.get? b = some o) → Q (.ref (s.heap.objs.size + 1)) { s with heap := h' }) :
    wpAny (model prog w) A (call (.type "enumerate") [.ref l]) Q E s := by
  obtain ⟨⟨c, dct, dt, sl⟩, hl, hc, n, hd⟩ := hL
  replace hc : c = .type "tuple" := hc
  replace hd : dt = .seq items n := hd
  subst hc hd
  refine callType_new F.called_enumerate (by decide) (F.typeCall_enumerate_1 _) (F.newCall_enumerate_1 _) (fun obj => F.args_object_init_2 obj _) F.entry_enumerate_new
    (meets_enumerate_newT l items n dct sl) ⟨hl, ?_⟩
  have hz : (s.heap.push { cls := .type "tuple_iterator", data := .fields #[.ref l, .int 0 0] }).objs.size = s.heap.objs.size + 1 := Heap.size_push ..
  show _ ∧ _
  rw [hz]
  have he : IsEnum ((s.heap.push { cls := .type "tuple_iterator", data := .fields #[.ref l, .int 0 0] }).push
      { cls := .type "enumerate", data := .fields #[.none, .bool false, .ref s.heap.objs.size, rawInt 0, .none, .none] }) (s.heap.objs.size + 1) s.heap.objs.size 0 .none := by
    have := Heap.get?_push_size (s.heap.push { cls := .type "tuple_iterator", data := .fields #[.ref l, .int 0 0] })
      (o := { cls := .type "enumerate", data := .fields #[.none, .bool false, .ref s.heap.objs.size, rawInt 0, .none, .none] }) rfl
    rw [hz] at this; exact this
  refine ⟨⟨_, he, rfl⟩, h _ he ⟨_, Heap.get?_push_of_some _ (Heap.get?_push_size _ rfl), rfl, rfl⟩ (by rw [Heap.size_push, hz]) fun b o x => Heap.get?_push_of_some _ (Heap.get?_push_of_some _ x)⟩
end
end G

/-! Layer G, part 16: enumerate of a tuple, zip; their sources. -/
namespace G
open PySem PySem.Spec PyProof.Rows L2
theorem turn_enumT {P : Program} {w : World} {K : PySem.W.Frag} {elts : List Expr} {kk : Nat} {tpos : Pos} (a e it : Addr) (hea : e ≠ a) (hia : a ≠ it) :
    Turn P w K (.Tuple elts kk tpos) (IteF fun H xs => SqT K H a xs) [e, it] e (fun i h => (∃ old, IsEnum h e it ((i : Nat) : Int) old) ∧ h.IsTupleIter it a i ∧ e ≠ it) where
  mem := by simp
  obj := fun i h st b hb => by
    obtain ⟨⟨old, he⟩, ⟨o, ho, hc, hd⟩, _⟩ := st
    have e' : b = e ∨ b = it := by simpa using hb
    rcases e' with z | z
    · rw [z]; exact ⟨_, he, fun v q => nomatch q⟩
    · rw [z]; exact ⟨o, ho, fun v q => by rw [hd] at q; cases q⟩
  keep := fun i h h' st k => let ⟨⟨old, he⟩, hi, hne⟩ := st; ⟨⟨old, k e (by simp) _ he⟩, hi.at fun o q => k it (by simp) o q, hne⟩
  item := by
    intro X hP hw hK hc i pins s σ H E I hf st hg
    subst hP hw hK
    obtain ⟨⟨old, he⟩, hit, hne⟩ := st
    obtain ⟨xs, x, hq, hx⟩ := hg
    obtain ⟨its, rv, p, hz⟩ := I.tuple hq
    obtain ⟨u, hu, ru⟩ := rv.get hx
    have hel : e < s.heap.objs.size := Heap.lt_size he
    have hil : it < s.heap.objs.size := by obtain ⟨_, q, _⟩ := hit; exact Heap.lt_size q
    have hi : i < its.toArray.size := by
      have := (List.getElem?_eq_some_iff.mp hu).1
      simpa using this
    have D := draws_tup (prog := X.prog) (w := X.w) (A := X.A.in1) (it := it) (t := a) (items := its.toArray) (I.ok.hd hc) hia
    refine wpAny_pyNext_enum_itemD D he ⟨hit, p⟩ hi hne (by simp [hne, hea]) fun u' h' tk hpu ho st' hT hsz hk => ?_
    have eu : u' = u := by
      have h1 : its.toArray[i]? = some u := by simpa using hu
      rw [h1] at hpu
      exact (Option.some.inj hpu).symm
    subst eu
    refine ⟨_, rfl, wpAny_letOwnedTupleGo_enum (s := { s with heap := h', toks := tk + 1 }) ho fun h'' he' sb => ?_⟩
    have hT2 := (sb.2 _ (Nat.ne_of_gt hel)).trans hT
    have new : ObjOk X.prog X.w (upd H s.heap.objs.size (.frz { cls := .type "tuple", data := .seq #[.int i tk, u'] } (.tup [.int (i : Nat), x]))) h'' s.heap.objs.size (.frz { cls := .type "tuple", data := .seq #[.int i tk, u'] } (.tup [.int (i : Nat), x])) :=
      ⟨hT2, by show 2 ≤ sizeLine; decide, [.int i tk, u'], .cons ⟨_, rfl⟩ (.cons ru .nil), ⟨_, hT2, rfl, _, rfl⟩⟩
    have I1 := I.turnedNew (t' := tk + 1) (ch := [e, it]) (fun b ob hb q => (sb.2 b (fun z => hb (by simp [z]))).trans (hk b ob (fun z => hb (by simp [z])) (fun z => hb (by simp [z])) q)) hf (Nat.le_refl _) new
    refine ⟨.ref s.heap.objs.size, _, I1, rfl, ⟨_, _, x, rfl, I.hok.fresh (Nat.le_refl _), rfl, rfl, fun ys hy => by rw [I.tuple_inj hy hq]; exact hx⟩, ⟨⟨u', ?_⟩, st'.1.at fun o q => (sb.2 it (Ne.symm hne)).trans q, hne⟩, fun b hb => ?_⟩
    · have e1 : ((i + 1 : Nat) : Int) = (i : Int) + 1 := by omega
      rw [e1]; exact he'
    · have hb' : b < s.heap.objs.size := by
        have e' : b = e ∨ b = it := by simpa using hb
        rcases e' with z | z
        · rw [z]; exact hel
        · rw [z]; exact hil
      rw [upd_ne (Nat.ne_of_lt hb')]
      exact (hf b hb).1
  done := by
    intro X hP hw hK hc i pins s σ H E I hf st hg
    subst hP hw hK
    obtain ⟨⟨old, he⟩, hit, hne⟩ := st
    obtain ⟨xs, hq, hx⟩ := hg
    obtain ⟨its, rv, p, hz⟩ := I.tuple hq
    obtain ⟨f0, f1, f2, f3, f4, f5⟩ := hf it (by simp)
    have hl := rv.length
    have hT : s.TypeIs (.ref e) "enumerate" := ⟨_, he, rfl⟩
    unfold pyNext
    refine wpAny_bind (wpAny_attempt (wpAny_callSpecial?_slot (name := Str.ofString "__next__") hT F.slot_enumerate_next
      (wpAny_call_entry F.slot_enumerate_next hT F.entry_enumerate_next ?_ (F.args_enumerate_next_1 _))))
    show wpAny _ _ (field (.ref e) 2 >>= _) _ _ _
    refine wpAny_bind (wpAny_field he rfl (x := .ref it) rfl ?_)
    refine wpAny_bind (RZ.nextOf_tuple_end (I.ok.hd hc) hit p (by simp; omega) fun h' x he' hx' => ?_)
    obtain ⟨o, ho, hcl⟩ := hx'
    refine wpAny_bind (wpAny_isInstance (T := "StopIteration") (b := true) ⟨o, ho, hcl⟩ isSubtype_stop ?_)
    exact wpAny_pure ⟨rfl, I.turned (t' := s.toks) (fun b o hb q => he' b o hb q) f0 f1 f3 f4 f5⟩
  self := fun A i s Q E st h => let ⟨⟨_, he⟩, _⟩ := st; wpAny_pyIter_enum he h
/-! the walk, in data -/
def enumU (us : List U) : List U := us.zipIdx.map fun p => .tuple [.int (p.2 : Nat), p.1]
theorem enumU_len (us : List U) : (enumU us).length = us.length := by unfold enumU; rw [List.length_map, List.length_zipIdx]
theorem enumU_get {us : List U} {i : Nat} {u : U} (h : us[i]? = some u) : (enumU us)[i]? = some (.tuple [.int (i : Nat), u]) := by
  unfold enumU
  rw [List.getElem?_map, List.getElem?_zipIdx, h]
  simp
theorem walk_enum {K : Kn} {Hs : Hp} {S : Hp → List V → Prop} {xs : List V} {us : List U} (hS : ∀ H, HLe Hs H → S H xs) (r : Rps K Hs xs us) : Walk (IteF S) (enumU us).length (fun H => HLe Hs H) (YU K Hs (enumU us)) where
  goes := fun i H hi le => by
    rw [enumU_len, ← paired_len r] at hi
    exact ⟨xs, xs[i], hS H le, List.getElem?_eq_getElem hi⟩
  stops := fun H le => ⟨xs, hS H le, by rw [enumU_len, ← paired_len r]; exact Nat.le_refl _⟩
  yields := fun i H x H' hi le y => by
    obtain ⟨T, o, x0, rfl, hT, rfl, hd, hx⟩ := y
    have hx := hx xs (hS H le)
    obtain ⟨u, h1, h2⟩ := paired_fst r hx
    exact ⟨_, enumU_get h1, fun Hs2 l2 l3 => .inr ⟨T, _, _, o, hT, rfl, rfl, rfl, hd, .cons (.int _) (.cons (rp_mono l2 _ h2) .nil), by show 2 ≤ sizeLine; decide⟩⟩
def mEnum (ms : MA) : MI := fun ρ => (ms ρ).bind fun p => (vals p.1).bind fun vs => match vs with
  | [u] => (seqU u).bind fun us => some (enumU us, p.2)
  | _ => none
section
variable {X : Cx} {e : Expr} {ms : MA} {p pos tpos : Pos} {elts : List Expr} {kk : Nat}
theorem i_enum (hm : X.mg "enumerate" = none) (ha : AX X [e] ms) (hg : Gl X "enumerate" := by rfl) (hs : starEach [e] X.env = [(false, eval e X.env)] := by rfl) :
    IX X (.Tuple elts kk tpos) (.Call (.Name "enumerate" p) [e] [] pos) (mEnum ms) := by
  refine ⟨fun pins s σ H R I h => ?_⟩
  obtain ⟨as, Hs, Fz, ρ, us, ρ', R0, e0, k⟩ := h
  obtain ⟨tvs, ρ1, e1, e0⟩ := obind2 e0
  obtain ⟨ds, e2, e0⟩ := obind e0
  split at e0
  · rename_i u
    obtain ⟨us0, e3, e0⟩ := obind e0
    cases e0
    refine Call_ (ld_blt I hg hm boot_enumerate (PyProof.Rows.callWith_type1 (thn (ha.run pos pins s σ H (fun vs H1 => ∃ v Hs1, vs = [v] ∧ Rel (kx X) as σ H1 Hs1 Fz ρ1 ∧ HLe Hs Hs1 ∧ Rp (kx X) Hs1 v u) I ⟨as, Hs, Fz, ρ, tvs, ρ1, R0, e1, fun vs H1 Hs1 R1 le1 rr => ?_⟩) fun us s1 ⟨vs, H1, I1, r1, q1⟩ => ?_) hs rfl))
    · have r2 := vals_rps rr e2
      cases r2 with | cons r t =>
      cases t
      exact ⟨_, Hs1, rfl, R1, le1, r⟩
    · obtain ⟨v, Hs1, rfl, R1, le1, rp⟩ := q1
      cases r1 with
      | cons rv rn =>
      cases rn
      cases rp with
      | lst q r l =>
        cases e3
        cases rv
        have hq := hle_sqL R1.s q
        obtain ⟨its, rvs, p', hz⟩ := I1.list hq
        refine call_enumerate_list p'.isList fun h' he hit hsz hk => wpAny_pyIter_enum he ?_
        have I2 : Inv X pins σ H1 { s1 with heap := h' } := I1.kept (t' := s1.toks) hk
        refine ⟨s1.heap.objs.size + 1, [s1.heap.objs.size + 1, s1.heap.objs.size], _, _, H1, rfl, I2, turn_enumL _ (s1.heap.objs.size + 1) s1.heap.objs.size, ⟨⟨.none, he⟩, hit, Nat.succ_ne_self _⟩, fun b hb => ?_, k _ _ _ R1 le1 (walk_enum (fun H le => hle_sqL le q) r) (by rw [enumU_len]; exact l)⟩
        have e' : b = s1.heap.objs.size + 1 ∨ b = s1.heap.objs.size := by simpa using hb
        have hle : s1.heap.objs.size ≤ b := by
          rcases e' with z | z
          · rw [z]; exact Nat.le_add_right _ _
          · rw [z]; exact Nat.le_refl _
        exact I1.fpOk hle (I1.hok.fresh hle)
      | tup q r l =>
        cases e3
        cases rv
        have hq := (hle_sqTs R1.s q).sq
        obtain ⟨its, rvs, p', hz⟩ := I1.tuple hq
        have hlt := p'.lt
        refine call_enumerate_tup p' fun h' he hit hsz hk => wpAny_pyIter_enum he ?_
        have I2 : Inv X pins σ H1 { s1 with heap := h' } := I1.kept (t' := s1.toks) hk
        refine ⟨s1.heap.objs.size + 1, [s1.heap.objs.size + 1, s1.heap.objs.size], _, _, H1, rfl, I2, turn_enumT _ (s1.heap.objs.size + 1) s1.heap.objs.size (Nat.ne_of_gt (Nat.lt_succ_of_lt hlt)) (Nat.ne_of_lt hlt), ⟨⟨.none, he⟩, hit, Nat.succ_ne_self _⟩, fun b hb => ?_, k _ _ _ R1 le1 (walk_enum (fun H le => (hle_sqTs le q).sq) r) (by rw [enumU_len]; exact l)⟩
        have e' : b = s1.heap.objs.size + 1 ∨ b = s1.heap.objs.size := by simpa using hb
        have hle : s1.heap.objs.size ≤ b := by
          rcases e' with z | z
          · rw [z]; exact Nat.le_add_right _ _
          · rw [z]; exact Nat.le_refl _
        exact I1.fpOk hle (I1.hok.fresh hle)
      | non => cases e3
      | bl b => cases e3
      | int i => cases e3
      | str x l => cases e3
      | dK _ _ _ _ => cases e3
      | dX _ _ _ _ _ => cases e3
  · cases e0
end
end G

/-! Layer G, part 17: zip. -/
namespace G
open PySem PySem.Spec PyProof.Rows L2
def ItzF (S1 S2 : Hp → List V → Prop) : It :=
  ⟨fun i H => ∃ (xs ys : List V) (x y : V), S1 H xs ∧ S2 H ys ∧ xs[i]? = some x ∧ ys[i]? = some y,
    fun i H v H' => ∃ T o x y, v = .ref T ∧ H T = none ∧ H' = upd H T (.frz o (.tup [x, y])) ∧ o.dict = none ∧ (∀ xs, S1 H xs → xs[i]? = some x) ∧ ∀ ys, S2 H ys → ys[i]? = some y,
    fun i H => ∃ xs ys : List V, S1 H xs ∧ S2 H ys ∧ (xs.length ≤ i ∨ ys.length ≤ i)⟩
theorem turn_zipLF {P : Program} {w : World} {K : PySem.W.Frag} {elts : List Expr} {kk : Nat} {tpos : Pos} {a b z TI TO i1 i2 : Addr} (D : ZipApart z TI TO i1 i2 a b) :
    Turn P w K (.Tuple elts kk tpos) (ItzF (fun H xs => SqL K H a xs) fun H xs => SqL K H b xs) [z, TI, TO, i1, i2] z (fun i h => IsZip h z TI TO .none ∧ IsPair h TI (.ref i1) (.ref i2) ∧ (∃ x y, IsPair h TO x y) ∧ h.IsListIter i1 a i ∧ h.IsListIter i2 b i) where
  mem := by simp
  obj := (turn_zip (P := P) (w := w) (K := K) (elts := elts) (kk := kk) (tpos := tpos) D).obj
  keep := (turn_zip (P := P) (w := w) (K := K) (elts := elts) (kk := kk) (tpos := tpos) D).keep
  item := by
    intro X hP hw hK hc i pins s σ H E I hf st hg
    subst hP hw hK
    obtain ⟨hz, hTI, ⟨x0, y0, hTO⟩, h1, h2⟩ := st
    obtain ⟨xs, ys, x, y, hqx, hqy, hx, hy⟩ := hg
    obtain ⟨its, rv, p, _⟩ := I.list hqx
    obtain ⟨its2, rv2, p2, _⟩ := I.list hqy
    obtain ⟨u, hu, ru⟩ := rv.get hx
    obtain ⟨u2, hu2, ru2⟩ := rv2.get hy
    have hzl : z < s.heap.objs.size := Heap.lt_size hz
    refine wpAny_pyNext_zip_item D hz hTI hTO h1 h2 p.isList p2.isList (x := u) (y := u2) (by simpa using hu) (by simpa using hu2) fun h' z' TO' h1' h2' hT hsz hk => ?_
    refine ⟨_, rfl, wpAny_letOwnedTupleGo_zip (s := { s with heap := h' }) z' fun h'' z'' sb => ?_⟩
    have hT2 := (sb.2 _ (Nat.ne_of_gt hzl)).trans hT
    have new : ObjOk X.prog X.w (upd H s.heap.objs.size (.frz { cls := .type "tuple", data := .seq #[u, u2] } (.tup [x, y]))) h'' s.heap.objs.size (.frz { cls := .type "tuple", data := .seq #[u, u2] } (.tup [x, y])) :=
      ⟨hT2, by show 2 ≤ sizeLine; decide, [u, u2], .cons ru (.cons ru2 .nil), ⟨_, hT2, rfl, _, rfl⟩⟩
    have I1 := I.turnedNew (t' := s.toks) (ch := [z, TI, TO, i1, i2]) (fun c o hb q => (sb.2 c (fun q' => hb (by simp [q']))).trans (hk c o (fun q' => hb (by simp [q'])) (fun q' => hb (by simp [q'])) (fun q' => hb (by simp [q'])) (fun q' => hb (by simp [q'])) q)) hf (Nat.le_refl _) new
    refine ⟨.ref s.heap.objs.size, _, I1, rfl, ⟨_, _, x, y, rfl, I.hok.fresh (Nat.le_refl _), rfl, rfl, fun l hl => by rw [I.list_inj hl hqx]; exact hx, fun l hl => by rw [I.list_inj hl hqy]; exact hy⟩, ⟨z'', ?_, ⟨u, u2, ?_⟩, ?_, ?_⟩, fun c hcm => ?_⟩
    · exact (sb.2 _ D.TIz).trans (hk _ _ D.TIz D.TITO D.TIi1 D.TIi2 hTI)
    · exact (sb.2 _ D.TOz).trans TO'
    · exact h1'.at fun o q => (sb.2 _ D.i1z).trans q
    · exact h2'.at fun o q => (sb.2 _ D.i2z).trans q
    · have hlt : c < s.heap.objs.size := by
        have e' : c = z ∨ c = TI ∨ c = TO ∨ c = i1 ∨ c = i2 := by simpa using hcm
        rcases e' with q | q | q | q | q
        · rw [q]; exact hzl
        · rw [q]; exact Heap.lt_size hTI
        · rw [q]; exact Heap.lt_size hTO
        · rw [q]; obtain ⟨_, e1, _⟩ := h1; exact Heap.lt_size e1
        · rw [q]; obtain ⟨_, e2, _⟩ := h2; exact Heap.lt_size e2
      rw [upd_ne (Nat.ne_of_lt hlt)]
      exact (hf c hcm).1
  done := (turn_zip (P := P) (w := w) (K := K) (elts := elts) (kk := kk) (tpos := tpos) D).done
  self := (turn_zip (P := P) (w := w) (K := K) (elts := elts) (kk := kk) (tpos := tpos) D).self
theorem turn_zipTF {P : Program} {w : World} {K : PySem.W.Frag} {elts : List Expr} {kk : Nat} {tpos : Pos} {a b z TI TO i1 i2 : Addr} (D : ZipApart z TI TO i1 i2 a b) :
    Turn P w K (.Tuple elts kk tpos) (ItzF (fun H xs => SqT K H a xs) fun H xs => SqT K H b xs) [z, TI, TO, i1, i2] z (fun i h => IsZip h z TI TO .none ∧ IsPair h TI (.ref i1) (.ref i2) ∧ (∃ x y, IsPair h TO x y) ∧ h.IsTupleIter i1 a i ∧ h.IsTupleIter i2 b i) where
  mem := by simp
  obj := (RZ.turn_zipT (P := P) (w := w) (K := K) (elts := elts) (kk := kk) (tpos := tpos) D).obj
  keep := (RZ.turn_zipT (P := P) (w := w) (K := K) (elts := elts) (kk := kk) (tpos := tpos) D).keep
  item := by
    intro X hP hw hK hc i pins s σ H E I hf st hg
    subst hP hw hK
    obtain ⟨hz, hTI, ⟨x0, y0, hTO⟩, h1, h2⟩ := st
    obtain ⟨xs, ys, x, y, hqx, hqy, hx, hy⟩ := hg
    obtain ⟨its, rv, p, _⟩ := I.tuple hqx
    obtain ⟨its2, rv2, p2, _⟩ := I.tuple hqy
    obtain ⟨u, hu, ru⟩ := rv.get hx
    obtain ⟨u2, hu2, ru2⟩ := rv2.get hy
    have hzl : z < s.heap.objs.size := Heap.lt_size hz
    refine RZ.pyNext_zipT_item D hz hTI hTO h1 h2 p p2 (x := u) (y := u2) (by simpa using hu) (by simpa using hu2) fun h' z' TO' h1' h2' hT hsz hk => ?_
    refine ⟨_, rfl, wpAny_letOwnedTupleGo_zip (s := { s with heap := h' }) z' fun h'' z'' sb => ?_⟩
    have hT2 := (sb.2 _ (Nat.ne_of_gt hzl)).trans hT
    have new : ObjOk X.prog X.w (upd H s.heap.objs.size (.frz { cls := .type "tuple", data := .seq #[u, u2] } (.tup [x, y]))) h'' s.heap.objs.size (.frz { cls := .type "tuple", data := .seq #[u, u2] } (.tup [x, y])) :=
      ⟨hT2, by show 2 ≤ sizeLine; decide, [u, u2], .cons ru (.cons ru2 .nil), ⟨_, hT2, rfl, _, rfl⟩⟩
    have I1 := I.turnedNew (t' := s.toks) (ch := [z, TI, TO, i1, i2]) (fun c o hb q => (sb.2 c (fun q' => hb (by simp [q']))).trans (hk c o (fun q' => hb (by simp [q'])) (fun q' => hb (by simp [q'])) (fun q' => hb (by simp [q'])) (fun q' => hb (by simp [q'])) q)) hf (Nat.le_refl _) new
    refine ⟨.ref s.heap.objs.size, _, I1, rfl, ⟨_, _, x, y, rfl, I.hok.fresh (Nat.le_refl _), rfl, rfl, fun l hl => by rw [I.tuple_inj hl hqx]; exact hx, fun l hl => by rw [I.tuple_inj hl hqy]; exact hy⟩, ⟨z'', ?_, ⟨u, u2, ?_⟩, ?_, ?_⟩, fun c hcm => ?_⟩
    · exact (sb.2 _ D.TIz).trans (hk _ _ D.TIz D.TITO D.TIi1 D.TIi2 hTI)
    · exact (sb.2 _ D.TOz).trans TO'
    · exact h1'.at fun o q => (sb.2 _ D.i1z).trans q
    · exact h2'.at fun o q => (sb.2 _ D.i2z).trans q
    · have hlt : c < s.heap.objs.size := by
        have e' : c = z ∨ c = TI ∨ c = TO ∨ c = i1 ∨ c = i2 := by simpa using hcm
        rcases e' with q | q | q | q | q
        · rw [q]; exact hzl
        · rw [q]; exact Heap.lt_size hTI
        · rw [q]; exact Heap.lt_size hTO
        · rw [q]; obtain ⟨_, e1, _⟩ := h1; exact Heap.lt_size e1
        · rw [q]; obtain ⟨_, e2, _⟩ := h2; exact Heap.lt_size e2
      rw [upd_ne (Nat.ne_of_lt hlt)]
      exact (hf c hcm).1
  done := (RZ.turn_zipT (P := P) (w := w) (K := K) (elts := elts) (kk := kk) (tpos := tpos) D).done
  self := (RZ.turn_zipT (P := P) (w := w) (K := K) (elts := elts) (kk := kk) (tpos := tpos) D).self

def zipU (us ws : List U) : List U := (us.zip ws).map fun p => .tuple [p.1, p.2]
theorem zipU_len (us ws : List U) : (zipU us ws).length = min us.length ws.length := by unfold zipU; rw [List.length_map, List.length_zip]
theorem zipU_get {us ws : List U} {i : Nat} {u w : U} (h : us[i]? = some u) (h2 : ws[i]? = some w) : (zipU us ws)[i]? = some (.tuple [u, w]) := by
  unfold zipU
  rw [List.getElem?_map]
  have : (us.zip ws)[i]? = some (u, w) := by rw [List.getElem?_zip_eq_some]; exact ⟨h, h2⟩
  rw [this]
  rfl
theorem walk_zip {K : Kn} {Hs : Hp} {S1 S2 : Hp → List V → Prop} {xs ys : List V} {us ws : List U} (h1 : ∀ H, HLe Hs H → S1 H xs) (h2 : ∀ H, HLe Hs H → S2 H ys) (r : Rps K Hs xs us) (r2 : Rps K Hs ys ws) : Walk (ItzF S1 S2) (zipU us ws).length (fun H => HLe Hs H) (YU K Hs (zipU us ws)) where
  goes := fun i H hi le => by
    rw [zipU_len, ← paired_len r, ← paired_len r2] at hi
    exact ⟨xs, ys, xs[i], ys[i], h1 H le, h2 H le, List.getElem?_eq_getElem (by omega), List.getElem?_eq_getElem (by omega)⟩
  stops := fun H le => ⟨xs, ys, h1 H le, h2 H le, by rw [zipU_len, ← paired_len r, ← paired_len r2]; omega⟩
  yields := fun i H x H' hi le y => by
    obtain ⟨T, o, x0, y0, rfl, hT, rfl, hd, hx, hy⟩ := y
    obtain ⟨u, e1, e2⟩ := paired_fst r (hx xs (h1 H le))
    obtain ⟨w, e3, e4⟩ := paired_fst r2 (hy ys (h2 H le))
    exact ⟨_, zipU_get e1 e3, fun Hs2 l2 l3 => .inr ⟨T, _, _, o, hT, rfl, rfl, rfl, hd, .cons (rp_mono l2 _ e2) (.cons (rp_mono l2 _ e4) .nil), by show 2 ≤ sizeLine; decide⟩⟩
def sameSeq : U → U → Option (List U × List U)
  | .list a, .list b => some (a, b)
  | .tuple a, .tuple b => some (a, b)
  | _, _ => none
def mZip (ms : MA) : MI := fun ρ => (ms ρ).bind fun p => (vals p.1).bind fun vs => match vs with
  | [u, w] => (sameSeq u w).bind fun q => some (zipU q.1 q.2, p.2)
  | _ => none
section
variable {X : Cx} {e e2 : Expr} {ms : MA} {p pos tpos : Pos} {elts : List Expr} {kk : Nat}
theorem i_zip (hm : X.mg "zip" = none) (ha : AX X [e, e2] ms) (hg : Gl X "zip" := by rfl) (hs : starEach [e, e2] X.env = (false, eval e X.env) :: starEach [e2] X.env := by rfl) (hpl : (backTo pos (starEach [e2] X.env)).any (·.1) = false := by rfl) :
    IX X (.Tuple elts kk tpos) (.Call (.Name "zip" p) [e, e2] [] pos) (mZip ms) := by
  refine ⟨fun pins s σ H R I h => ?_⟩
  obtain ⟨as, Hs, Fz, ρ, us, ρ', R0, e0, k⟩ := h
  obtain ⟨tvs, ρ1, e1, e0⟩ := obind2 e0
  obtain ⟨ds, e2, e0⟩ := obind e0
  split at e0
  · rename_i u w
    obtain ⟨⟨us0, ws0⟩, e3, e0⟩ := obind e0
    cases e0
    refine Call_ (ld_blt I hg hm PyProof.Rows.boot_zip (PyProof.Rows.callWith_type1 (thn (ha.run pos pins s σ H (fun vs H1 => ∃ v v2 Hs1, vs = [v, v2] ∧ Rel (kx X) as σ H1 Hs1 Fz ρ1 ∧ HLe Hs Hs1 ∧ Rp (kx X) Hs1 v u ∧ Rp (kx X) Hs1 v2 w) I ⟨as, Hs, Fz, ρ, tvs, ρ1, R0, e1, fun vs H1 Hs1 R1 le1 rr => ?_⟩) fun us s1 ⟨vs, H1, I1, r1, q1⟩ => ?_) hs hpl))
    · have r2 := vals_rps rr e2
      cases r2 with | cons r t =>
      cases t with | cons r' t =>
      cases t
      exact ⟨_, _, Hs1, rfl, R1, le1, r, r'⟩
    · obtain ⟨v, v2, Hs1, rfl, R1, le1, rp, rp2⟩ := q1
      cases r1 with
      | cons rv rn =>
      cases rn with
      | cons rv2 rn =>
      cases rn
      have fresh5 : ∀ c, c ∈ [s1.heap.objs.size + 4, s1.heap.objs.size + 2, s1.heap.objs.size + 3, s1.heap.objs.size, s1.heap.objs.size + 1] → FpOk X pins H1 c := fun c hcm => by
        have e' : c = s1.heap.objs.size + 4 ∨ c = s1.heap.objs.size + 2 ∨ c = s1.heap.objs.size + 3 ∨ c = s1.heap.objs.size ∨ c = s1.heap.objs.size + 1 := by simpa using hcm
        have hle : s1.heap.objs.size ≤ c := by
          rcases e' with z | z | z | z | z
          · rw [z]; exact Nat.le_add_right _ _
          · rw [z]; exact Nat.le_add_right _ _
          · rw [z]; exact Nat.le_add_right _ _
          · rw [z]; exact Nat.le_refl _
          · rw [z]; exact Nat.le_add_right _ _
        exact I1.fpOk hle (I1.hok.fresh hle)
      unfold sameSeq at e3
      split at e3
      · cases e3
        cases rp with | lst q r l =>
        cases rp2 with | lst q' r' l' =>
        cases rv
        cases rv2
        have hq := hle_sqL R1.s q
        have hq' := hle_sqL R1.s q'
        obtain ⟨its, rvs, p1, _⟩ := I1.list hq
        obtain ⟨its2, rvs2, p2, _⟩ := I1.list hq'
        refine call_zip_2 p1.isList p2.isList fun h' hz hTI hTO h1 h2 hsz hk => wpAny_pyIter_zip hz ?_
        have I2 : Inv X pins σ H1 { s1 with heap := h' } := I1.kept (t' := s1.toks) hk
        exact ⟨s1.heap.objs.size + 4, [s1.heap.objs.size + 4, s1.heap.objs.size + 2, s1.heap.objs.size + 3, s1.heap.objs.size, s1.heap.objs.size + 1], _, _, H1, rfl, I2, turn_zipLF (PySem.W.ktu_apart s1.heap.objs.size _ _ p1.lt p2.lt), ⟨hz, hTI, ⟨_, _, hTO⟩, h1, h2⟩, fresh5, k _ _ _ R1 le1 (walk_zip (fun H le => hle_sqL le q) (fun H le => hle_sqL le q') r r') (by rw [zipU_len]; exact Nat.le_trans (Nat.min_le_left _ _) l)⟩
      · cases e3
        cases rp with | tup q r l =>
        cases rp2 with | tup q' r' l' =>
        cases rv
        cases rv2
        have hq := (hle_sqTs R1.s q).sq
        have hq' := (hle_sqTs R1.s q').sq
        obtain ⟨its, rvs, p1, _⟩ := I1.tuple hq
        obtain ⟨its2, rvs2, p2, _⟩ := I1.tuple hq'
        refine RZ.call_zipT (show s1.heap.IsTuple _ its.toArray from p1) (show s1.heap.IsTuple _ its2.toArray from p2) fun h' hz hTI hTO h1 h2 hsz hk => wpAny_pyIter_zip hz ?_
        have I2 : Inv X pins σ H1 { s1 with heap := h' } := I1.kept (t' := s1.toks) hk
        exact ⟨s1.heap.objs.size + 4, [s1.heap.objs.size + 4, s1.heap.objs.size + 2, s1.heap.objs.size + 3, s1.heap.objs.size, s1.heap.objs.size + 1], _, _, H1, rfl, I2, turn_zipTF (PySem.W.ktu_apart s1.heap.objs.size _ _ p1.lt p2.lt), ⟨hz, hTI, ⟨_, _, hTO⟩, h1, h2⟩, fresh5, k _ _ _ R1 le1 (walk_zip (fun H le => (hle_sqTs le q).sq) (fun H le => (hle_sqTs le q').sq) r r') (by rw [zipU_len]; exact Nat.le_trans (Nat.min_le_left _ _) l)⟩
      · cases e3
  · cases e0
end
theorem hu9 {k : Nat} {A : Around} (hr : Room k A) : A.units + 9 < cLine := Nat.lt_of_le_of_lt (by omega) (hu65 hr)
/-- no call is left -/
theorem DefT.zero {P : Program} {w : World} {K : PySem.W.Frag} {mg : Str → Option Value} {base : Heap} {x : Str} {st : Stmt} {ps : List Str} {k : Nat} {mask : List Bool} {fr : Bool} (D : DefT K mg x st ps) : Callee P w ⟨K, P, w⟩ mg base x k mask fr (fun _ => none) := by
  obtain ⟨f, fd, F, hm, hk, hb⟩ := D
  have no : ∀ vs H Q E, ¬ spOf ⟨K, P, w⟩ mask fr (fun _ => none) vs H Q E := fun vs H Q E h => by
    obtain ⟨_, _, _, _, _, _, _, _, e, _⟩ := h
    cases e
  exact ⟨f, fd, ps, ⟨fun vs H Q E h => absurd h (no vs H Q E), fun A outer s H args us vs Q E _ _ _ _ h => absurd h (no vs H Q E)⟩, hm, hk, hb⟩
end G

/-! Layer G, part 18: equations of the later mirror words. -/
namespace G
open PySem PySem.Spec PyProof.Rows L2
theorem mStoreD_ap {i : Nat} {me mk : MX} {ρ : Rho} : mStoreD i me mk ρ = (me ρ).bind fun p => (asVal p.1).bind fun u => (isOw p.2[i]?).bind fun _ => (mk p.2).bind fun q => (asVal q.1).bind fun w => match q.2[i]? with
  | some (.ow d) => (dxU d).bind fun es => (keyD w).bind fun k => if es.length + 2 ≤ sizeLine then some (.nx, q.2.set i (.ow (.dict (mkD :: putU es w k u)))) else none
  | _ => none := rfl
theorem mDict0_ap {ρ : Rho} : mDict0 ρ = some (.dict [mkD], ρ) := rfl
theorem mEnum_ap {ms : MA} {ρ : Rho} : mEnum ms ρ = (ms ρ).bind fun p => (vals p.1).bind fun vs => match vs with
  | [u] => (seqU u).bind fun us => some (enumU us, p.2)
  | _ => none := rfl
theorem mZip_ap {ms : MA} {ρ : Rho} : mZip ms ρ = (ms ρ).bind fun p => (vals p.1).bind fun vs => match vs with
  | [u, w] => (sameSeq u w).bind fun q => some (zipU q.1 q.2, p.2)
  | _ => none := rfl
theorem dxU_mk {es : List (U × U)} : dxU (.dict (mkD :: es)) = some es := rfl
theorem seqU_list {ds : List U} : seqU (.list ds) = some ds := rfl
theorem seqU_tuple {ds : List U} : seqU (.tuple ds) = some ds := rfl
theorem gIxD_mk {es : List (U × U)} {w : U} : gIxD (.dict (mkD :: es)) w = (keyD w).bind fun k => lkU es k := rfl
theorem gInD_mk {es : List (U × U)} {w : U} : gInD w (.dict (mkD :: es)) = (keyD w).bind fun k => some (.bool (lkU es k).isSome) := rfl
theorem gNotInD_mk {es : List (U × U)} {w : U} : gNotInD w (.dict (mkD :: es)) = (keyD w).bind fun k => some (.bool !(lkU es k).isSome) := rfl
theorem gLenD_mk {es : List (U × U)} : gLenD [.dict (mkD :: es)] = some (.int es.length) := rfl
theorem sameSeq_list {a b : List U} : sameSeq (.list a) (.list b) = some (a, b) := rfl
theorem sameSeq_tuple {a b : List U} : sameSeq (.tuple a) (.tuple b) = some (a, b) := rfl
/-- a tuple of whole numbers as a key -/
theorem keyNs_ints : ∀ t : List Int, keyNs (t.map PyData.int) = some (t.map NestedKey.num)
  | [] => rfl
  | x :: t => by
    show (keyN (.int x)).bind _ = _
    show (keyNs (t.map PyData.int)).bind _ = _
    rw [keyNs_ints t]
    rfl
theorem depth_ints : ∀ t : List Int, NestedKey.depthAll (t.map NestedKey.num) ≤ 1
  | [] => by decide
  | x :: t => by
    have := depth_ints t
    show max (NestedKey.depth (.num x)) _ ≤ 1
    simp only [NestedKey.depth]
    omega
theorem keyD_ints (t : List Int) : keyD (.tuple (t.map PyData.int)) = some (.tup (t.map NestedKey.num)) := by
  have e : keyN (.tuple (t.map PyData.int)) = some (.tup (t.map NestedKey.num)) := by
    unfold keyN
    rw [keyNs_ints]
    rfl
  show (keyN (.tuple (t.map PyData.int))).bind _ = _
  rw [e]
  show (if (NestedKey.tup (t.map NestedKey.num)).depth ≤ 8 then _ else _) = _
  have := depth_ints t
  rw [if_pos (by simp only [NestedKey.depth]; omega)]
end G
namespace G
open PySem PySem.Spec PyProof.Rows L2
def topS (i : Nat) : Stmt := PySem.Challenge.pw_shapefree_k62_products.main.body.getD i (.Pass ⟨0, 0, 0, 0⟩)
abbrev s_all_rows : Stmt := topS 1
theorem sc_all_rows : FnScope ["worlds", "found", "world", "longer", "row", "thing"] ["worlds"] (defScope s_all_rows) := ⟨rfl, rfl, rfl, by decide +kernel, rfl, by decide +kernel, by decide +kernel⟩
abbrev s_done_on_all : Stmt := topS 2
theorem sc_done_on_all : FnScope ["worlds", "k", "places", "rows", "found", "at", "world", "came"] ["worlds", "k", "places", "rows"] (defScope s_done_on_all) := ⟨rfl, rfl, rfl, by decide +kernel, rfl, by decide +kernel, by decide +kernel⟩
abbrev s__law_feed : Stmt := topS 5
theorem sc__law_feed : FnScope ["_law_script", "_law_k", "_law_cell", "_law_own"] ["_law_script", "_law_k"] (defScope s__law_feed) := ⟨rfl, rfl, rfl, by decide +kernel, rfl, by decide +kernel, by decide +kernel⟩
abbrev s__law_take : Stmt := topS 6
theorem sc__law_take : FnScope ["_law_feed_here", "_law_many", "_law_digit", "_law_one"] ["_law_feed_here", "_law_many"] (defScope s__law_take) := ⟨rfl, rfl, rfl, by decide +kernel, rfl, by decide +kernel, by decide +kernel⟩
abbrev s__law_with_each : Stmt := topS 10
theorem sc__law_with_each : FnScope ["_law_found", "_law_count", "_law_some", "_law_row", "_law_thing"] ["_law_found", "_law_count"] (defScope s__law_with_each) := ⟨rfl, rfl, rfl, by decide +kernel, rfl, by decide +kernel, by decide +kernel⟩
abbrev s__law_both : Stmt := topS 14
theorem sc__law_both : FnScope ["_law_worlds_here", "_law_k", "_law_a", "_law_b", "_law_found", "_law_at", "_law_world_here"] ["_law_worlds_here", "_law_k", "_law_a", "_law_b"] (defScope s__law_both) := ⟨rfl, rfl, rfl, by decide +kernel, rfl, by decide +kernel, by decide +kernel⟩
abbrev s_product : Stmt := topS 3
theorem sc_product : FnScope ["shape", "worlds", "rows", "numbers", "row", "things", "at", "tables", "k", "deed", "table", "a", "world", "b"] ["shape", "worlds"] (defScope s_product) := ⟨rfl, rfl, rfl, by decide +kernel, rfl, by decide +kernel, by decide +kernel⟩
abbrev s__law_names : Stmt := topS 7
theorem sc__law_names : FnScope ["_law_feed_here", "_law_many", "_law_letters", "_law_stem", "_law_first", "_law_at", "_law_turn", "_law_names_here", "_law_k", "_law_sign", "_law_name"] ["_law_feed_here", "_law_many"] (defScope s__law_names) := ⟨rfl, rfl, rfl, by decide +kernel, rfl, by decide +kernel, by decide +kernel⟩
abbrev s__law_world : Stmt := topS 9
theorem sc__law_world : FnScope ["_law_feed_here", "_law_shape_here", "_law_n", "_law_things", "_law_tables", "_law_d", "_law_reach", "_law_c", "_law_k", "_law_j"] ["_law_feed_here", "_law_shape_here", "_law_n"] (defScope s__law_world) := ⟨rfl, rfl, rfl, by decide +kernel, rfl, by decide +kernel, by decide +kernel⟩
abbrev s__law_tuples : Stmt := topS 12
theorem sc__law_tuples : FnScope ["_law_worlds_here", "_law_found", "_law_world_here", "_law_row", "_law_thing"] ["_law_worlds_here"] (defScope s__law_tuples) := ⟨rfl, rfl, rfl, by decide +kernel, rfl, by decide +kernel, by decide +kernel⟩
abbrev s__law_shape : Stmt := topS 8
theorem sc__law_shape : FnScope ["_law_feed_here", "_law_stem", "_law_fixed", "_law_names_here", "_law_acts", "_law_name", "_law_k"] ["_law_feed_here"] (defScope s__law_shape) := ⟨rfl, rfl, rfl, by decide +kernel, rfl, by decide +kernel, by decide +kernel⟩
abbrev s__law_worlds : Stmt := topS 11
theorem sc__law_worlds : FnScope ["_law_feed_here", "_law_shape_here", "_law_most", "_law_worlds_here"] ["_law_feed_here", "_law_shape_here"] (defScope s__law_worlds) := ⟨rfl, rfl, rfl, by decide +kernel, rfl, by decide +kernel, by decide +kernel⟩
abbrev s__law_due : Stmt := topS 13
theorem sc__law_due : FnScope ["_law_shape_here", "_law_worlds_here", "_law_rows", "_law_things", "_law_k", "_law_tables", "_law_deed", "_law_table", "_law_a", "_law_world_here", "_law_thing", "_law_b"] ["_law_shape_here", "_law_worlds_here"] (defScope s__law_due) := ⟨rfl, rfl, rfl, by decide +kernel, rfl, by decide +kernel, by decide +kernel⟩
abbrev s__law_alike : Stmt := topS 15
theorem sc__law_alike : FnScope ["_law_found", "_law_due_here", "_law_one", "_law_other"] ["_law_found", "_law_due_here"] (defScope s__law_alike) := ⟨rfl, rfl, rfl, by decide +kernel, rfl, by decide +kernel, by decide +kernel⟩
abbrev s_law : Stmt := topS 16
theorem sc_law : FnScope ["_law_script", "_law_k", "_law_feed_here", "_law_shape_here", "_law_worlds_here"] ["_law_script"] (defScope s_law) := ⟨rfl, rfl, rfl, by decide +kernel, rfl, by decide +kernel, by decide +kernel⟩
def b_all_rows : MS :=
  (mSeq (mSet 1 (mSh (mLst (mCons (mTup mNil) mNil))))
   (mSeq (mFor (mIter (mName 0)) (mPut 2)
   ((mSeq (mSetF 3 (mLst mNil))
   (mSeq (mFor (mIter (mName 1)) (mPut 4)
   ((mDrop (mMut gExtend 3 (mCons (mSh (mLC (mRange1 (mCons (mBin gIx (mPeek 2) (mC (.int 0))) mNil)) (mPut 5) mYes (mBin gPlus (mPeek 4) (mTup (mCons (mName 5) mNil))) [5])) mNil)))))
   (mSet 1 (mName 3))))))
   (mRet (mName 1))))
def m_all_rows : FM := defM [false] 5 false b_all_rows
def b_done_on_all : MS :=
  (mSeq (mSetF 4 (mLst mNil))
   (mSeq (mFor (mEnum (mCons (mName 0) mNil)) (mgTup 2 (mgCons (mPut 5) (mgCons (mPut 6) mgNil)))
   ((mSeq (mSet 7 (mBin gIx (mBin gIx (mBin gIx (mPeek 6) (mC (.int 2))) (mPeek 1)) (mBin gIx (mBin gIx (mPeek 3) (mC (.int 0))) (mPeek 5))))
   (mSeq (mIfS (mTest (mBin gEq (mPeek 2) (mC (.int 2))))
   ((mSet 7 (mBin gIx (mPeek 7) (mBin gIx (mBin gIx (mPeek 3) (mC (.int 1))) (mPeek 5)))))
   (mSkip))
   (mDrop (mMut gAppend 4 (mCons (mName 7) mNil)))))))
   (mRet (mBi gTuple (mCons (mPeek 4) mNil)))))
def m_done_on_all : FM := defM [false, false, false, false] 4 false b_done_on_all
def b__law_feed : MS :=
  (mSeq (mSet 2 (mBin gPlus (mBin gMul (mC (.int 7907)) (mPeek 1)) (mC (.int 13579))))
   (mSeq (mIfS (mTest (mBin gLt (mPeek 1) (mBi gLen (mCons (mPeek 0) mNil))))
   ((mSet 2 (mBin gIx (mPeek 0) (mPeek 1))))
   ((mIfS (mTest (mBin gGt (mBi gLen (mCons (mPeek 0) mNil)) (mC (.int 0))))
   ((mSet 2 (mBin gPlus (mBin gMul (mBin gMod (mBin gIx (mPeek 0) (mBin gMod (mPeek 1) (mBi gLen (mCons (mPeek 0) mNil)))) (mC (.int 2147483629))) (mC (.int 31))) (mBin gMul (mC (.int 7907)) (mPeek 1)))))
   (mSkip))))
   (mSeq (mSet 3 (mC (.int 0)))
   (mSeq (mIfS (mTest (mBin gGe (mPeek 2) (mBin gPow (mC (.int 10)) (mC (.int 18)))))
   ((mSet 3 (mName 2)))
   (mSkip))
   (mRetF (mLst (mCons (mName 3) (mCons (mBin gPlus (mBin gMod (mBin gPlus (mBin gMul (mBin gMod (mPeek 2) (mC (.int 2147483629))) (mC (.int 48271))) (mBin gMul (mC (.int 40692)) (mPeek 1))) (mC (.int 2147483646))) (mC (.int 1))) mNil))))))))
def m__law_feed : FM := defM [false, false] 2 true b__law_feed
def b__law_take : MS :=
  (mSeq (mIfS (mTest (mBin gGt (mBin gIx (mPeek 0) (mC (.int 0))) (mC (.int 0))))
   ((mSeq (mSet 2 (mBin gMod (mBin gIx (mPeek 0) (mC (.int 0))) (mPeek 1)))
   (mSeq (mStore 0 (mBin gFdiv (mBin gIx (mPeek 0) (mC (.int 0))) (mPeek 1)) (mC (.int 0)))
   (mRet (mName 2)))))
   (mSkip))
   (mSeq (mSet 3 (mBin gMod (mBin gMul (mBin gIx (mPeek 0) (mC (.int 1))) (mC (.int 48271))) (mC (.int 2147483647))))
   (mSeq (mStore 0 (mBin gPlus (mBin gMod (mBin gPlus (mBin gMul (mPeek 3) (mC (.int 40692))) (mC (.int 30103))) (mC (.int 2147483399))) (mC (.int 1))) (mC (.int 1)))
   (mRet (mBin gMod (mBin gFdiv (mBin gPlus (mBin gMul (mPeek 3) (mC (.int 2147483647))) (mBin gIx (mPeek 0) (mC (.int 1)))) (mC (.int 8191))) (mPeek 1))))))
def m__law_take : FM := defM [true, false] 2 false b__law_take
def b__law_with_each : MS :=
  (mSeq (mSetF 2 (mLst mNil))
   (mSeq (mFor (mIter (mName 0)) (mPut 3)
   ((mDrop (mMut gExtend 2 (mCons (mSh (mLC (mRange1 (mCons (mName 1) mNil)) (mPut 4) mYes (mTup (mCons (mName 3) (mCons (mName 4) mNil))) [4])) mNil)))))
   (mRet (mName 2))))
def m__law_with_each : FM := defM [false, false] 3 false b__law_with_each
def b__law_both : MS :=
  (mSeq (mSetF 4 (mLst mNil))
   (mSeq (mFor (mEnum (mCons (mName 0) mNil)) (mgTup 2 (mgCons (mPut 5) (mgCons (mPut 6) mgNil)))
   ((mDrop (mMut gAppend 4 (mCons (mBin gIx (mBin gIx (mBin gIx (mBin gIx (mPeek 6) (mC (.int 2))) (mPeek 1)) (mBin gIx (mPeek 2) (mPeek 5))) (mBin gIx (mPeek 3) (mPeek 5))) mNil)))))
   (mRet (mBi gTuple (mCons (mPeek 4) mNil)))))
def m__law_both : FM := defM [false, false, false, false] 3 false b__law_both
def b_product : MS :=
  (mSeq (mSet 2 (mCall [false] m_all_rows (mCons (mName 1) mNil)))
   (mSeq (mSetF 3 (mDict0))
   (mSeq (mFor (mIter (mName 2)) (mPut 4)
   ((mStoreD 3 (mBi gLenD (mCons (mPeek 3) mNil)) (mName 4))))
   (mSeq (mSetF 5 (mLst mNil))
   (mSeq (mFor (mRange1 (mCons (mBi gLen (mCons (mBin gIx (mPeek 0) (mC (.int 0))) mNil)) mNil)) (mPut 6)
   ((mDrop (mMut gAppend 5 (mCons (mBin gIxD (mPeek 3) (mBi gTuple (mCons (mSh (mLC (mIter (mName 1)) (mPut 12) mYes (mBin gIx (mBin gIx (mPeek 12) (mC (.int 1))) (mPeek 6)) [12])) mNil))) mNil)))))
   (mSeq (mSetF 7 (mLst mNil))
   (mSeq (mFor (mEnum (mCons (mBin gIx (mPeek 0) (mC (.int 1))) mNil)) (mgTup 2 (mgCons (mPut 8) (mgCons (mPut 9) mgNil)))
   ((mIfS (mTest (mBin gEq (mBin gIx (mPeek 9) (mC (.int 1))) (mC (.int 1))))
   ((mDrop (mMut gAppend 7 (mCons (mBi gTuple (mCons (mSh (mLC (mIter (mName 2)) (mPut 4) mYes (mBin gIxD (mPeek 3) (mCall [false, false, false, false] m_done_on_all (mCons (mName 1) (mCons (mName 8) (mCons (mC (.int 1)) (mCons (mSh (mLst (mCons (mName 4) mNil))) mNil)))))) [4])) mNil)) mNil))))
   ((mSeq (mSetF 10 (mLst mNil))
   (mSeq (mFor (mIter (mName 2)) (mPut 11)
   ((mDrop (mMut gAppend 10 (mCons (mBi gTuple (mCons (mSh (mLC (mIter (mName 2)) (mPut 13) mYes (mBin gIxD (mPeek 3) (mCall [false, false, false, false] m_done_on_all (mCons (mName 1) (mCons (mName 8) (mCons (mC (.int 2)) (mCons (mSh (mLst (mCons (mName 11) (mCons (mName 13) mNil)))) mNil)))))) [13])) mNil)) mNil)))))
   (mDrop (mMut gAppend 7 (mCons (mBi gTuple (mCons (mPeek 10) mNil)) mNil)))))))))
   (mRet (mTup (mCons (mBi gLen (mCons (mPeek 2) mNil)) (mCons (mBi gTuple (mCons (mPeek 5) mNil)) (mCons (mBi gTuple (mCons (mPeek 7) mNil)) mNil))))))))))))
def m_product : FM := defM [false, false] 12 false b_product
def b__law_names : MS :=
  (mSeq (mSet 2 (mC (.str (Str.ofString "abcdefghijklmnopqrstuvwxyz"))))
   (mSeq (mSet 3 (mJoin (mC (.str (Str.ofString ""))) (mSh (mLC (mRange1 (mCons (mCall [true, false] m__law_take (mCons (mPeek 0) (mCons (mC (.int 4)) mNil))) mNil)) (mPut 8) mYes (mBin gIx (mPeek 2) (mCall [true, false] m__law_take (mCons (mPeek 0) (mCons (mC (.int 26)) mNil)))) [8]))))
   (mSeq (mPar 4 5 (mCons (mCall [true, false] m__law_take (mCons (mPeek 0) (mCons (mC (.int 26)) mNil))) (mCons (mCall [true, false] m__law_take (mCons (mPeek 0) (mCons (mBin gPlus (mBi gLen (mCons (mPeek 3) mNil)) (mC (.int 1))) mNil))) mNil)))
   (mSeq (mSet 6 (mCall [true, false] m__law_take (mCons (mPeek 0) (mCons (mC (.int 4)) mNil))))
   (mSeq (mSetF 7 (mLst mNil))
   (mSeq (mFor (mRange1 (mCons (mName 1) mNil)) (mPut 8)
   ((mSeq (mSet 9 (mBin gIx (mPeek 2) (mBin gMod (mBin gPlus (mPeek 4) (mBin gMul (mC (.int 7)) (mPeek 8))) (mC (.int 26)))))
   (mSeq (mSet 10 (mBin gPlus (mBin gPlus (mSl (mPeek 3) moNone (moSome (mPeek 5))) (mPeek 9)) (mSl (mPeek 3) (moSome (mPeek 5)) (moSome (mBin gMod (mBin gPlus (mPeek 6) (mPeek 8)) (mC (.int 4)))))))
   (mSeq (mIfS (mTest (mBin gIn (mPeek 10) (mTup (mCons (mC (.str (Str.ofString "def"))) (mCons (mC (.str (Str.ofString "let"))) (mCons (mC (.str (Str.ofString "tell"))) (mCons (mC (.str (Str.ofString "loop"))) (mCons (mC (.str (Str.ofString "pick"))) (mCons (mC (.str (Str.ofString "call"))) mNil)))))))))
   ((mSet 10 (mBin gPlus (mPeek 10) (mC (.str (Str.ofString "q"))))))
   (mSkip))
   (mDrop (mMut gAppend 7 (mCons (mName 10) mNil))))))))
   (mSeq (mIfS ((mAnd (mTest (mBin gGt (mPeek 1) (mC (.int 1)))) (mAnd (mTest (mBin gLt (mBi gLen (mCons (mBin gIx (mPeek 7) (mUn gNeg (mC (.int 2)))) mNil)) (mC (.int 4)))) (mTest (mBin gEq (mCall [true, false] m__law_take (mCons (mPeek 0) (mCons (mC (.int 4)) mNil))) (mC (.int 0)))))))
   ((mStore 7 (mBin gPlus (mBin gIx (mPeek 7) (mUn gNeg (mC (.int 2)))) (mC (.str (Str.ofString "q")))) (mUn gNeg (mC (.int 1)))))
   (mSkip))
   (mRet (mName 7)))))))))
def m__law_names : FM := defM [true, false] 9 false b__law_names
def b__law_world : MS :=
  (mSeq (mSet 3 (mBi gTuple (mCons (mSh (mLC (mIter (mBin gIx (mPeek 1) (mC (.int 0)))) (mPut 7) mYes (mCall [true, false] m__law_take (mCons (mPeek 0) (mCons (mName 2) mNil))) [7])) mNil)))
   (mSeq (mSetF 4 (mLst mNil))
   (mSeq (mFor (mIter (mBin gIx (mPeek 1) (mC (.int 1)))) (mgTup 2 (mgCons (mPut 5) (mgCons (mPut 6) mgNil)))
   ((mIfS (mTest (mBin gEq (mPeek 6) (mC (.int 1))))
   ((mDrop (mMut gAppend 4 (mCons (mBi gTuple (mCons (mSh (mLC (mRange1 (mCons (mName 2) mNil)) (mPut 8) mYes (mCall [true, false] m__law_take (mCons (mPeek 0) (mCons (mName 2) mNil))) [8])) mNil)) mNil))))
   ((mDrop (mMut gAppend 4 (mCons (mBi gTuple (mCons (mSh (mLC (mRange1 (mCons (mName 2) mNil)) (mPut 9) mYes (mBi gTuple (mCons (mSh (mLC (mRange1 (mCons (mName 2) mNil)) (mPut 8) mYes (mCall [true, false] m__law_take (mCons (mPeek 0) (mCons (mName 2) mNil))) [8])) mNil)) [9])) mNil)) mNil)))))))
   (mRet (mTup (mCons (mName 2) (mCons (mName 3) (mCons (mBi gTuple (mCons (mPeek 4) mNil)) mNil))))))))
def m__law_world : FM := defM [true, false, false] 7 false b__law_world
def b__law_tuples : MS :=
  (mSeq (mSet 1 (mSh (mLst (mCons (mTup mNil) mNil))))
   (mSeq (mFor (mIter (mName 0)) (mPut 2)
   ((mSetF 1 (mLC (mIter (mCall [false, false] m__law_with_each (mCons (mName 1) (mCons (mBin gIx (mPeek 2) (mC (.int 0))) mNil)))) (mgTup 2 (mgCons (mPut 3) (mgCons (mPut 4) mgNil))) mYes (mBin gPlus (mPeek 3) (mTup (mCons (mName 4) mNil))) [3, 4]))))
   (mRet (mName 1))))
def m__law_tuples : FM := defM [false] 4 false b__law_tuples
def b__law_shape : MS :=
  (mSeq (mSet 1 (mCall [true, false] m__law_names (mCons (mPeek 0) (mCons (mC (.int 4)) mNil))))
   (mSeq (mSetF 2 (mLC (mIter (mSl (mPeek 1) moNone (moSome (mCall [true, false] m__law_take (mCons (mPeek 0) (mCons (mC (.int 4)) mNil)))))) (mPut 5) mYes (mBin gPlus (mUn gUpper (mSl (mPeek 5) moNone (moSome (mC (.int 1))))) (mSl (mPeek 5) (moSome (mC (.int 1))) moNone)) [5]))
   (mSeq (mSet 3 (mCall [true, false] m__law_names (mCons (mPeek 0) (mCons (mC (.int 3)) mNil))))
   (mSeq (mSetF 4 (mLC (mRange1 (mCons (mBin gIx (mSh (mLst (mCons (mC (.int 1)) (mCons (mC (.int 2)) (mCons (mC (.int 3)) (mCons (mC (.int 2)) (mCons (mC (.int 3)) (mCons (mC (.int 1)) (mCons (mC (.int 2)) (mCons (mC (.int 0)) mNil)))))))))) (mCall [true, false] m__law_take (mCons (mPeek 0) (mCons (mC (.int 8)) mNil)))) mNil)) (mPut 6) mYes (mTup (mCons (mBin gIx (mPeek 3) (mPeek 6)) (mCons (mBin gPlus (mC (.int 1)) (mCall [true, false] m__law_take (mCons (mPeek 0) (mCons (mC (.int 2)) mNil)))) mNil))) [6]))
   (mRet (mTup (mCons (mBi gTuple (mCons (mPeek 2) mNil)) (mCons (mBi gTuple (mCons (mPeek 4) mNil)) mNil))))))))
def m__law_shape : FM := defM [true] 6 false b__law_shape
def b__law_worlds : MS :=
  (mSeq (mSet 2 (mBin gIx (mSh (mLst (mCons (mC (.int 4)) (mCons (mC (.int 4)) (mCons (mC (.int 3)) mNil))))) (mCall [true, false] m__law_take (mCons (mPeek 0) (mCons (mC (.int 3)) mNil)))))
   (mSeq (mSetF 3 (mLst (mCons (mCall [true, false, false] m__law_world (mCons (mPeek 0) (mCons (mName 1) (mCons (mBin gPlus (mC (.int 1)) (mCall [true, false] m__law_take (mCons (mPeek 0) (mCons (mName 2) mNil)))) mNil)))) mNil)))
   (mSeq (mIfS (mTest (mBin gGt (mCall [true, false] m__law_take (mCons (mPeek 0) (mCons (mC (.int 4)) mNil))) (mC (.int 0))))
   ((mDrop (mMut gAppend 3 (mCons (mCall [true, false, false] m__law_world (mCons (mPeek 0) (mCons (mName 1) (mCons (mBin gPlus (mC (.int 1)) (mCall [true, false] m__law_take (mCons (mPeek 0) (mCons (mName 2) mNil)))) mNil)))) mNil))))
   (mSkip))
   (mSeq (mIfS ((mAnd (mTest (mBin gEq (mPeek 2) (mC (.int 3)))) (mTest (mBin gGt (mCall [true, false] m__law_take (mCons (mPeek 0) (mCons (mC (.int 3)) mNil))) (mC (.int 0))))))
   ((mDrop (mMut gAppend 3 (mCons (mCall [true, false, false] m__law_world (mCons (mPeek 0) (mCons (mName 1) (mCons (mBin gPlus (mC (.int 1)) (mCall [true, false] m__law_take (mCons (mPeek 0) (mCons (mC (.int 3)) mNil)))) mNil)))) mNil))))
   (mSkip))
   (mRet (mBi gTuple (mCons (mPeek 3) mNil)))))))
def m__law_worlds : FM := defM [true, false] 2 false b__law_worlds
def b__law_due : MS :=
  (mSeq (mSet 2 (mCall [false] m__law_tuples (mCons (mName 1) mNil)))
   (mSeq (mSetF 3 (mLst mNil))
   (mSeq (mFor (mRange1 (mCons (mBi gLen (mCons (mBin gIx (mPeek 0) (mC (.int 0))) mNil)) mNil)) (mPut 4)
   ((mDrop (mMut gAppend 3 (mCons (mIndex (mPeek 2) (mBi gTuple (mCons (mSh (mLC (mIter (mName 1)) (mPut 9) mYes (mBin gIx (mBin gIx (mPeek 9) (mC (.int 1))) (mPeek 4)) [9])) mNil))) mNil)))))
   (mSeq (mSetF 5 (mLst mNil))
   (mSeq (mFor (mEnum (mCons (mBin gIx (mPeek 0) (mC (.int 1))) mNil)) (mgTup 2 (mgCons (mPut 4) (mgCons (mPut 6) mgNil)))
   ((mSeq (mSetF 7 (mLst mNil))
   (mSeq (mFor (mIter (mName 2)) (mPut 8)
   ((mIfS (mTest (mBin gEq (mBin gIx (mPeek 6) (mC (.int 1))) (mC (.int 1))))
   ((mDrop (mMut gAppend 7 (mCons (mIndex (mPeek 2) (mBi gTuple (mCons (mSh (mLC (mZip (mCons (mName 1) (mCons (mName 8) mNil))) (mgTup 2 (mgCons (mPut 9) (mgCons (mPut 10) mgNil))) mYes (mBin gIx (mBin gIx (mBin gIx (mPeek 9) (mC (.int 2))) (mPeek 4)) (mPeek 10)) [9, 10])) mNil))) mNil))))
   ((mDrop (mMut gAppend 7 (mCons (mBi gTuple (mCons (mSh (mLC (mIter (mName 2)) (mPut 11) mYes (mIndex (mPeek 2) (mCall [false, false, false, false] m__law_both (mCons (mName 1) (mCons (mName 4) (mCons (mName 8) (mCons (mName 11) mNil)))))) [11])) mNil)) mNil)))))))
   (mDrop (mMut gAppend 5 (mCons (mBi gTuple (mCons (mPeek 7) mNil)) mNil)))))))
   (mRet (mTup (mCons (mBi gLen (mCons (mPeek 2) mNil)) (mCons (mBi gTuple (mCons (mPeek 3) mNil)) (mCons (mBi gTuple (mCons (mPeek 5) mNil)) mNil))))))))))
def m__law_due : FM := defM [false, false] 10 false b__law_due
def b__law_alike (r : FM) : MS :=
  (mSeq (mIfS (mTest (mIsi "tuple" (mPeek 1)))
   ((mSeq (mIfS ((mOr (mNot (mTest (mIsi "tuple" (mPeek 0)))) (mTest (mBin gNe (mBi gLen (mCons (mPeek 0) mNil)) (mBi gLen (mCons (mPeek 1) mNil))))))
   ((mRet (mC (.bool false))))
   (mSkip))
   (mRet (mBi gAll (mCons (mSh (mLC (mZip (mCons (mName 0) (mCons (mName 1) mNil))) (mgTup 2 (mgCons (mPut 2) (mgCons (mPut 3) mgNil))) mYes (mCall [false, false] r (mCons (mName 2) (mCons (mName 3) mNil))) [2, 3])) mNil)))))
   (mSkip))
   (mRet ((mAndV (mIsi "int" (mPeek 0)) (mAndV (mNotV (mIsi "bool" (mPeek 0))) (mBin gEq (mPeek 0) (mPeek 1)))))))
def m__law_alike : Nat → FM
  | 0 => fun _ => none
  | n + 1 => defM [false, false] 2 false (b__law_alike (m__law_alike n))
def b_law : MS :=
  (mSeq (mFor (mRange2 (mCons (mC (.int 1)) (mCons (mC (.int 3)) mNil))) (mPut 1)
   ((mSeq (mSetF 2 (mCallF [false, false] m__law_feed (mCons (mName 0) (mCons (mName 1) mNil))))
   (mSeq (mSet 3 (mCall [true] m__law_shape (mCons (mPeek 2) mNil)))
   (mSeq (mSet 4 (mCall [true, false] m__law_worlds (mCons (mPeek 2) (mCons (mName 3) mNil))))
   (mSeq (mIfS (mNot (mTest (mCall [false, false] (m__law_alike 20) (mCons (mCall [false, false] m_product (mCons (mName 3) (mCons (mName 4) mNil))) (mCons (mCall [false, false] m__law_due (mCons (mName 3) (mCons (mName 4) mNil))) mNil)))))
   ((mRet (mC (.bool false))))
   (mSkip))
   (mIfS (mTest (mBin gNe (mCall [false, false] m_product (mCons (mName 3) (mCons (mSl (mPeek 4) moNone (moSome (mC (.int 1)))) mNil))) (mBin gIx (mPeek 4) (mC (.int 0)))))
   ((mRet (mC (.bool false))))
   (mSkip))))))))
   (mRet (mC (.bool true))))
def m_law : FM := defM [false] 4 false b_law
structure Txt (K : PySem.W.Frag) (mg : Str → Option Value) : Prop where
  d_all_rows : DefT K mg "all_rows" s_all_rows ["worlds"]
  d_done_on_all : DefT K mg "done_on_all" s_done_on_all ["worlds", "k", "places", "rows"]
  d__law_feed : DefT K mg "_law_feed" s__law_feed ["_law_script", "_law_k"]
  d__law_take : DefT K mg "_law_take" s__law_take ["_law_feed_here", "_law_many"]
  d__law_with_each : DefT K mg "_law_with_each" s__law_with_each ["_law_found", "_law_count"]
  d__law_both : DefT K mg "_law_both" s__law_both ["_law_worlds_here", "_law_k", "_law_a", "_law_b"]
  d_product : DefT K mg "product" s_product ["shape", "worlds"]
  d__law_names : DefT K mg "_law_names" s__law_names ["_law_feed_here", "_law_many"]
  d__law_world : DefT K mg "_law_world" s__law_world ["_law_feed_here", "_law_shape_here", "_law_n"]
  d__law_tuples : DefT K mg "_law_tuples" s__law_tuples ["_law_worlds_here"]
  d__law_shape : DefT K mg "_law_shape" s__law_shape ["_law_feed_here"]
  d__law_worlds : DefT K mg "_law_worlds" s__law_worlds ["_law_feed_here", "_law_shape_here"]
  d__law_due : DefT K mg "_law_due" s__law_due ["_law_shape_here", "_law_worlds_here"]
  d__law_alike : DefT K mg "_law_alike" s__law_alike ["_law_found", "_law_due_here"]
  d_law : DefT K mg "law" s_law ["_law_script"]
  z_all : mg "all" = none
  z_bool : mg "bool" = none
  z_enumerate : mg "enumerate" = none
  z_int : mg "int" = none
  z_isinstance : mg "isinstance" = none
  z_len : mg "len" = none
  z_range : mg "range" = none
  z_tuple : mg "tuple" = none
  z_zip : mg "zip" = none
section
variable {P : Program} {w : World} {K : PySem.W.Frag} {mg : Str → Option Value} {base : Heap}
theorem c_all_rows (T : Txt K mg) : Callee P w ⟨K, P, w⟩ mg base "all_rows" 1 [false] false m_all_rows := by
  have S := sc_all_rows
  refine T.d_all_rows.callee S rfl rfl fun f cdv A outer s H E hr => ?_
  unfold b_all_rows
  exact (b_cons (s_set 1 (fx_ex (f_lst (a_cons (x_tup a_nil) a_nil))) S.nd)
   (b_cons (s_for PassesOwn.never rfl (i_seq (x_name 0)) (g_name 2 S.nd)
   (b_cons (s_setF 3 (f_lst a_nil) S.nd)
   (b_cons (s_for PassesOwn.never rfl (i_seq (x_name 1)) (g_name 4 S.nd)
   (b_one (s_expr (x_mut 3 PySem.F.slot_list_extend PySem.F.type_list_extend m_extend (a_cons (fx_ex (f_lc [("thing", 5)] rfl S.nd (i_range1 T.z_range (a_cons (x_ix o_ix (x_peek 2) (x_int)) a_nil)) (blkOk_by (N := ["worlds", "found", "world", "longer", "row", "thing"]) (sc := defScope s_all_rows) (by decide +kernel)) (fun _ _ _ _ _ => (g_name 5 S.nd)) (fun _ _ _ _ _ => ts_nil) (fun _ _ _ _ _ => (x_opA o_plus (x_peek 4) (x_tup (a_cons (x_name 5) a_nil)))))) a_nil)))))
   (b_one (s_set 1 (x_name 3) S.nd)))))
   (b_one (s_ret (x_name 1)))))
theorem c_done_on_all (T : Txt K mg) : Callee P w ⟨K, P, w⟩ mg base "done_on_all" 1 [false, false, false, false] false m_done_on_all := by
  have S := sc_done_on_all
  refine T.d_done_on_all.callee S rfl rfl fun f cdv A outer s H E hr => ?_
  unfold b_done_on_all
  exact (b_cons (s_setF 4 (f_lst a_nil) S.nd)
   (b_cons (s_for PassesOwn.never rfl (i_enum T.z_enumerate (a_cons (x_name 0) a_nil)) (g_tup 2 rfl (gs_cons (g_name 5 S.nd) (gs_cons (g_name 6 S.nd) gs_nil)))
   (b_cons (s_set 7 (x_ix o_ix (x_ix o_ix (x_ix o_ix (x_peek 6) (x_int)) (x_peek 1)) (x_ix o_ix (x_ix o_ix (x_peek 3) (x_int)) (x_peek 5))) S.nd)
   (b_cons (s_if (t_cmp (o_eq hr.units) (x_peek 2) (x_int))
   (b_one (s_set 7 (x_ix o_ix (x_peek 7) (x_ix o_ix (x_ix o_ix (x_peek 3) (x_int)) (x_peek 5))) S.nd))
   b_nil)
   (b_one (s_expr (x_mut 4 PySem.F.slot_list_append PySem.F.type_list_append m_append (a_cons (x_name 7) a_nil)))))))
   (b_one (s_ret (x_ty c_tuple T.z_tuple boot_tuple (a_cons (x_peek 4) a_nil))))))
theorem c__law_feed (T : Txt K mg) : Callee P w ⟨K, P, w⟩ mg base "_law_feed" 1 [false, false] true m__law_feed := by
  have S := sc__law_feed
  refine T.d__law_feed.callee S rfl rfl fun f cdv A outer s H E hr => ?_
  unfold b__law_feed
  exact (b_cons (s_set 2 (x_opA o_plus (x_op o_mul (x_int) (x_peek 1)) (x_int)) S.nd)
   (b_cons (s_if (t_cmp o_lt (x_peek 1) (x_bi c_len T.z_len boot_len (a_cons (x_peek 0) a_nil)))
   (b_one (s_set 2 (x_ix o_ix (x_peek 0) (x_peek 1)) S.nd))
   (b_one (s_if (t_cmp o_gt (x_bi c_len T.z_len boot_len (a_cons (x_peek 0) a_nil)) (x_int))
   (b_one (s_set 2 (x_opA o_plus (x_op o_mul (x_op o_mod (x_ix o_ix (x_peek 0) (x_op o_mod (x_peek 1) (x_bi c_len T.z_len boot_len (a_cons (x_peek 0) a_nil)))) (x_int)) (x_int)) (x_op o_mul (x_int) (x_peek 1))) S.nd))
   b_nil)))
   (b_cons (s_set 3 (x_int) S.nd)
   (b_cons (s_if (t_cmp o_ge (x_peek 2) (x_op o_pow (x_int) (x_int)))
   (b_one (s_set 3 (x_name 2) S.nd))
   b_nil)
   (b_one (s_retF (f_lst (a_cons (x_name 3) (a_cons (x_opA o_plus (x_op o_mod (x_opA o_plus (x_op o_mul (x_op o_mod (x_peek 2) (x_int)) (x_int)) (x_op o_mul (x_int) (x_peek 1))) (x_int)) (x_int)) a_nil)))))))))
theorem c__law_take (T : Txt K mg) : Callee P w ⟨K, P, w⟩ mg base "_law_take" 1 [true, false] false m__law_take := by
  have S := sc__law_take
  refine T.d__law_take.callee S rfl rfl fun f cdv A outer s H E hr => ?_
  unfold b__law_take
  exact (b_cons (s_if (t_cmp o_gt (x_ix o_ix (x_peek 0) (x_int)) (x_int))
   (b_cons (s_set 2 (x_op o_mod (x_ix o_ix (x_peek 0) (x_int)) (x_peek 1)) S.nd)
   (b_cons (s_store 0 (x_op o_fdiv (x_ix o_ix (x_peek 0) (x_int)) (x_peek 1)) (x_int))
   (b_one (s_ret (x_name 2)))))
   b_nil)
   (b_cons (s_set 3 (x_op o_mod (x_op o_mul (x_ix o_ix (x_peek 0) (x_int)) (x_int)) (x_int)) S.nd)
   (b_cons (s_store 0 (x_opA o_plus (x_op o_mod (x_opA o_plus (x_op o_mul (x_peek 3) (x_int)) (x_int)) (x_int)) (x_int)) (x_int))
   (b_one (s_ret (x_op o_mod (x_op o_fdiv (x_opA o_plus (x_op o_mul (x_peek 3) (x_int)) (x_ix o_ix (x_peek 0) (x_int))) (x_int)) (x_peek 1)))))))
theorem c__law_with_each (T : Txt K mg) : Callee P w ⟨K, P, w⟩ mg base "_law_with_each" 1 [false, false] false m__law_with_each := by
  have S := sc__law_with_each
  refine T.d__law_with_each.callee S rfl rfl fun f cdv A outer s H E hr => ?_
  unfold b__law_with_each
  exact (b_cons (s_setF 2 (f_lst a_nil) S.nd)
   (b_cons (s_for PassesOwn.never rfl (i_seq (x_name 0)) (g_name 3 S.nd)
   (b_one (s_expr (x_mut 2 PySem.F.slot_list_extend PySem.F.type_list_extend m_extend (a_cons (fx_ex (f_lc [("_law_thing", 4)] rfl S.nd (i_range1 T.z_range (a_cons (x_name 1) a_nil)) (blkOk_by (N := ["_law_found", "_law_count", "_law_some", "_law_row", "_law_thing"]) (sc := defScope s__law_with_each) (by decide +kernel)) (fun _ _ _ _ _ => (g_name 4 S.nd)) (fun _ _ _ _ _ => ts_nil) (fun _ _ _ _ _ => (x_tup (a_cons (x_name 3) (a_cons (x_name 4) a_nil)))))) a_nil)))))
   (b_one (s_ret (x_name 2)))))
theorem c__law_both (T : Txt K mg) : Callee P w ⟨K, P, w⟩ mg base "_law_both" 1 [false, false, false, false] false m__law_both := by
  have S := sc__law_both
  refine T.d__law_both.callee S rfl rfl fun f cdv A outer s H E hr => ?_
  unfold b__law_both
  exact (b_cons (s_setF 4 (f_lst a_nil) S.nd)
   (b_cons (s_for PassesOwn.never rfl (i_enum T.z_enumerate (a_cons (x_name 0) a_nil)) (g_tup 2 rfl (gs_cons (g_name 5 S.nd) (gs_cons (g_name 6 S.nd) gs_nil)))
   (b_one (s_expr (x_mut 4 PySem.F.slot_list_append PySem.F.type_list_append m_append (a_cons (x_ix o_ix (x_ix o_ix (x_ix o_ix (x_ix o_ix (x_peek 6) (x_int)) (x_peek 1)) (x_ix o_ix (x_peek 2) (x_peek 5))) (x_ix o_ix (x_peek 3) (x_peek 5))) a_nil)))))
   (b_one (s_ret (x_ty c_tuple T.z_tuple boot_tuple (a_cons (x_peek 4) a_nil))))))
theorem c_product (T : Txt K mg) : Callee P w ⟨K, P, w⟩ mg base "product" 2 [false, false] false m_product := by
  have S := sc_product
  have C_all_rows := c_all_rows (P := P) (w := w) (base := base) T
  have C_done_on_all := c_done_on_all (P := P) (w := w) (base := base) T
  refine T.d_product.callee S rfl rfl fun f cdv A outer s H E hr => ?_
  unfold b_product
  exact (b_cons (s_set 2 (x_call C_all_rows (hr.mono (by omega)) (a_cons (x_name 1) a_nil)) S.nd)
   (b_cons (s_setF 3 (f_dict0) S.nd)
   (b_cons (s_for PassesOwn.never rfl (i_seq (x_name 2)) (g_name 4 S.nd)
   (b_one (s_storeD 3 (hu9 hr) (x_bi c_lenD T.z_len boot_len (a_cons (x_peek 3) a_nil)) (x_name 4))))
   (b_cons (s_setF 5 (f_lst a_nil) S.nd)
   (b_cons (s_for PassesOwn.never rfl (i_range1 T.z_range (a_cons (x_bi c_len T.z_len boot_len (a_cons (x_ix o_ix (x_peek 0) (x_int)) a_nil)) a_nil)) (g_name 6 S.nd)
   (b_one (s_expr (x_mut 5 PySem.F.slot_list_append PySem.F.type_list_append m_append (a_cons (x_ixD (hu9 hr) (x_peek 3) (x_ty c_tuple T.z_tuple boot_tuple (a_cons (fx_ex (f_lc [("world", 12)] rfl S.nd (i_seq (x_name 1)) (blkOk_by (N := ["shape", "worlds", "rows", "numbers", "row", "things", "at", "tables", "k", "deed", "table", "a", "world", "b"]) (sc := defScope s_product) (by decide +kernel)) (fun _ _ _ _ _ => (g_name 12 S.nd)) (fun _ _ _ _ _ => ts_nil) (fun _ _ _ _ _ => (x_ix o_ix (x_ix o_ix (x_peek 12) (x_int)) (x_peek 6))))) a_nil))) a_nil)))))
   (b_cons (s_setF 7 (f_lst a_nil) S.nd)
   (b_cons (s_for PassesOwn.never rfl (i_enum T.z_enumerate (a_cons (x_ix o_ix (x_peek 0) (x_int)) a_nil)) (g_tup 2 rfl (gs_cons (g_name 8 S.nd) (gs_cons (g_name 9 S.nd) gs_nil)))
   (b_one (s_if (t_cmp (o_eq hr.units) (x_ix o_ix (x_peek 9) (x_int)) (x_int))
   (b_one (s_expr (x_mut 7 PySem.F.slot_list_append PySem.F.type_list_append m_append (a_cons (x_ty c_tuple T.z_tuple boot_tuple (a_cons (fx_ex (f_lc [("row", 4)] rfl S.nd (i_seq (x_name 2)) (blkOk_by (N := ["shape", "worlds", "rows", "numbers", "row", "things", "at", "tables", "k", "deed", "table", "a", "world", "b"]) (sc := defScope s_product) (by decide +kernel)) (fun _ _ _ _ _ => (g_name 4 S.nd)) (fun _ _ _ _ _ => ts_nil) (fun _ _ _ _ _ => (x_ixD (hu9 hr) (x_peek 3) (x_call C_done_on_all (hr.mono (by omega)) (a_cons (x_name 1) (a_cons (x_name 8) (a_cons (x_int) (a_cons (fx_ex (f_lst (a_cons (x_name 4) a_nil))) a_nil))))))))) a_nil)) a_nil))))
   (b_cons (s_setF 10 (f_lst a_nil) S.nd)
   (b_cons (s_for PassesOwn.never rfl (i_seq (x_name 2)) (g_name 11 S.nd)
   (b_one (s_expr (x_mut 10 PySem.F.slot_list_append PySem.F.type_list_append m_append (a_cons (x_ty c_tuple T.z_tuple boot_tuple (a_cons (fx_ex (f_lc [("b", 13)] rfl S.nd (i_seq (x_name 2)) (blkOk_by (N := ["shape", "worlds", "rows", "numbers", "row", "things", "at", "tables", "k", "deed", "table", "a", "world", "b"]) (sc := defScope s_product) (by decide +kernel)) (fun _ _ _ _ _ => (g_name 13 S.nd)) (fun _ _ _ _ _ => ts_nil) (fun _ _ _ _ _ => (x_ixD (hu9 hr) (x_peek 3) (x_call C_done_on_all (hr.mono (by omega)) (a_cons (x_name 1) (a_cons (x_name 8) (a_cons (x_int) (a_cons (fx_ex (f_lst (a_cons (x_name 11) (a_cons (x_name 13) a_nil)))) a_nil))))))))) a_nil)) a_nil)))))
   (b_one (s_expr (x_mut 7 PySem.F.slot_list_append PySem.F.type_list_append m_append (a_cons (x_ty c_tuple T.z_tuple boot_tuple (a_cons (x_peek 10) a_nil)) a_nil)))))))))
   (b_one (s_ret (x_tup (a_cons (x_bi c_len T.z_len boot_len (a_cons (x_peek 2) a_nil)) (a_cons (x_ty c_tuple T.z_tuple boot_tuple (a_cons (x_peek 5) a_nil)) (a_cons (x_ty c_tuple T.z_tuple boot_tuple (a_cons (x_peek 7) a_nil)) a_nil)))))))))))))
theorem c__law_names (T : Txt K mg) : Callee P w ⟨K, P, w⟩ mg base "_law_names" 2 [true, false] false m__law_names := by
  have S := sc__law_names
  have C__law_take := c__law_take (P := P) (w := w) (base := base) T
  refine T.d__law_names.callee S rfl rfl fun f cdv A outer s H E hr => ?_
  unfold b__law_names
  exact (b_cons (s_set 2 (x_str) S.nd)
   (b_cons (s_set 3 (x_join (x_str) (fx_ex (f_lc [("_law_k", 8)] rfl S.nd (i_range1 T.z_range (a_cons (x_call C__law_take (hr.mono (by omega)) (a_cons (x_peek 0) (a_cons (x_int) a_nil))) a_nil)) (blkOk_by (N := ["_law_feed_here", "_law_many", "_law_letters", "_law_stem", "_law_first", "_law_at", "_law_turn", "_law_names_here", "_law_k", "_law_sign", "_law_name"]) (sc := defScope s__law_names) (by decide +kernel)) (fun _ _ _ _ _ => (g_name 8 S.nd)) (fun _ _ _ _ _ => ts_nil) (fun _ _ _ _ _ => (x_ix o_ix (x_peek 2) (x_call C__law_take (hr.mono (by omega)) (a_cons (x_peek 0) (a_cons (x_int) a_nil)))))))) S.nd)
   (b_cons (s_par 4 5 rfl (a_cons (x_call C__law_take (hr.mono (by omega)) (a_cons (x_peek 0) (a_cons (x_int) a_nil))) (a_cons (x_call C__law_take (hr.mono (by omega)) (a_cons (x_peek 0) (a_cons (x_opA o_plus (x_bi c_len T.z_len boot_len (a_cons (x_peek 3) a_nil)) (x_int)) a_nil))) a_nil)) S.nd)
   (b_cons (s_set 6 (x_call C__law_take (hr.mono (by omega)) (a_cons (x_peek 0) (a_cons (x_int) a_nil))) S.nd)
   (b_cons (s_setF 7 (f_lst a_nil) S.nd)
   (b_cons (s_for PassesOwn.never rfl (i_range1 T.z_range (a_cons (x_name 1) a_nil)) (g_name 8 S.nd)
   (b_cons (s_set 9 (x_ix o_ix (x_peek 2) (x_op o_mod (x_opA o_plus (x_peek 4) (x_op o_mul (x_int) (x_peek 8))) (x_int))) S.nd)
   (b_cons (s_set 10 (x_opA o_plus (x_opA o_plus (x_slice (x_peek 3) ox_none (ox_some (x_peek 5))) (x_peek 9)) (x_slice (x_peek 3) (ox_some (x_peek 5)) (ox_some (x_op o_mod (x_opA o_plus (x_peek 6) (x_peek 8)) (x_int))))) S.nd)
   (b_cons (s_if (t_cmp (o_in (hu65 hr)) (x_peek 10) (x_tup (a_cons (x_str) (a_cons (x_str) (a_cons (x_str) (a_cons (x_str) (a_cons (x_str) (a_cons (x_str) a_nil))))))))
   (b_one (s_set 10 (x_opA o_plus (x_peek 10) (x_str)) S.nd))
   b_nil)
   (b_one (s_expr (x_mut 7 PySem.F.slot_list_append PySem.F.type_list_append m_append (a_cons (x_name 10) a_nil))))))))
   (b_cons (s_if (t_w (w_and (t_cmp o_gt (x_peek 1) (x_int)) (w_and (t_cmp o_lt (x_bi c_len T.z_len boot_len (a_cons (x_ix o_ix (x_peek 7) (x_neg (x_int))) a_nil)) (x_int)) (w_one_and (t_cmp (o_eq hr.units) (x_call C__law_take (hr.mono (by omega)) (a_cons (x_peek 0) (a_cons (x_int) a_nil))) (x_int))))))
   (b_one (s_store 7 (x_opA o_plus (x_ix o_ix (x_peek 7) (x_neg (x_int))) (x_str)) (x_neg (x_int))))
   b_nil)
   (b_one (s_ret (x_name 7))))))))))
theorem c__law_world (T : Txt K mg) : Callee P w ⟨K, P, w⟩ mg base "_law_world" 2 [true, false, false] false m__law_world := by
  have S := sc__law_world
  have C__law_take := c__law_take (P := P) (w := w) (base := base) T
  refine T.d__law_world.callee S rfl rfl fun f cdv A outer s H E hr => ?_
  unfold b__law_world
  exact (b_cons (s_set 3 (x_ty c_tuple T.z_tuple boot_tuple (a_cons (fx_ex (f_lc [("_law_c", 7)] rfl S.nd (i_seq (x_ix o_ix (x_peek 1) (x_int))) (blkOk_by (N := ["_law_feed_here", "_law_shape_here", "_law_n", "_law_things", "_law_tables", "_law_d", "_law_reach", "_law_c", "_law_k", "_law_j"]) (sc := defScope s__law_world) (by decide +kernel)) (fun _ _ _ _ _ => (g_name 7 S.nd)) (fun _ _ _ _ _ => ts_nil) (fun _ _ _ _ _ => (x_call C__law_take (hr.mono (by omega)) (a_cons (x_peek 0) (a_cons (x_name 2) a_nil)))))) a_nil)) S.nd)
   (b_cons (s_setF 4 (f_lst a_nil) S.nd)
   (b_cons (s_for PassesOwn.never rfl (i_seq (x_ix o_ix (x_peek 1) (x_int))) (g_tup 2 rfl (gs_cons (g_name 5 S.nd) (gs_cons (g_name 6 S.nd) gs_nil)))
   (b_one (s_if (t_cmp (o_eq hr.units) (x_peek 6) (x_int))
   (b_one (s_expr (x_mut 4 PySem.F.slot_list_append PySem.F.type_list_append m_append (a_cons (x_ty c_tuple T.z_tuple boot_tuple (a_cons (fx_ex (f_lc [("_law_k", 8)] rfl S.nd (i_range1 T.z_range (a_cons (x_name 2) a_nil)) (blkOk_by (N := ["_law_feed_here", "_law_shape_here", "_law_n", "_law_things", "_law_tables", "_law_d", "_law_reach", "_law_c", "_law_k", "_law_j"]) (sc := defScope s__law_world) (by decide +kernel)) (fun _ _ _ _ _ => (g_name 8 S.nd)) (fun _ _ _ _ _ => ts_nil) (fun _ _ _ _ _ => (x_call C__law_take (hr.mono (by omega)) (a_cons (x_peek 0) (a_cons (x_name 2) a_nil)))))) a_nil)) a_nil))))
   (b_one (s_expr (x_mut 4 PySem.F.slot_list_append PySem.F.type_list_append m_append (a_cons (x_ty c_tuple T.z_tuple boot_tuple (a_cons (fx_ex (f_lc [("_law_j", 9)] rfl S.nd (i_range1 T.z_range (a_cons (x_name 2) a_nil)) (blkOk_by (N := ["_law_feed_here", "_law_shape_here", "_law_n", "_law_things", "_law_tables", "_law_d", "_law_reach", "_law_c", "_law_k", "_law_j"]) (sc := defScope s__law_world) (by decide +kernel)) (fun _ _ _ _ _ => (g_name 9 S.nd)) (fun _ _ _ _ _ => ts_nil) (fun _ _ _ _ _ => (x_ty c_tuple T.z_tuple boot_tuple (a_cons (fx_ex (f_lc [("_law_k", 8)] rfl S.nd (i_range1 T.z_range (a_cons (x_name 2) a_nil)) (blkOk_by (by kernel_rfl)) (fun _ _ _ _ _ => (g_name 8 S.nd)) (fun _ _ _ _ _ => ts_nil) (fun _ _ _ _ _ => (x_call C__law_take (hr.mono (by omega)) (a_cons (x_peek 0) (a_cons (x_name 2) a_nil)))))) a_nil))))) a_nil)) a_nil)))))))
   (b_one (s_ret (x_tup (a_cons (x_name 2) (a_cons (x_name 3) (a_cons (x_ty c_tuple T.z_tuple boot_tuple (a_cons (x_peek 4) a_nil)) a_nil)))))))))
theorem c__law_tuples (T : Txt K mg) : Callee P w ⟨K, P, w⟩ mg base "_law_tuples" 2 [false] false m__law_tuples := by
  have S := sc__law_tuples
  have C__law_with_each := c__law_with_each (P := P) (w := w) (base := base) T
  refine T.d__law_tuples.callee S rfl rfl fun f cdv A outer s H E hr => ?_
  unfold b__law_tuples
  exact (b_cons (s_set 1 (fx_ex (f_lst (a_cons (x_tup a_nil) a_nil))) S.nd)
   (b_cons (s_for PassesOwn.never rfl (i_seq (x_name 0)) (g_name 2 S.nd)
   (b_one (s_setLc 1 [("_law_row", 3), ("_law_thing", 4)] rfl S.nd (i_seq (x_call C__law_with_each (hr.mono (by omega)) (a_cons (x_name 1) (a_cons (x_ix o_ix (x_peek 2) (x_int)) a_nil)))) (blkOk_by (N := ["_law_worlds_here", "_law_found", "_law_world_here", "_law_row", "_law_thing"]) (sc := defScope s__law_tuples) (by decide +kernel)) (fun _ _ _ _ _ => (g_tup 2 rfl (gs_cons (g_name 3 S.nd) (gs_cons (g_name 4 S.nd) gs_nil)))) (fun _ _ _ _ _ => ts_nil) (fun _ _ _ _ _ => (x_opA o_plus (x_peek 3) (x_tup (a_cons (x_name 4) a_nil)))) (sw_true rfl rfl rfl (by decide +kernel)))))
   (b_one (s_ret (x_name 1)))))
theorem c__law_shape (T : Txt K mg) : Callee P w ⟨K, P, w⟩ mg base "_law_shape" 3 [true] false m__law_shape := by
  have S := sc__law_shape
  have C__law_names := c__law_names (P := P) (w := w) (base := base) T
  have C__law_take := c__law_take (P := P) (w := w) (base := base) T
  refine T.d__law_shape.callee S rfl rfl fun f cdv A outer s H E hr => ?_
  unfold b__law_shape
  exact (b_cons (s_set 1 (x_call C__law_names (hr.mono (by omega)) (a_cons (x_peek 0) (a_cons (x_int) a_nil))) S.nd)
   (b_cons (s_setLc 2 [("_law_name", 5)] rfl S.nd (i_seq (x_slice (x_peek 1) ox_none (ox_some (x_call C__law_take (hr.mono (by omega)) (a_cons (x_peek 0) (a_cons (x_int) a_nil)))))) (blkOk_by (N := ["_law_feed_here", "_law_stem", "_law_fixed", "_law_names_here", "_law_acts", "_law_name", "_law_k"]) (sc := defScope s__law_shape) (by decide +kernel)) (fun _ _ _ _ _ => (g_name 5 S.nd)) (fun _ _ _ _ _ => ts_nil) (fun _ _ _ _ _ => (x_opA o_plus (x_upper (x_slice (x_peek 5) ox_none (ox_some (x_int)))) (x_slice (x_peek 5) (ox_some (x_int)) ox_none))) (sw_true rfl rfl rfl (by decide +kernel)))
   (b_cons (s_set 3 (x_call C__law_names (hr.mono (by omega)) (a_cons (x_peek 0) (a_cons (x_int) a_nil))) S.nd)
   (b_cons (s_setLc 4 [("_law_k", 6)] rfl S.nd (i_range1 T.z_range (a_cons (x_ix o_ix (fx_ex (f_lst (a_cons (x_int) (a_cons (x_int) (a_cons (x_int) (a_cons (x_int) (a_cons (x_int) (a_cons (x_int) (a_cons (x_int) (a_cons (x_int) a_nil)))))))))) (x_call C__law_take (hr.mono (by omega)) (a_cons (x_peek 0) (a_cons (x_int) a_nil)))) a_nil)) (blkOk_by (N := ["_law_feed_here", "_law_stem", "_law_fixed", "_law_names_here", "_law_acts", "_law_name", "_law_k"]) (sc := defScope s__law_shape) (by decide +kernel)) (fun _ _ _ _ _ => (g_name 6 S.nd)) (fun _ _ _ _ _ => ts_nil) (fun _ _ _ _ _ => (x_tup (a_cons (x_ix o_ix (x_peek 3) (x_peek 6)) (a_cons (x_opA o_plus (x_int) (x_call C__law_take (hr.mono (by omega)) (a_cons (x_peek 0) (a_cons (x_int) a_nil)))) a_nil)))) (sw_true rfl rfl rfl (by decide +kernel)))
   (b_one (s_ret (x_tup (a_cons (x_ty c_tuple T.z_tuple boot_tuple (a_cons (x_peek 2) a_nil)) (a_cons (x_ty c_tuple T.z_tuple boot_tuple (a_cons (x_peek 4) a_nil)) a_nil)))))))))
theorem c__law_worlds (T : Txt K mg) : Callee P w ⟨K, P, w⟩ mg base "_law_worlds" 3 [true, false] false m__law_worlds := by
  have S := sc__law_worlds
  have C__law_take := c__law_take (P := P) (w := w) (base := base) T
  have C__law_world := c__law_world (P := P) (w := w) (base := base) T
  refine T.d__law_worlds.callee S rfl rfl fun f cdv A outer s H E hr => ?_
  unfold b__law_worlds
  exact (b_cons (s_set 2 (x_ix o_ix (fx_ex (f_lst (a_cons (x_int) (a_cons (x_int) (a_cons (x_int) a_nil))))) (x_call C__law_take (hr.mono (by omega)) (a_cons (x_peek 0) (a_cons (x_int) a_nil)))) S.nd)
   (b_cons (s_setF 3 (f_lst (a_cons (x_call C__law_world (hr.mono (by omega)) (a_cons (x_peek 0) (a_cons (x_name 1) (a_cons (x_opA o_plus (x_int) (x_call C__law_take (hr.mono (by omega)) (a_cons (x_peek 0) (a_cons (x_name 2) a_nil)))) a_nil)))) a_nil)) S.nd)
   (b_cons (s_if (t_cmp o_gt (x_call C__law_take (hr.mono (by omega)) (a_cons (x_peek 0) (a_cons (x_int) a_nil))) (x_int))
   (b_one (s_expr (x_mut 3 PySem.F.slot_list_append PySem.F.type_list_append m_append (a_cons (x_call C__law_world (hr.mono (by omega)) (a_cons (x_peek 0) (a_cons (x_name 1) (a_cons (x_opA o_plus (x_int) (x_call C__law_take (hr.mono (by omega)) (a_cons (x_peek 0) (a_cons (x_name 2) a_nil)))) a_nil)))) a_nil))))
   b_nil)
   (b_cons (s_if (t_w (w_and (t_cmp (o_eq hr.units) (x_peek 2) (x_int)) (w_one_and (t_cmp o_gt (x_call C__law_take (hr.mono (by omega)) (a_cons (x_peek 0) (a_cons (x_int) a_nil))) (x_int)))))
   (b_one (s_expr (x_mut 3 PySem.F.slot_list_append PySem.F.type_list_append m_append (a_cons (x_call C__law_world (hr.mono (by omega)) (a_cons (x_peek 0) (a_cons (x_name 1) (a_cons (x_opA o_plus (x_int) (x_call C__law_take (hr.mono (by omega)) (a_cons (x_peek 0) (a_cons (x_int) a_nil)))) a_nil)))) a_nil))))
   b_nil)
   (b_one (s_ret (x_ty c_tuple T.z_tuple boot_tuple (a_cons (x_peek 3) a_nil))))))))
theorem c__law_due (T : Txt K mg) : Callee P w ⟨K, P, w⟩ mg base "_law_due" 3 [false, false] false m__law_due := by
  have S := sc__law_due
  have C__law_tuples := c__law_tuples (P := P) (w := w) (base := base) T
  have C__law_both := c__law_both (P := P) (w := w) (base := base) T
  refine T.d__law_due.callee S rfl rfl fun f cdv A outer s H E hr => ?_
  unfold b__law_due
  exact (b_cons (s_set 2 (x_call C__law_tuples (hr.mono (by omega)) (a_cons (x_name 1) a_nil)) S.nd)
   (b_cons (s_setF 3 (f_lst a_nil) S.nd)
   (b_cons (s_for PassesOwn.never rfl (i_range1 T.z_range (a_cons (x_bi c_len T.z_len boot_len (a_cons (x_ix o_ix (x_peek 0) (x_int)) a_nil)) a_nil)) (g_name 4 S.nd)
   (b_one (s_expr (x_mut 3 PySem.F.slot_list_append PySem.F.type_list_append m_append (a_cons (x_index (hu65 hr) (x_peek 2) (x_ty c_tuple T.z_tuple boot_tuple (a_cons (fx_ex (f_lc [("_law_world_here", 9)] rfl S.nd (i_seq (x_name 1)) (blkOk_by (N := ["_law_shape_here", "_law_worlds_here", "_law_rows", "_law_things", "_law_k", "_law_tables", "_law_deed", "_law_table", "_law_a", "_law_world_here", "_law_thing", "_law_b"]) (sc := defScope s__law_due) (by decide +kernel)) (fun _ _ _ _ _ => (g_name 9 S.nd)) (fun _ _ _ _ _ => ts_nil) (fun _ _ _ _ _ => (x_ix o_ix (x_ix o_ix (x_peek 9) (x_int)) (x_peek 4))))) a_nil))) a_nil)))))
   (b_cons (s_setF 5 (f_lst a_nil) S.nd)
   (b_cons (s_for PassesOwn.never rfl (i_enum T.z_enumerate (a_cons (x_ix o_ix (x_peek 0) (x_int)) a_nil)) (g_tup 2 rfl (gs_cons (g_name 4 S.nd) (gs_cons (g_name 6 S.nd) gs_nil)))
   (b_cons (s_setF 7 (f_lst a_nil) S.nd)
   (b_cons (s_for PassesOwn.never rfl (i_seq (x_name 2)) (g_name 8 S.nd)
   (b_one (s_if (t_cmp (o_eq hr.units) (x_ix o_ix (x_peek 6) (x_int)) (x_int))
   (b_one (s_expr (x_mut 7 PySem.F.slot_list_append PySem.F.type_list_append m_append (a_cons (x_index (hu65 hr) (x_peek 2) (x_ty c_tuple T.z_tuple boot_tuple (a_cons (fx_ex (f_lc [("_law_world_here", 9), ("_law_thing", 10)] rfl S.nd (i_zip T.z_zip (a_cons (x_name 1) (a_cons (x_name 8) a_nil))) (blkOk_by (N := ["_law_shape_here", "_law_worlds_here", "_law_rows", "_law_things", "_law_k", "_law_tables", "_law_deed", "_law_table", "_law_a", "_law_world_here", "_law_thing", "_law_b"]) (sc := defScope s__law_due) (by decide +kernel)) (fun _ _ _ _ _ => (g_tup 2 rfl (gs_cons (g_name 9 S.nd) (gs_cons (g_name 10 S.nd) gs_nil)))) (fun _ _ _ _ _ => ts_nil) (fun _ _ _ _ _ => (x_ix o_ix (x_ix o_ix (x_ix o_ix (x_peek 9) (x_int)) (x_peek 4)) (x_peek 10))))) a_nil))) a_nil))))
   (b_one (s_expr (x_mut 7 PySem.F.slot_list_append PySem.F.type_list_append m_append (a_cons (x_ty c_tuple T.z_tuple boot_tuple (a_cons (fx_ex (f_lc [("_law_b", 11)] rfl S.nd (i_seq (x_name 2)) (blkOk_by (N := ["_law_shape_here", "_law_worlds_here", "_law_rows", "_law_things", "_law_k", "_law_tables", "_law_deed", "_law_table", "_law_a", "_law_world_here", "_law_thing", "_law_b"]) (sc := defScope s__law_due) (by decide +kernel)) (fun _ _ _ _ _ => (g_name 11 S.nd)) (fun _ _ _ _ _ => ts_nil) (fun _ _ _ _ _ => (x_index (hu65 hr) (x_peek 2) (x_call C__law_both (hr.mono (by omega)) (a_cons (x_name 1) (a_cons (x_name 4) (a_cons (x_name 8) (a_cons (x_name 11) a_nil))))))))) a_nil)) a_nil)))))))
   (b_one (s_expr (x_mut 5 PySem.F.slot_list_append PySem.F.type_list_append m_append (a_cons (x_ty c_tuple T.z_tuple boot_tuple (a_cons (x_peek 7) a_nil)) a_nil)))))))
   (b_one (s_ret (x_tup (a_cons (x_bi c_len T.z_len boot_len (a_cons (x_peek 2) a_nil)) (a_cons (x_ty c_tuple T.z_tuple boot_tuple (a_cons (x_peek 3) a_nil)) (a_cons (x_ty c_tuple T.z_tuple boot_tuple (a_cons (x_peek 5) a_nil)) a_nil)))))))))))
theorem c__law_alike (T : Txt K mg) : ∀ n : Nat, Callee P w ⟨K, P, w⟩ mg base "_law_alike" (0 + n) [false, false] false (m__law_alike n)
  | 0 => T.d__law_alike.zero
  | n + 1 => by
    have S := sc__law_alike
    have C__law_alike := c__law_alike T n
    refine T.d__law_alike.callee S rfl rfl fun f cdv A outer s H E hr => ?_
    unfold b__law_alike
    exact (b_cons (s_if (t_val (x_isi "tuple" (by decide) T.z_isinstance T.z_tuple boot_tuple (x_peek 1)))
   (b_cons (s_if (t_w (w_or (t_not (t_val (x_isi "tuple" (by decide) T.z_isinstance T.z_tuple boot_tuple (x_peek 0)))) (w_one_or (t_cmp (o_ne hr.units) (x_bi c_len T.z_len boot_len (a_cons (x_peek 0) a_nil)) (x_bi c_len T.z_len boot_len (a_cons (x_peek 1) a_nil))))))
   (b_one (s_ret (x_bool)))
   b_nil)
   (b_one (s_ret (x_bi (c_all rfl) T.z_all boot_all (a_cons (fx_ex (f_lc [("_law_one", 2), ("_law_other", 3)] rfl S.nd (i_zip T.z_zip (a_cons (x_name 0) (a_cons (x_name 1) a_nil))) (blkOk_by (N := ["_law_found", "_law_due_here", "_law_one", "_law_other"]) (sc := defScope s__law_alike) (by decide +kernel)) (fun _ _ _ _ _ => (g_tup 2 rfl (gs_cons (g_name 2 S.nd) (gs_cons (g_name 3 S.nd) gs_nil)))) (fun _ _ _ _ _ => ts_nil) (fun _ _ _ _ _ => (x_call C__law_alike (hr.mono (show _ ≤ 0 + n by omega)) (a_cons (x_name 2) (a_cons (x_name 3) a_nil)))))) a_nil)))))
   b_nil)
   (b_one (s_ret ((x_and (x_isi "int" (by decide) T.z_isinstance T.z_int boot_int (x_peek 0)) (x_and (x_not (x_isi "bool" (by decide) T.z_isinstance T.z_bool boot_bool (x_peek 0))) (x_one (x_cmp (o_eq hr.units) (x_peek 0) (x_peek 1)))))))))
theorem k_law (T : Txt K mg) {f : Addr} {fd : FuncData} (F : Fun K "law" "law" s_law f fd) : FnOk P w K mg base CX0 21 f fd ["_law_script"] (spOf ⟨K, P, w⟩ [false] false m_law) := by
  have S := sc_law
  have C__law_feed := c__law_feed (P := P) (w := w) (base := base) T
  have C__law_shape := c__law_shape (P := P) (w := w) (base := base) T
  have C__law_worlds := c__law_worlds (P := P) (w := w) (base := base) T
  have C__law_alike := c__law_alike (P := P) (w := w) (base := base) T 20
  have C_product := c_product (P := P) (w := w) (base := base) T
  have C__law_due := c__law_due (P := P) (w := w) (base := base) T
  refine fn_ok F S rfl rfl fun cdv A outer s H E hr => ?_
  unfold b_law
  exact (b_cons (s_for PassesOwn.never rfl (i_range2 T.z_range (a_cons (x_int) (a_cons (x_int) a_nil))) (g_name 1 S.nd)
   (b_cons (s_setF 2 (f_call C__law_feed (hr.mono (by omega)) (a_cons (x_name 0) (a_cons (x_name 1) a_nil))) S.nd)
   (b_cons (s_set 3 (x_call C__law_shape (hr.mono (by omega)) (a_cons (x_peek 2) a_nil)) S.nd)
   (b_cons (s_set 4 (x_call C__law_worlds (hr.mono (by omega)) (a_cons (x_peek 2) (a_cons (x_name 3) a_nil))) S.nd)
   (b_cons (s_if (t_not (t_val (x_call C__law_alike (hr.mono (by omega)) (a_cons (x_call C_product (hr.mono (by omega)) (a_cons (x_name 3) (a_cons (x_name 4) a_nil))) (a_cons (x_call C__law_due (hr.mono (by omega)) (a_cons (x_name 3) (a_cons (x_name 4) a_nil))) a_nil)))))
   (b_one (s_ret (x_bool)))
   b_nil)
   (b_one (s_if (t_cmp (o_ne hr.units) (x_call C_product (hr.mono (by omega)) (a_cons (x_name 3) (a_cons (x_slice (x_peek 4) ox_none (ox_some (x_int))) a_nil))) (x_ix o_ix (x_peek 4) (x_int)))
   (b_one (s_ret (x_bool)))
   b_nil)))))))
   (b_one (s_ret (x_bool))))
end
theorem all_mk {l : PySem.W.OpenLaw} {w : World} {K : PySem.W.Frag} {h : Heap} {mg : Str → Option Value} {fa : Addr} (X : K.In h) (G : h.Ns mainGlobals mg) (hfa : mg "law" = some (.ref fa))
    (hm : ∀ ns : List Int, OkIn ns → ∃ us, m_law [.list (ns.map .int)] = some (.bool true, us))
    {f0 : Addr} {od0 an0 : Option Addr} {sl0 : Array (Option Value)} {oc0 kV0 dc0 pm0 cd0 ct0 : Value}
    (a0 : PySem.W.nsIn K mainGlobals "all_rows" = some (some (.ref f0))) (l0 : K.lookup f0 = some ⟨oc0, od0, .func (PySem.W.fnOf "all_rows" "all_rows" (defArgs s_all_rows) (defBody s_all_rows) (defScope s_all_rows) .none kV0 dc0 pm0 an0 cd0 ct0), sl0⟩) (c0 : PySem.W.codeIn K cd0 "all_rows" = true) (k0 : PySem.W.keepIn K (.ref f0) = true)
    {f1 : Addr} {od1 an1 : Option Addr} {sl1 : Array (Option Value)} {oc1 kV1 dc1 pm1 cd1 ct1 : Value}
    (a1 : PySem.W.nsIn K mainGlobals "done_on_all" = some (some (.ref f1))) (l1 : K.lookup f1 = some ⟨oc1, od1, .func (PySem.W.fnOf "done_on_all" "done_on_all" (defArgs s_done_on_all) (defBody s_done_on_all) (defScope s_done_on_all) .none kV1 dc1 pm1 an1 cd1 ct1), sl1⟩) (c1 : PySem.W.codeIn K cd1 "done_on_all" = true) (k1 : PySem.W.keepIn K (.ref f1) = true)
    {f2 : Addr} {od2 an2 : Option Addr} {sl2 : Array (Option Value)} {oc2 kV2 dc2 pm2 cd2 ct2 : Value}
    (a2 : PySem.W.nsIn K mainGlobals "_law_feed" = some (some (.ref f2))) (l2 : K.lookup f2 = some ⟨oc2, od2, .func (PySem.W.fnOf "_law_feed" "_law_feed" (defArgs s__law_feed) (defBody s__law_feed) (defScope s__law_feed) .none kV2 dc2 pm2 an2 cd2 ct2), sl2⟩) (c2 : PySem.W.codeIn K cd2 "_law_feed" = true) (k2 : PySem.W.keepIn K (.ref f2) = true)
    {f3 : Addr} {od3 an3 : Option Addr} {sl3 : Array (Option Value)} {oc3 kV3 dc3 pm3 cd3 ct3 : Value}
    (a3 : PySem.W.nsIn K mainGlobals "_law_take" = some (some (.ref f3))) (l3 : K.lookup f3 = some ⟨oc3, od3, .func (PySem.W.fnOf "_law_take" "_law_take" (defArgs s__law_take) (defBody s__law_take) (defScope s__law_take) .none kV3 dc3 pm3 an3 cd3 ct3), sl3⟩) (c3 : PySem.W.codeIn K cd3 "_law_take" = true) (k3 : PySem.W.keepIn K (.ref f3) = true)
    {f4 : Addr} {od4 an4 : Option Addr} {sl4 : Array (Option Value)} {oc4 kV4 dc4 pm4 cd4 ct4 : Value}
    (a4 : PySem.W.nsIn K mainGlobals "_law_with_each" = some (some (.ref f4))) (l4 : K.lookup f4 = some ⟨oc4, od4, .func (PySem.W.fnOf "_law_with_each" "_law_with_each" (defArgs s__law_with_each) (defBody s__law_with_each) (defScope s__law_with_each) .none kV4 dc4 pm4 an4 cd4 ct4), sl4⟩) (c4 : PySem.W.codeIn K cd4 "_law_with_each" = true) (k4 : PySem.W.keepIn K (.ref f4) = true)
    {f5 : Addr} {od5 an5 : Option Addr} {sl5 : Array (Option Value)} {oc5 kV5 dc5 pm5 cd5 ct5 : Value}
    (a5 : PySem.W.nsIn K mainGlobals "_law_both" = some (some (.ref f5))) (l5 : K.lookup f5 = some ⟨oc5, od5, .func (PySem.W.fnOf "_law_both" "_law_both" (defArgs s__law_both) (defBody s__law_both) (defScope s__law_both) .none kV5 dc5 pm5 an5 cd5 ct5), sl5⟩) (c5 : PySem.W.codeIn K cd5 "_law_both" = true) (k5 : PySem.W.keepIn K (.ref f5) = true)
    {f6 : Addr} {od6 an6 : Option Addr} {sl6 : Array (Option Value)} {oc6 kV6 dc6 pm6 cd6 ct6 : Value}
    (a6 : PySem.W.nsIn K mainGlobals "product" = some (some (.ref f6))) (l6 : K.lookup f6 = some ⟨oc6, od6, .func (PySem.W.fnOf "product" "product" (defArgs s_product) (defBody s_product) (defScope s_product) .none kV6 dc6 pm6 an6 cd6 ct6), sl6⟩) (c6 : PySem.W.codeIn K cd6 "product" = true) (k6 : PySem.W.keepIn K (.ref f6) = true)
    {f7 : Addr} {od7 an7 : Option Addr} {sl7 : Array (Option Value)} {oc7 kV7 dc7 pm7 cd7 ct7 : Value}
    (a7 : PySem.W.nsIn K mainGlobals "_law_names" = some (some (.ref f7))) (l7 : K.lookup f7 = some ⟨oc7, od7, .func (PySem.W.fnOf "_law_names" "_law_names" (defArgs s__law_names) (defBody s__law_names) (defScope s__law_names) .none kV7 dc7 pm7 an7 cd7 ct7), sl7⟩) (c7 : PySem.W.codeIn K cd7 "_law_names" = true) (k7 : PySem.W.keepIn K (.ref f7) = true)
    {f8 : Addr} {od8 an8 : Option Addr} {sl8 : Array (Option Value)} {oc8 kV8 dc8 pm8 cd8 ct8 : Value}
    (a8 : PySem.W.nsIn K mainGlobals "_law_world" = some (some (.ref f8))) (l8 : K.lookup f8 = some ⟨oc8, od8, .func (PySem.W.fnOf "_law_world" "_law_world" (defArgs s__law_world) (defBody s__law_world) (defScope s__law_world) .none kV8 dc8 pm8 an8 cd8 ct8), sl8⟩) (c8 : PySem.W.codeIn K cd8 "_law_world" = true) (k8 : PySem.W.keepIn K (.ref f8) = true)
    {f9 : Addr} {od9 an9 : Option Addr} {sl9 : Array (Option Value)} {oc9 kV9 dc9 pm9 cd9 ct9 : Value}
    (a9 : PySem.W.nsIn K mainGlobals "_law_tuples" = some (some (.ref f9))) (l9 : K.lookup f9 = some ⟨oc9, od9, .func (PySem.W.fnOf "_law_tuples" "_law_tuples" (defArgs s__law_tuples) (defBody s__law_tuples) (defScope s__law_tuples) .none kV9 dc9 pm9 an9 cd9 ct9), sl9⟩) (c9 : PySem.W.codeIn K cd9 "_law_tuples" = true) (k9 : PySem.W.keepIn K (.ref f9) = true)
    {f10 : Addr} {od10 an10 : Option Addr} {sl10 : Array (Option Value)} {oc10 kV10 dc10 pm10 cd10 ct10 : Value}
    (a10 : PySem.W.nsIn K mainGlobals "_law_shape" = some (some (.ref f10))) (l10 : K.lookup f10 = some ⟨oc10, od10, .func (PySem.W.fnOf "_law_shape" "_law_shape" (defArgs s__law_shape) (defBody s__law_shape) (defScope s__law_shape) .none kV10 dc10 pm10 an10 cd10 ct10), sl10⟩) (c10 : PySem.W.codeIn K cd10 "_law_shape" = true) (k10 : PySem.W.keepIn K (.ref f10) = true)
    {f11 : Addr} {od11 an11 : Option Addr} {sl11 : Array (Option Value)} {oc11 kV11 dc11 pm11 cd11 ct11 : Value}
    (a11 : PySem.W.nsIn K mainGlobals "_law_worlds" = some (some (.ref f11))) (l11 : K.lookup f11 = some ⟨oc11, od11, .func (PySem.W.fnOf "_law_worlds" "_law_worlds" (defArgs s__law_worlds) (defBody s__law_worlds) (defScope s__law_worlds) .none kV11 dc11 pm11 an11 cd11 ct11), sl11⟩) (c11 : PySem.W.codeIn K cd11 "_law_worlds" = true) (k11 : PySem.W.keepIn K (.ref f11) = true)
    {f12 : Addr} {od12 an12 : Option Addr} {sl12 : Array (Option Value)} {oc12 kV12 dc12 pm12 cd12 ct12 : Value}
    (a12 : PySem.W.nsIn K mainGlobals "_law_due" = some (some (.ref f12))) (l12 : K.lookup f12 = some ⟨oc12, od12, .func (PySem.W.fnOf "_law_due" "_law_due" (defArgs s__law_due) (defBody s__law_due) (defScope s__law_due) .none kV12 dc12 pm12 an12 cd12 ct12), sl12⟩) (c12 : PySem.W.codeIn K cd12 "_law_due" = true) (k12 : PySem.W.keepIn K (.ref f12) = true)
    {f13 : Addr} {od13 an13 : Option Addr} {sl13 : Array (Option Value)} {oc13 kV13 dc13 pm13 cd13 ct13 : Value}
    (a13 : PySem.W.nsIn K mainGlobals "_law_alike" = some (some (.ref f13))) (l13 : K.lookup f13 = some ⟨oc13, od13, .func (PySem.W.fnOf "_law_alike" "_law_alike" (defArgs s__law_alike) (defBody s__law_alike) (defScope s__law_alike) .none kV13 dc13 pm13 an13 cd13 ct13), sl13⟩) (c13 : PySem.W.codeIn K cd13 "_law_alike" = true) (k13 : PySem.W.keepIn K (.ref f13) = true)
    {f14 : Addr} {od14 an14 : Option Addr} {sl14 : Array (Option Value)} {oc14 kV14 dc14 pm14 cd14 ct14 : Value}
    (a14 : PySem.W.nsIn K mainGlobals "law" = some (some (.ref f14))) (l14 : K.lookup f14 = some ⟨oc14, od14, .func (PySem.W.fnOf "law" "law" (defArgs s_law) (defBody s_law) (defScope s_law) .none kV14 dc14 pm14 an14 cd14 ct14), sl14⟩) (c14 : PySem.W.codeIn K cd14 "law" = true) (k14 : PySem.W.keepIn K (.ref f14) = true)
    (z_all : PySem.W.nsIn K mainGlobals "all" = some none)
    (z_bool : PySem.W.nsIn K mainGlobals "bool" = some none)
    (z_enumerate : PySem.W.nsIn K mainGlobals "enumerate" = some none)
    (z_int : PySem.W.nsIn K mainGlobals "int" = some none)
    (z_isinstance : PySem.W.nsIn K mainGlobals "isinstance" = some none)
    (z_len : PySem.W.nsIn K mainGlobals "len" = some none)
    (z_range : PySem.W.nsIn K mainGlobals "range" = some none)
    (z_tuple : PySem.W.nsIn K mainGlobals "tuple" = some none)
    (z_zip : PySem.W.nsIn K mainGlobals "zip" = some none)
    : ∃ fd : FuncData, (∀ (s : Shared) (v : Value), BindsTo s fd ⟨[v], []⟩ [("_law_script", v)]) ∧ ∀ base : Heap, K.In base → base.Ns mainGlobals mg → FnOk l.prog w K mg base CX0 21 fa fd ["_law_script"] (spLaw K) := by
  have d0 : DefT K mg "all_rows" s_all_rows ["worlds"] := ⟨f0, _, fun_mk (st := s_all_rows) l0 c0 k0, PySem.W.mg_of X G a0, k0, (fun_mk (st := s_all_rows) l0 c0 k0).binds (ps := ["worlds"]) fun _ _ _ _ _ _ us hl => match us, hl with | [_], _ => rfl⟩
  have d1 : DefT K mg "done_on_all" s_done_on_all ["worlds", "k", "places", "rows"] := ⟨f1, _, fun_mk (st := s_done_on_all) l1 c1 k1, PySem.W.mg_of X G a1, k1, (fun_mk (st := s_done_on_all) l1 c1 k1).binds (ps := ["worlds", "k", "places", "rows"]) fun _ _ _ _ _ _ us hl => match us, hl with | [_, _, _, _], _ => rfl⟩
  have d2 : DefT K mg "_law_feed" s__law_feed ["_law_script", "_law_k"] := ⟨f2, _, fun_mk (st := s__law_feed) l2 c2 k2, PySem.W.mg_of X G a2, k2, (fun_mk (st := s__law_feed) l2 c2 k2).binds (ps := ["_law_script", "_law_k"]) fun _ _ _ _ _ _ us hl => match us, hl with | [_, _], _ => rfl⟩
  have d3 : DefT K mg "_law_take" s__law_take ["_law_feed_here", "_law_many"] := ⟨f3, _, fun_mk (st := s__law_take) l3 c3 k3, PySem.W.mg_of X G a3, k3, (fun_mk (st := s__law_take) l3 c3 k3).binds (ps := ["_law_feed_here", "_law_many"]) fun _ _ _ _ _ _ us hl => match us, hl with | [_, _], _ => rfl⟩
  have d4 : DefT K mg "_law_with_each" s__law_with_each ["_law_found", "_law_count"] := ⟨f4, _, fun_mk (st := s__law_with_each) l4 c4 k4, PySem.W.mg_of X G a4, k4, (fun_mk (st := s__law_with_each) l4 c4 k4).binds (ps := ["_law_found", "_law_count"]) fun _ _ _ _ _ _ us hl => match us, hl with | [_, _], _ => rfl⟩
  have d5 : DefT K mg "_law_both" s__law_both ["_law_worlds_here", "_law_k", "_law_a", "_law_b"] := ⟨f5, _, fun_mk (st := s__law_both) l5 c5 k5, PySem.W.mg_of X G a5, k5, (fun_mk (st := s__law_both) l5 c5 k5).binds (ps := ["_law_worlds_here", "_law_k", "_law_a", "_law_b"]) fun _ _ _ _ _ _ us hl => match us, hl with | [_, _, _, _], _ => rfl⟩
  have d6 : DefT K mg "product" s_product ["shape", "worlds"] := ⟨f6, _, fun_mk (st := s_product) l6 c6 k6, PySem.W.mg_of X G a6, k6, (fun_mk (st := s_product) l6 c6 k6).binds (ps := ["shape", "worlds"]) fun _ _ _ _ _ _ us hl => match us, hl with | [_, _], _ => rfl⟩
  have d7 : DefT K mg "_law_names" s__law_names ["_law_feed_here", "_law_many"] := ⟨f7, _, fun_mk (st := s__law_names) l7 c7 k7, PySem.W.mg_of X G a7, k7, (fun_mk (st := s__law_names) l7 c7 k7).binds (ps := ["_law_feed_here", "_law_many"]) fun _ _ _ _ _ _ us hl => match us, hl with | [_, _], _ => rfl⟩
  have d8 : DefT K mg "_law_world" s__law_world ["_law_feed_here", "_law_shape_here", "_law_n"] := ⟨f8, _, fun_mk (st := s__law_world) l8 c8 k8, PySem.W.mg_of X G a8, k8, (fun_mk (st := s__law_world) l8 c8 k8).binds (ps := ["_law_feed_here", "_law_shape_here", "_law_n"]) fun _ _ _ _ _ _ us hl => match us, hl with | [_, _, _], _ => rfl⟩
  have d9 : DefT K mg "_law_tuples" s__law_tuples ["_law_worlds_here"] := ⟨f9, _, fun_mk (st := s__law_tuples) l9 c9 k9, PySem.W.mg_of X G a9, k9, (fun_mk (st := s__law_tuples) l9 c9 k9).binds (ps := ["_law_worlds_here"]) fun _ _ _ _ _ _ us hl => match us, hl with | [_], _ => rfl⟩
  have d10 : DefT K mg "_law_shape" s__law_shape ["_law_feed_here"] := ⟨f10, _, fun_mk (st := s__law_shape) l10 c10 k10, PySem.W.mg_of X G a10, k10, (fun_mk (st := s__law_shape) l10 c10 k10).binds (ps := ["_law_feed_here"]) fun _ _ _ _ _ _ us hl => match us, hl with | [_], _ => rfl⟩
  have d11 : DefT K mg "_law_worlds" s__law_worlds ["_law_feed_here", "_law_shape_here"] := ⟨f11, _, fun_mk (st := s__law_worlds) l11 c11 k11, PySem.W.mg_of X G a11, k11, (fun_mk (st := s__law_worlds) l11 c11 k11).binds (ps := ["_law_feed_here", "_law_shape_here"]) fun _ _ _ _ _ _ us hl => match us, hl with | [_, _], _ => rfl⟩
  have d12 : DefT K mg "_law_due" s__law_due ["_law_shape_here", "_law_worlds_here"] := ⟨f12, _, fun_mk (st := s__law_due) l12 c12 k12, PySem.W.mg_of X G a12, k12, (fun_mk (st := s__law_due) l12 c12 k12).binds (ps := ["_law_shape_here", "_law_worlds_here"]) fun _ _ _ _ _ _ us hl => match us, hl with | [_, _], _ => rfl⟩
  have d13 : DefT K mg "_law_alike" s__law_alike ["_law_found", "_law_due_here"] := ⟨f13, _, fun_mk (st := s__law_alike) l13 c13 k13, PySem.W.mg_of X G a13, k13, (fun_mk (st := s__law_alike) l13 c13 k13).binds (ps := ["_law_found", "_law_due_here"]) fun _ _ _ _ _ _ us hl => match us, hl with | [_, _], _ => rfl⟩
  have d14 : DefT K mg "law" s_law ["_law_script"] := ⟨f14, _, fun_mk (st := s_law) l14 c14 k14, PySem.W.mg_of X G a14, k14, (fun_mk (st := s_law) l14 c14 k14).binds (ps := ["_law_script"]) fun _ _ _ _ _ _ us hl => match us, hl with | [_], _ => rfl⟩
  have T : Txt K mg := ⟨d0, d1, d2, d3, d4, d5, d6, d7, d8, d9, d10, d11, d12, d13, d14, PySem.W.mg_none_of X G z_all, PySem.W.mg_none_of X G z_bool, PySem.W.mg_none_of X G z_enumerate, PySem.W.mg_none_of X G z_int, PySem.W.mg_none_of X G z_isinstance, PySem.W.mg_none_of X G z_len, PySem.W.mg_none_of X G z_range, PySem.W.mg_none_of X G z_tuple, PySem.W.mg_none_of X G z_zip⟩
  have e := hfa.symm.trans (PySem.W.mg_of X G a14)
  cases e
  refine ⟨PySem.W.fnOf "law" "law" (defArgs s_law) (defBody s_law) (defScope s_law) .none kV14 dc14 pm14 an14 cd14 ct14, fun s v => .of_eq rfl, fun base _ _ => ?_⟩
  exact (k_law T (fun_mk (st := s_law) l14 c14 k14)).imp (sp_law hm)
theorem walk {l : PySem.W.OpenLaw} {q : Program} {loose : List Str} {XP : (Str → Option Value) → Heap → Prop} {YP : World → Heap → Prop} {d : DefRec} {K : Params → PySem.W.Frag} (hn : l.most = some 63) (hdf : d.params.defaults = [])
    (hY : ∀ (w : World) (h : Heap), YP w h → (K w.params).In h)
    (F : ∀ (w : World) (mg : Str → Option Value) (fa : Addr) (h : Heap), (K w.params).In h → h.Ns mainGlobals mg → mg d.name = some (.ref fa) →
      ∃ fd : FuncData, (∀ (s : Shared) (u : Value), BindsTo s fd ⟨[u], []⟩ [("_law_script", u)]) ∧ ∀ base : Heap, (K w.params).In base → base.Ns mainGlobals mg → FnOk l.prog w (K w.params) mg base CX0 21 fa fd ["_law_script"] (spLaw (K w.params))) :
    PySem.W.WalkO q loose XP YP l.row.toRowW d [] (fun f vs => PySem.call f vs) :=
  L2.walk_ofB (n := 63) (k := 21) (x := "_law_script") (CX := fun _ => CX0) (sp := fun w => spLaw (K w.params)) hn (by decide) hdf ⟨rfl, by decide, by decide⟩ hY F (fun _ _ a ns hl hb _ hS => ⟨a, ns, rfl, hS, ⟨hl, hb⟩, fun _ _ e => e⟩) fun _ _ _ _ _ z => z
end G
local macro_rules | `(tactic| trivial) => `(tactic| simp only [G.mName_ap, G.mPeek_ap, G.mC_ap, G.mSh_ap, G.mBin_ap, G.mBinF_ap, G.mTest_ap, G.mChain_ap, G.mAnd_ap, G.mOr_ap, G.mNot_ap, G.mAndV_ap, G.mOrV_ap, G.mNotV_ap, G.mIf_ap, G.mNil_ap, G.mCons_ap, G.mTup_ap, G.mLst_ap, G.mCall_ap, G.mCallF_ap, G.mSkip_ap, G.mBreak_ap, G.mCont_ap, G.mDrop_ap, G.mRet_ap, G.mRetF_ap, G.mRetO_ap, G.mOwn_ap, G.mRetN_ap, G.mIfS_ap, G.mPut_ap, G.mSet_ap, G.mSetF_ap, G.mgNil_ap, G.mgCons_ap, G.mgTup_ap, G.mAsg_ap, G.mPar_ap, G.mFor_ap, G.mYes_ap, G.mLC_ap, G.mIter_ap, G.mRange1_ap, G.mRange2_ap, G.moNone_ap, G.moSome_ap, G.mSl_ap, G.mSlF_ap, G.mBi_ap, G.mBiF_ap, G.mIsi_ap, G.mUn_ap, G.mJoin_ap, G.mStore_ap, G.mIndex_ap, G.mMut_ap, G.wp_seq, G.kSeq_nx, G.kSeq_bk, G.kSeq_ct, G.kSeq_rt, G.kDef_nx, G.kDef_rt, G.wp_ite_none, G.deref, G.asVal, G.vals, G.derefs, G.asInts, G.asStr, G.isOw, G.isL, G.itemsOf, G.ownIx, G.argOk, G.wb, G.argsRho, G.enOf, G.pickBack, G.wipeR, G.unwipe, List.replicate_succ, List.replicate_zero, G.wp_some, G.wp_bind, Option.bind_some, Option.bind_none, List.getElem?_cons_zero, List.getElem?_cons_succ, List.set_cons_zero, List.set_cons_succ, List.set_nil, List.getElem?_nil, List.cons_append, List.nil_append, List.length_cons, List.length_nil, List.nodup_nil, List.nodup_cons, List.not_mem_nil, not_false_eq_true, and_self, and_true, true_and, if_true, if_false, ite_true, ite_false, reduceIte, Bool.false_eq_true, List.mem_cons, or_false, or_self, Bool.true_eq_false, G.gPlus_int, G.gSub_int, G.gLt_int, G.gLe_int, G.gGt_int, G.gGe_int, G.gEq_int, G.gNe_int, G.gEq_str, G.gNe_str, G.gIx_list, G.gIx_tuple, G.gIx_str, G.gLen, G.gTuple, G.gList, G.gNeg, G.gAppend, Nat.zero_add, Nat.reduceAdd, Nat.reduceLT, Nat.reduceLeDiff, Nat.lt_add_one, decide_true, decide_false, Bool.not_true, Bool.not_false, reduceCtorEq, Nat.reduceEqDiff, List.length_set, List.length_map, List.nodup_nil, List.mem_nil_iff, eq_self, G.wp_gMul, G.wp_gMod, G.wp_gFdiv, G.atI_0, G.atI_1, G.atI_2, G.atI_3, G.ixN_20, G.ixN_21, G.gIn_def, G.gNotIn_def, G.gSl_str, G.gSl_tup, G.gSl_list, Int.reduceLT, Int.reduceLE, Int.reducePow, Int.reduceNeg, Int.reduceAdd, Int.reduceSub, or_true, true_or, Bool.decide_eq_true, decide_eq_true_eq, true_implies, false_implies, G.mStoreD_ap, G.mDict0_ap, G.mEnum_ap, G.mZip_ap, G.dxU_mk, G.seqU_list, G.seqU_tuple, G.gIxD_mk, G.gInD_mk, G.gNotInD_mk, G.gLenD_mk, G.sameSeq_list, G.sameSeq_tuple, G.gExtend])
namespace G
open PySem PySem.Spec PyProof.Rows L2
abbrev fd (f : Int × Int) : U := .list [.int f.1, .int f.2]
theorem wp_take {f : Int × Int} {m : Int} {Q : U × List U → Prop} (hm : 0 < m ∧ m < 2 ^ 64) (k : ∀ r f', 0 ≤ r → r < m → Q (.int r, [fd f', .int m])) : wp (m__law_take [fd f, .int m]) Q := by
  unfold m__law_take
  refine wp_def ?_
  unfold b__law_take
  obtain ⟨a, b⟩ := f
  trivial
  refine wp_if (fun h => ?_) (fun h => ?_)
  · trivial
    refine ⟨hm.1, ?_⟩
    exact ⟨hm, k _ (a / m, b) (Int.emod_nonneg _ (by omega)) (Int.emod_lt_of_pos _ hm.1)⟩
  · trivial
    refine ⟨hm.1, ?_⟩
    exact k _ (a, _) (Int.emod_nonneg _ (by omega)) (Int.emod_lt_of_pos _ hm.1)
/-! ### texts -/
open SX (S S_tl S_inj S_len S_cat)
def Low (c : Nat) : Prop := 97 ≤ c ∧ c ≤ 122
theorem letters_eq : (Str.ofString "abcdefghijklmnopqrstuvwxyz").cps.toList = (List.range 26).map (97 + ·) := by decide +kernel
theorem wp_letter {i : Int} {Q : Nat → Prop} (h0 : 0 ≤ i) (h1 : i < 26) (k : Q (97 + i.toNat)) : wp (atI (Str.ofString "abcdefghijklmnopqrstuvwxyz").cps.toList i) Q := by
  have e : atI (Str.ofString "abcdefghijklmnopqrstuvwxyz").cps.toList i = some (97 + i.toNat) := by
    refine atI_at h0 ?_
    rw [letters_eq, List.getElem?_map, List.getElem?_range (by omega)]
    rfl
  exact ⟨_, e, k⟩
theorem paired_fun {α β : Type} {p : β → Prop} {g : β → U} : ∀ {us : List α} {zs : List U}, F2 (fun _ z => ∃ c, p c ∧ z = g c) us zs → ∃ cs : List β, zs = cs.map g ∧ (∀ c ∈ cs, p c) ∧ cs.length = us.length
  | _, _, .nil => ⟨[], rfl, (by intro c h; cases h), rfl⟩
  | _, _, .cons ⟨c, h1, h2⟩ t => by
    obtain ⟨cs, e, h, l⟩ := paired_fun t
    refine ⟨c :: cs, by rw [e, h2]; rfl, fun d hd => ?_, by rw [List.length_cons, List.length_cons, l]⟩
    rcases List.mem_cons.mp hd with rfl | hd
    · exact h1
    · exact h d hd
theorem strsU_map : ∀ ys : List Str, strsU (ys.map PyData.str) = some ys
  | [] => rfl
  | y :: ys => by
    show (strsU (ys.map PyData.str)).bind _ = _
    rw [strsU_map ys]
    rfl
theorem joinL_one : ∀ cs : List Nat, TL.joinL [] (cs.map fun c => [c]) = cs
  | [] => rfl
  | [c] => rfl
  | c :: d :: r => by
    show [c] ++ ([] ++ TL.joinL [] ((d :: r).map fun c => [c])) = _
    rw [joinL_one (d :: r)]
    rfl
theorem wp_join1 {cs : List Nat} {Q : U → Prop} (h : cs.length ≤ 1000) (k : Q (.str (S cs))) : wp (gJoin (Str.ofString "") (.list (cs.map fun c => .str (S [c])))) Q := by
  have e0 : (Str.ofString "") = S [] := by decide +kernel
  have e1 : (cs.map fun c => PyData.str (S [c])) = (cs.map fun c => S [c]).map PyData.str := by rw [List.map_map]; rfl
  have e2 : (cs.map fun c => S [c]) = (cs.map fun c => [c]).map S := by rw [List.map_map]; rfl
  have e3 : Txt.join (S []) (cs.map fun c => S [c]) = S cs := by rw [e2, SX.join_S, joinL_one]
  have e4 : ((cs.map fun c => S [c]).map (·.length)).sum = cs.length := by
    rw [List.map_map]
    clear h k e1 e2 e3
    induction cs with
    | nil => rfl
    | cons c cs ih =>
      rw [List.map_cons, List.sum_cons, ih, List.length_cons]
      show (S [c]).length + cs.length = _
      rw [S_len]
      simp only [List.length_cons, List.length_nil]
      omega
  refine ⟨_, ?_, k⟩
  unfold gJoin
  show ((strsU _).bind _) = _
  rw [e0, e1, strsU_map]
  show (if joinOk (S []) (cs.map fun c => S [c]) then _ else _) = _
  rw [if_pos, e3]
  refine ⟨?_, ?_⟩
  · rw [e4, List.length_map, S_len]
    simp only [List.length_nil]
    omega
  · rw [e3, S_len]
    show cs.length ≤ 2 ^ 24
    omega
theorem cutS_S {l : List Nat} {lo hi : Option Int} : cutS (S l) lo hi = S ((l.drop (HT.sIx l.length 0 lo)).take (HT.sIx l.length l.length hi - HT.sIx l.length 0 lo)) := by
  unfold cutS
  rw [S_len]
theorem sIx_at {n d : Nat} {v : Int} (h0 : 0 ≤ v) : HT.sIx n d (some v) = min v.toNat n := by
  show (if v < 0 then (v + ↑n).toNat else min v.toNat n) = _
  rw [if_neg (by omega)]
theorem wp_inT {u : U} {ds : List U} {Q : Bool → Prop} (h1 : flatU u = true) (h2 : ds.all flatU = true) (k : ∀ b, Q b) : wp (inU u (.tuple ds)) Q := by
  show wp (if flatU u = true ∧ ds.all flatU = true then some (ds.any fun d => eqF d u) else none) Q
  rw [if_pos ⟨h1, h2⟩, wp_some]
  exact k _
theorem wp_strcat {a b : List Nat} {Q : U → Prop} (h : a.length + b.length ≤ 10000) (k : Q (.str (S (a ++ b)))) : wp (gPlus (.str (S a)) (.str (S b))) Q := by
  rw [gPlus_str (by rw [S_len, S_len]; show _ ≤ 2 ^ 24; omega), wp_some, S_cat]
  exact k
/-- a name that has the sign c at the place p -/
def Nm (p c : Nat) (m : List Nat) : Prop := m[p]? = some c ∧ (∀ x ∈ m, Low x) ∧ m.length ≤ 8
def Names (ns : List (List Nat)) : Prop := ns.Nodup ∧ ∀ m ∈ ns, (∀ x ∈ m, Low x) ∧ 1 ≤ m.length ∧ m.length ≤ 9
abbrev uS (m : List Nat) : U := .str (S m)
theorem name_mk {l : List Nat} {p q : Nat} {c : Nat} (hl : l.length ≤ 3) (hL : ∀ x ∈ l, Low x) (hc : Low c) (hp : p ≤ l.length) : Nm p c ((l.take p ++ [c]) ++ (l.drop p).take q) ∧ ((l.take p ++ [c]) ++ (l.drop p).take q).length ≤ 7 := by
  have l1 : (l.take p).length = p := by rw [List.length_take]; omega
  have l2 : ((l.drop p).take q).length ≤ 3 := by rw [List.length_take, List.length_drop]; omega
  have ll : ((l.take p ++ [c]) ++ (l.drop p).take q).length ≤ 7 := by
    rw [List.length_append, List.length_append, l1, List.length_singleton]
    omega
  refine ⟨⟨?_, fun x hx => ?_, by omega⟩, ll⟩
  · rw [List.append_assoc, List.getElem?_append_right (by omega), l1, Nat.sub_self]
    rfl
  · rcases List.mem_append.mp hx with hx | hx
    · rcases List.mem_append.mp hx with hx | hx
      · exact hL _ (List.mem_of_mem_take hx)
      · rw [List.mem_singleton.mp hx]; exact hc
    · exact hL _ (List.mem_of_mem_drop (List.mem_of_mem_take hx))
theorem name_q {p c : Nat} {m : List Nat} (h : Nm p c m) (hl : m.length ≤ 7) : Nm p c (m ++ [113]) := by
  obtain ⟨h1, h2, h3⟩ := h
  refine ⟨?_, fun x hx => ?_, by rw [List.length_append, List.length_singleton]; omega⟩
  · rw [List.getElem?_append_left (List.getElem?_eq_some_iff.mp h1).1]
    exact h1
  · rcases List.mem_append.mp hx with hx | hx
    · exact h2 _ hx
    · rw [List.mem_singleton.mp hx]; exact ⟨by decide, by decide⟩
theorem q_S : (Str.ofString "q") = S [113] := by decide +kernel
/-- names, of which we only say how long they are -/
def Nms (ns : List (List Nat)) : Prop := ∀ m ∈ ns, (∀ x ∈ m, Low x) ∧ 1 ≤ m.length ∧ m.length ≤ 9
theorem wp_names {f : Int × Int} {many : Int} {Q : U × List U → Prop} (hm : 2 ≤ many ∧ many ≤ 4) (k : ∀ ns f', Nms ns → ns.length = many.toNat → Q (.list (ns.map uS), [fd f', .int many])) : wp (m__law_names [fd f, .int many]) Q := by
  unfold m__law_names
  refine wp_def ?_
  unfold b__law_names
  trivial
  refine wp_take (by decide) fun r f1 h0 h1 => ?_
  trivial
  refine ⟨by omega, ?_⟩
  refine wp_lc (fun ρ => ∃ f', ρ = [.ow (fd f'), .sh (.int many), .sh (.str (Str.ofString "abcdefghijklmnopqrstuvwxyz")), .no, .no, .no, .no, .no, .no, .no, .no]) (fun _ z => ∃ c, Low c ∧ z = .str (S [c])) ⟨f1, rfl⟩ ?_ ?_
  · rintro u ρ hu ⟨f2, rfl⟩
    trivial
    refine wp_take (by decide) fun r2 f3 h2 h3 => ?_
    trivial
    refine wp_letter h2 h3 ?_
    exact ⟨⟨_, ⟨by omega, by omega⟩, rfl⟩, f3, rfl⟩
  · rintro zs ρ' hz ⟨f2, rfl⟩
    obtain ⟨l, rfl, hL, hll⟩ := paired_fun hz
    rw [rangeU_len] at hll
    have hl3 : l.length ≤ 3 := by omega
    trivial
    refine wp_join1 (by omega) ?_
    refine wp_take (by decide) fun first f3 h2 h3 => ?_
    trivial
    rw [S_len]
    refine wp_take (by omega) fun pl f4 h4 h5 => ?_
    trivial
    refine wp_take (by decide) fun turn f5 h6 h7 => ?_
    trivial
    refine ⟨by decide, ⟨by omega, by omega⟩, ?_⟩
    refine wp_loopN (fun i ρ => ∃ (ns : List (List Nat)) (x8 x9 x10 : En), ρ = [.ow (fd f5), .sh (.int many), .sh (.str (Str.ofString "abcdefghijklmnopqrstuvwxyz")), .sh (.str (S l)), .sh (.int first), .sh (.int pl), .sh (.int turn), .ow (.list (ns.map uS)), x8, x9, x10] ∧
        ns.length = i ∧ ∀ (j : Nat) (m : List Nat), ns[j]? = some m → Nm pl.toNat (97 + ((first + 7 * (j : Int)) % 26).toNat) m) ⟨[], _, _, _, rfl, rfl, (by intro j m h; cases h)⟩ ?_ ?_
    · rintro i u ρ hu ⟨ns, x8, x9, x10, rfl, hn, hN⟩
      obtain ⟨hi, rfl⟩ := rangeU_get hu
      have hi4 : i < 4 := by omega
      trivial
      have s0 : 0 ≤ (first + 7 * (0 + (i : Int))) % 26 := Int.emod_nonneg _ (by decide)
      have s1 : (first + 7 * (0 + (i : Int))) % 26 < 26 := Int.emod_lt_of_pos _ (by decide)
      refine wp_letter s0 s1 ?_
      rw [cutS_S, cutS_S, sIx_at h4, sIx_at (Int.emod_nonneg _ (by decide)), sIx_at h4]
      have np := name_mk (l := l) (p := pl.toNat) (q := min ((turn + (0 + (i : Int))) % 4).toNat l.length - min pl.toNat l.length) (c := 97 + ((first + 7 * (i : Int)) % 26).toNat) hl3 hL ⟨by omega, by omega⟩ (by omega)
      have e0 : min pl.toNat l.length = pl.toNat := by omega
      have e1 : HT.sIx l.length 0 none = 0 := rfl
      rw [e0] at np
      rw [e0, e1, Nat.sub_zero, List.drop_zero, Int.zero_add]
      have ew : ∀ (b : Bool) (w : List Nat), b = b → Nm pl.toNat (97 + ((first + 7 * (i : Int)) % 26).toNat) w → ∃ (ns' : List (List Nat)) (x8 x9 x10 : En), [En.ow (fd f5), .sh (.int many), .sh (.str (Str.ofString "abcdefghijklmnopqrstuvwxyz")), .sh (.str (S l)), .sh (.int first), .sh (.int pl), .sh (.int turn), .ow (.list (ns.map uS ++ [uS w])), .sh (.int (i : Int)), .sh (.str (S [97 + ((first + 7 * (i : Int)) % 26).toNat])), .sh (.str (S w))] =
          [.ow (fd f5), .sh (.int many), .sh (.str (Str.ofString "abcdefghijklmnopqrstuvwxyz")), .sh (.str (S l)), .sh (.int first), .sh (.int pl), .sh (.int turn), .ow (.list (ns'.map uS)), x8, x9, x10] ∧ ns'.length = i + 1 ∧ ∀ (j : Nat) (m : List Nat), ns'[j]? = some m → Nm pl.toNat (97 + ((first + 7 * (j : Int)) % 26).toNat) m := by
        intro b w _ hw
        refine ⟨ns ++ [w], _, _, _, by rw [List.map_append]; rfl, by rw [List.length_append, List.length_singleton, hn], fun j m hj => ?_⟩
        by_cases h : j < ns.length
        · rw [List.getElem?_append_left h] at hj
          exact hN j m hj
        · rw [List.getElem?_append_right (by omega)] at hj
          have hj0 : j = i := by
            have := (List.getElem?_eq_some_iff.mp hj).1
            rw [List.length_singleton] at this
            omega
          subst hj0
          rw [hn, Nat.sub_self] at hj
          cases hj
          exact hw
      rw [Int.zero_add] at np
      have hl0 : ns.length < sizeLine := by show _ < 2 ^ 24; omega
      have z7 := np.2
      rw [List.length_append] at z7
      refine wp_strcat (b := [97 + ((first + 7 * (i : Int)) % 26).toNat]) (by rw [List.length_append] at z7; omega) ?_
      refine wp_strcat (by omega) ?_
      refine ⟨by decide, wp_inT rfl rfl fun b => ?_⟩
      cases b with
      | true =>
        trivial
        rw [q_S]
        refine wp_strcat (by rw [List.length_append] ; rw [List.length_singleton]; omega) ?_
        exact ⟨hl0, ew true _ rfl (name_q np.1 np.2)⟩
      | false =>
        trivial
        exact ⟨hl0, ew true _ rfl np.1⟩
    · rintro ρ' ⟨ns, x8, x9, x10, rfl, hn, hN⟩
      rw [rangeU_len] at hn
      have one : ∀ m ∈ ns, (∀ x ∈ m, Low x) ∧ 1 ≤ m.length ∧ m.length ≤ 8 := by
        intro m hm
        obtain ⟨j, hj⟩ := List.mem_iff_getElem?.mp hm
        have h := hN j m hj
        have q := (List.getElem?_eq_some_iff.mp h.1).1
        exact ⟨h.2.1, by omega, by have := h.2.2; omega⟩
      have fin : Nms ns := fun m hm => ⟨(one m hm).1, (one m hm).2.1, by have := (one m hm).2.2; omega⟩
      obtain ⟨c, hc⟩ : ∃ c, ns[many.toNat - 2]? = some c := ⟨_, List.getElem?_eq_getElem (by omega)⟩
      have hcm := one c (List.mem_of_getElem? hc)
      have y1 : atI (List.map uS ns) (-2) = some (uS c) := by
        refine atI_neg (by decide) (by rw [List.length_map]; omega) ?_
        rw [List.length_map, List.getElem?_map, show ((-2 : Int) + (ns.length : Int)).toNat = many.toNat - 2 by omega, hc]
        rfl
      trivial
      refine wp_if (fun h1 => ?_) (fun h1 => ?_)
      · trivial
        rw [y1]
        trivial
        refine wp_if (fun hc3 => ?_) (fun h => ?_)
        · trivial
          refine wp_take (by decide) fun r6 f6 h8 h9 => ?_
          trivial
          refine wp_if (fun h => ?_) (fun h => ?_)
          · trivial
            rw [y1]
            trivial
            rw [q_S]
            refine wp_strcat (by simp only [List.length_cons, List.length_nil]; omega) ?_
            have ix : ixN ns.length (-1) = some (ns.length - 1) := by
              unfold ixN
              rw [if_neg (by decide), if_pos (by omega), show ((-1 : Int) + (ns.length : Int)).toNat = ns.length - 1 by omega]
            rw [ix]
            trivial
            have e : (List.map uS ns).set (ns.length - 1) (PyData.str (S (c ++ [113]))) = (ns.set (ns.length - 1) (c ++ [113])).map uS := by rw [List.map_set]
            rw [e]
            refine k _ _ (fun m hm => ?_) (by rw [List.length_set]; exact hn)
            rcases List.mem_or_eq_of_mem_set hm with hm | rfl
            · exact fin m hm
            · refine ⟨fun x hx => ?_, by rw [List.length_append]; omega, by rw [List.length_append, List.length_singleton]; omega⟩
              rcases List.mem_append.mp hx with hx | hx
              · exact hcm.1 x hx
              · rw [List.mem_singleton.mp hx]; exact ⟨by decide, by decide⟩
          · trivial
            exact k ns _ fin hn
        · trivial
          exact k ns _ fin hn
      · trivial
        exact k ns _ fin hn
end G
namespace G
open PySem PySem.Spec PyProof.Rows L2
open SX (S S_tl S_inj S_len S_cat)
/-- upper of one small letter -/
theorem upper_one {c : Nat} (h : Low c) : Txt.upper (S [c]) = S [c - 32] := by
  have q : ∀ i : Fin 26, Txt.upper (S [97 + i.val]) = S [97 + i.val - 32] := by decide +kernel
  obtain ⟨h1, h2⟩ := h
  have := q ⟨c - 97, by omega⟩
  have e : 97 + (c - 97) = c := by omega
  simpa [e] using this
def up (m : List Nat) : List Nat := match m with
  | [] => []
  | c :: r => (c - 32) :: r
theorem up_inj {a b : List Nat} (ha : (∀ x ∈ a, Low x) ∧ 1 ≤ a.length) (hb : (∀ x ∈ b, Low x) ∧ 1 ≤ b.length) (h : up a = up b) : a = b := by
  match a, b, ha, hb with
  | c :: r, d :: t, ha, hb =>
    have h' : (c - 32) :: r = (d - 32) :: t := h
    have e1 := (List.cons.inj h').1
    have e2 := (List.cons.inj h').2
    have h1 := ha.1 c (List.mem_cons_self ..)
    have h2 := hb.1 d (List.mem_cons_self ..)
    obtain ⟨h1, _⟩ := h1
    obtain ⟨h2, _⟩ := h2
    rw [e2, show c = d by omega]
theorem nodup_up : ∀ {ns : List (List Nat)}, (∀ m ∈ ns, (∀ x ∈ m, Low x) ∧ 1 ≤ m.length ∧ m.length ≤ 9) → ns.Nodup → (ns.map up).Nodup
  | [], _, _ => List.nodup_nil
  | a :: r, h, d => by
    rw [List.map_cons, List.nodup_cons]
    rw [List.nodup_cons] at d
    refine ⟨fun hm => ?_, nodup_up (fun m hm => h m (List.mem_cons_of_mem _ hm)) d.2⟩
    obtain ⟨b, hb, e⟩ := List.mem_map.mp hm
    have ha := h a (List.mem_cons_self ..)
    have hb' := h b (List.mem_cons_of_mem _ hb)
    rw [up_inj ⟨hb'.1, hb'.2.1⟩ ⟨ha.1, ha.2.1⟩ e] at hb
    exact d.1 hb
theorem cutU_pre {xs : List U} {r : Int} (h : 0 ≤ r) : cutU xs none (some r) = xs.take r.toNat := by
  unfold cutU
  have e : HT.sIx xs.length 0 none = 0 := rfl
  rw [sIx_at h, e, List.drop_zero, Nat.sub_zero]
  rcases Nat.le_total r.toNat xs.length with q | q
  · rw [Nat.min_eq_left q]
  · rw [Nat.min_eq_right q, List.take_length, List.take_of_length_le q]
theorem cutU_suf {xs : List U} {r : Int} (h : 0 ≤ r) : cutU xs (some r) none = xs.drop r.toNat := by
  unfold cutU
  have e : HT.sIx xs.length xs.length none = xs.length := rfl
  rw [sIx_at h, e]
  rcases Nat.le_total r.toNat xs.length with q | q
  · rw [Nat.min_eq_left q]
    exact List.take_of_length_le (by rw [List.length_drop]; omega)
  · rw [Nat.min_eq_right q, List.drop_length, List.drop_eq_nil_of_le q, List.take_nil]
theorem cutS_pre {l : List Nat} {r : Int} (h : 0 ≤ r) : cutS (S l) none (some r) = S (l.take r.toNat) := by
  have e : HT.sIx l.length 0 none = 0 := rfl
  rw [cutS_S, sIx_at h, e, List.drop_zero, Nat.sub_zero]
  rcases Nat.le_total r.toNat l.length with q | q
  · rw [Nat.min_eq_left q]
  · rw [Nat.min_eq_right q, List.take_length, List.take_of_length_le q]
theorem cutS_suf {l : List Nat} {r : Int} (h : 0 ≤ r) : cutS (S l) (some r) none = S (l.drop r.toNat) := by
  have e : HT.sIx l.length l.length none = l.length := rfl
  rw [cutS_S, sIx_at h, e]
  rcases Nat.le_total r.toNat l.length with q | q
  · rw [Nat.min_eq_left q, List.take_of_length_le (by rw [List.length_drop]; exact Nat.le_refl _)]
  · rw [Nat.min_eq_right q, List.drop_length, List.drop_eq_nil_of_le q, List.take_nil]
theorem paired_map {α : Type} {f g : α → U} (hf : ∀ a b, f a = f b → a = b) {p : α → Prop} : ∀ {ms : List α} {zs : List U}, F2 (fun u z => ∃ m, u = f m ∧ z = g m) (ms.map f) zs → zs = ms.map g
  | [], _, h => by cases h; rfl
  | m :: ms, _, h => by
    cases h with | cons r t =>
    obtain ⟨m', e1, e2⟩ := r
    rw [hf _ _ e1] at *
    rw [e2, paired_map (p := p) hf t]
    rfl
theorem uS_inj (a b : List Nat) (h : uS a = uS b) : a = b := by
  injection h with h
  exact S_inj h
/-- a shape as the law draws it -/
structure Shp (fx : List U) (ac : List (List Nat × Int)) : Prop where
  lf : fx.length ≤ 4
  la : ac.length ≤ 4
  re : ∀ p ∈ ac, p.2 = 1 ∨ p.2 = 2
abbrev aU (p : List Nat × Int) : U := .tuple [uS p.1, .int p.2]
abbrev shU (fx : List U) (ac : List (List Nat × Int)) : U := .tuple [.tuple fx, .tuple (ac.map aU)]
theorem wp_shape {f : Int × Int} {Q : U × List U → Prop} (k : ∀ fx ac f', Shp fx ac → Q (shU fx ac, [fd f'])) : wp (m__law_shape [fd f]) Q := by
  unfold m__law_shape
  refine wp_def ?_
  unfold b__law_shape
  trivial
  refine wp_names (by decide) fun ns f1 hn hl => ?_
  have hl4 : ns.length = 4 := hl
  trivial
  refine wp_take (by decide) fun r f2 h0 h1 => ?_
  trivial
  rw [cutU_pre h0, ← List.map_take]
  have hsub : ∀ m ∈ ns.take r.toNat, (∀ x ∈ m, Low x) ∧ 1 ≤ m.length ∧ m.length ≤ 9 := fun m hm => hn m (List.mem_of_mem_take hm)
  refine wp_lc (fun ρ => ρ = [.ow (fd f2), .sh (.list (ns.map uS)), .no, .no, .no, .no, .no]) (fun u z => True) rfl ?_ ?_
  · rintro u ρ hu rfl
    obtain ⟨m, hm, rfl⟩ := List.mem_map.mp hu
    obtain ⟨hL, hl1, hl9⟩ := hsub m hm
    obtain ⟨c, r, rfl⟩ : ∃ c r, m = c :: r := by
      cases m with
      | nil => exact absurd hl1 (by decide)
      | cons c r => exact ⟨c, r, rfl⟩
    trivial
    rw [cutS_pre (by decide), cutS_suf (by decide)]
    have hc := hL c (List.mem_cons_self ..)
    have e1 : (c :: r).take (1 : Int).toNat = [c] := rfl
    have e2 : (c :: r).drop (1 : Int).toNat = r := rfl
    rw [e1, e2]
    refine ⟨_, (show gUpper (.str (S [c])) = some (.str (S [c - 32])) by show (if (S [c]).length ≤ 5592405 then some (PyData.str (Txt.upper (S [c]))) else none) = _; rw [if_pos (by rw [S_len]; exact (by decide : 1 ≤ 5592405)), upper_one hc]), ?_⟩
    rw [List.length_cons] at hl9
    refine wp_strcat (by rw [List.length_singleton]; omega) ?_
    exact True.intro
  · rintro zs ρ' hz rfl
    have hzl : zs.length ≤ 4 := by rw [← paired_len hz, List.length_map, List.length_take]; omega
    trivial
    refine wp_names (by decide) fun ns2 f3 hn2 hl2 => ?_
    have hl3 : ns2.length = 3 := hl2
    trivial
    refine ⟨by decide, ?_⟩
    refine wp_take (by decide) fun r2 f4 h2 h3 => ?_
    trivial
    refine wp_atI h2 (by simp only [List.length_cons, List.length_nil]; omega) fun x hx => ?_
    have hx4 : ∃ n : Nat, n ≤ 3 ∧ x = .int (n : Int) := by
      have := List.mem_of_getElem? hx
      simp only [List.mem_cons, List.not_mem_nil, or_false] at this
      rcases this with rfl | rfl | rfl | rfl | rfl | rfl | rfl | rfl
      · exact ⟨1, by decide, rfl⟩
      · exact ⟨2, by decide, rfl⟩
      · exact ⟨3, by decide, rfl⟩
      · exact ⟨2, by decide, rfl⟩
      · exact ⟨3, by decide, rfl⟩
      · exact ⟨1, by decide, rfl⟩
      · exact ⟨2, by decide, rfl⟩
      · exact ⟨0, by decide, rfl⟩
    obtain ⟨n, hn4, rfl⟩ := hx4
    trivial
    refine ⟨by omega, ?_⟩
    refine wp_lcN (fun i acc ρ => ∃ (ac : List (List Nat × Int)) (f' : Int × Int), acc = ac.map aU ∧ (∀ p ∈ ac, p.2 = 1 ∨ p.2 = 2) ∧ ρ = [.ow (fd f'), .sh (.list (ns.map uS)), .ow (.list zs), .sh (.list (ns2.map uS)), .no, .no, .no]) ⟨[], f4, rfl, (by intro p hp; cases hp), rfl⟩ ?_ ?_
    · rintro i acc u ρ hu ha ⟨ac, f5, rfl, hre, rfl⟩
      obtain ⟨hi, rfl⟩ := rangeU_get hu
      have hi4 : i < 3 := by rw [Int.toNat_natCast] at hi; omega
      obtain ⟨m, hm⟩ : ∃ m, ns2[i]? = some m := ⟨_, List.getElem?_eq_getElem (by omega)⟩
      trivial
      refine ⟨uS m, atI_at (by omega) (by rw [Int.zero_add, Int.toNat_natCast, List.getElem?_map, hm]; rfl), ?_⟩
      refine wp_take (by decide) fun r3 f6 h4 h5 => ?_
      trivial
      refine ⟨by decide, ac ++ [(m, 1 + r3)], f6, by rw [List.map_append]; rfl, fun p hp => ?_, rfl⟩
      rcases List.mem_append.mp hp with hp | hp
      · exact hre p hp
      · rw [List.mem_singleton.mp hp]
        show 1 + r3 = 1 ∨ 1 + r3 = 2
        omega
    · rintro zs2 ρ' hz2 ⟨ac, f5, rfl, hre, rfl⟩
      rw [rangeU_len, Int.toNat_natCast, List.length_map] at hz2
      trivial
      refine ⟨by decide, ?_⟩
      exact k zs ac f5 ⟨hzl, by omega, hre⟩
end G
namespace G
open PySem PySem.Spec PyProof.Rows L2
open SX (S S_tl S_inj S_len S_cat)
abbrev iU (cs : List Int) : U := .tuple (cs.map .int)
def Rng (n : Int) (cs : List Int) : Prop := ∀ c ∈ cs, 0 ≤ c ∧ c < n
/-- a deed's table -/
def Tab (n : Nat) (p : List Nat × Int) (t : U) : Prop := (p.2 = 1 ∧ ∃ cs : List Int, t = iU cs ∧ cs.length = n ∧ Rng n cs) ∨ (p.2 = 2 ∧ ∃ rs : List (List Int), t = .tuple (rs.map iU) ∧ rs.length = n ∧ ∀ cs ∈ rs, cs.length = n ∧ Rng n cs)
structure Wld (fx : List U) (ac : List (List Nat × Int)) (n : Nat) (cs : List Int) (ts : List U) : Prop where
  n0 : 0 < n
  n1 : n ≤ 100
  lc : cs.length = fx.length
  rg : Rng n cs
  tb : F2 (fun p t => Tab n p t) ac ts
abbrev wU (n : Nat) (cs : List Int) (ts : List U) : U := .tuple [.int (n : Int), iU cs, .tuple ts]
theorem wp_row {n : Nat} {f : Int × Int} {Q : List U × Rho → Prop} {g : MG} {me : MX} {vs : List Nat} {us : List U} {mk : Int × Int → Rho}
    (hs : ∀ u f', u ∈ us → wp (g u (mk f')) fun ρ1 => wp (me ρ1) fun q => wp (asVal q.1) fun z => ∃ c f'', z = .int c ∧ (0 ≤ c ∧ c < (n : Int)) ∧ wipeR q.2 vs = mk f'')
    (k : ∀ (cs : List Int) f', cs.length = us.length → Rng n cs → Q (cs.map .int, mk f')) : wp (mLcLoop g mYes me vs us [] (mk f)) Q := by
  refine wp_lc (fun ρ => ∃ f', ρ = mk f') (fun _ z => ∃ c : Int, (0 ≤ c ∧ c < (n : Int)) ∧ z = .int c) ⟨f, rfl⟩ ?_ ?_
  · rintro u ρ hu ⟨f', rfl⟩
    refine wp_mono (hs u f' hu) fun ρ1 h => ?_
    refine ⟨(true, ρ1), rfl, rfl, wp_mono h fun q h => wp_mono h fun z h => ?_⟩
    obtain ⟨c, f'', e1, e3, e2⟩ := h
    exact ⟨⟨c, e3, e1⟩, f'', e2⟩
  · rintro zs ρ' hz ⟨f', rfl⟩
    obtain ⟨cs, rfl, hr, hl⟩ := paired_fun hz
    exact k cs f' hl hr
theorem paired_snoc {α β : Type} {R : α → β → Prop} {as : List α} {bs : List β} {a : α} {b : β} (h : F2 R as bs) (r : R a b) : F2 R (as ++ [a]) (bs ++ [b]) := _root_.PySem.Paired.snoc h r
theorem wp_world {f : Int × Int} {n : Nat} {fx : List U} {ac : List (List Nat × Int)} {Q : U × List U → Prop} (hn : 0 < n ∧ n ≤ 100) (hS : Shp fx ac) (k : ∀ cs ts f', Wld fx ac n cs ts → Q (wU n cs ts, [fd f', shU fx ac, .int (n : Int)])) : wp (m__law_world [fd f, shU fx ac, .int (n : Int)]) Q := by
  unfold m__law_world
  refine wp_def ?_
  unfold b__law_world
  trivial
  refine wp_row (n := n) (mk := fun f' => [.ow (fd f'), .sh (shU fx ac), .sh (.int (n : Int)), .no, .no, .no, .no, .no, .no, .no]) (fun u f' hu => ?_) fun cs f1 hcs hrg => ?_
  · trivial
    refine wp_take (by omega) fun r2 f3 h2 h3 => ?_
    trivial
    exact ⟨_, _, rfl, ⟨h2, h3⟩, rfl⟩
  · trivial
    refine ⟨by decide, ?_⟩
    refine wp_loopN (fun i ρ => ∃ (f' : Int × Int) (ts : List U) (x5 x6 : En), F2 (fun p t => Tab n p t) (ac.take i) ts ∧ ts.length ≤ i ∧ ρ = [.ow (fd f'), .sh (shU fx ac), .sh (.int (n : Int)), .sh (iU cs), .ow (.list ts), x5, x6, .no, .no, .no]) ⟨f1, [], _, _, .nil, Nat.le_refl _, rfl⟩ ?_ ?_
    · rintro i u ρ hu ⟨f2, ts, x5, x6, hts, hl, rfl⟩
      rw [List.getElem?_map] at hu
      obtain ⟨p, hp, rfl⟩ : ∃ p, ac[i]? = some p ∧ u = aU p := by
        cases e : ac[i]? with
        | none => rw [e] at hu; cases hu
        | some p => rw [e] at hu; exact ⟨p, rfl, (Option.some.inj hu).symm⟩
      have hi : i < ac.length := (List.getElem?_eq_some_iff.mp hp).1
      have hi4 : i < 4 := Nat.lt_of_lt_of_le hi hS.la
      have hre := hS.re p (List.mem_of_getElem? hp)
      have tk : ac.take (i + 1) = ac.take i ++ [p] := by rw [List.take_add_one, hp]; rfl
      have hsz : ts.length < sizeLine := by show _ < 2 ^ 24; omega
      have hrng : -16777216 ≤ (n : Int) ∧ (n : Int) ≤ 16777216 := by omega
      trivial
      refine wp_if (fun h => ?_) (fun h => ?_)
      · trivial
        refine ⟨hrng, ?_⟩
        refine wp_row (n := n) (mk := fun f' => [.ow (fd f'), .sh (shU fx ac), .sh (.int (n : Int)), .sh (iU cs), .ow (.list ts), .sh (.str (S p.1)), .sh (.int p.2), .no, .no, .no]) (fun u f' hu => ?_) fun c1 f3 hc1 hr1 => ?_
        · trivial
          refine wp_take (by omega) fun r2 f3 h2 h3 => ?_
          trivial
          exact ⟨_, _, rfl, ⟨h2, h3⟩, rfl⟩
        · trivial
          rw [rangeU_len, Int.toNat_natCast] at hc1
          refine ⟨hsz, f3, _, _, _, ?_, ?_, rfl⟩
          · rw [tk]
            exact paired_snoc hts (.inl ⟨h, c1, rfl, hc1, hr1⟩)
          · rw [List.length_append, List.length_singleton]; omega
      · trivial
        refine ⟨hrng, ?_⟩
        refine wp_lc (fun ρ => ∃ f' : Int × Int, ρ = [.ow (fd f'), .sh (shU fx ac), .sh (.int (n : Int)), .sh (iU cs), .ow (.list ts), .sh (.str (S p.1)), .sh (.int p.2), .no, .no, .no]) (fun _ z => ∃ c1 : List Int, (c1.length = n ∧ Rng n c1) ∧ z = iU c1) ⟨f2, rfl⟩ ?_ ?_
        · rintro u ρ hu ⟨f3, rfl⟩
          trivial
          refine ⟨hrng, ?_⟩
          refine wp_row (n := n) (mk := fun f' => [.ow (fd f'), .sh (shU fx ac), .sh (.int (n : Int)), .sh (iU cs), .ow (.list ts), .sh (.str (S p.1)), .sh (.int p.2), .no, .no, .sh u]) (fun u' f' hu => ?_) fun c1 f4 hc1 hr1 => ?_
          · trivial
            refine wp_take (by omega) fun r2 f3 h2 h3 => ?_
            trivial
            exact ⟨_, _, rfl, ⟨h2, h3⟩, rfl⟩
          · trivial
            rw [rangeU_len, Int.toNat_natCast] at hc1
            exact ⟨⟨c1, ⟨hc1, hr1⟩, rfl⟩, f4, rfl⟩
        · rintro zs ρ' hz ⟨f3, rfl⟩
          obtain ⟨rs, rfl, hrs, hl2⟩ := paired_fun hz
          rw [rangeU_len, Int.toNat_natCast] at hl2
          trivial
          refine ⟨hsz, f3, _, _, _, ?_, ?_, rfl⟩
          · rw [tk]
            exact paired_snoc hts (.inr ⟨by omega, rs, rfl, hl2, hrs⟩)
          · rw [List.length_append, List.length_singleton]; omega
    · rintro ρ' ⟨f2, ts, x5, x6, hts, hl, rfl⟩
      rw [List.length_map, List.take_length] at hts
      trivial
      refine ⟨by decide, ?_⟩
      exact k cs ts f2 ⟨hn.1, hn.2, hcs, hrg, hts⟩
end G
namespace G
open PySem PySem.Spec PyProof.Rows L2
open SX (S S_tl S_inj S_len S_cat)
theorem pow1018 : gPow (.int 10) (.int 18) = some (.int 1000000000000000000) := by
  rw [gPow_int (by decide)]
  rfl
theorem wp_feed {ns : List Int} {i : Int} {Q : U × List U → Prop} (hn : ns.length ≤ 63) (hi : 0 ≤ i) (k : ∀ f, Q (fd f, [.list (ns.map .int), .int i])) : wp (m__law_feed [.list (ns.map .int), .int i]) Q := by
  unfold m__law_feed
  refine wp_def ?_
  unfold b__law_feed
  trivial
  refine wp_if (fun h1 => ?_) (fun h1 => ?_)
  · obtain ⟨c, hc⟩ : ∃ c, ns[i.toNat]? = some c := ⟨_, List.getElem?_eq_getElem (by omega)⟩
    trivial
    refine ⟨.int c, atI_at hi (by rw [List.getElem?_map, hc]; rfl), ?_⟩
    trivial
    rw [pow1018]
    trivial
    refine wp_if (fun h => ?_) (fun h => ?_)
    all_goals trivial
    all_goals exact ⟨by decide, k (_, _)⟩
  · refine wp_if (fun h2 => ?_) (fun h2 => ?_)
    · have hm0 : 0 ≤ i % (ns.length : Int) := Int.emod_nonneg _ (by omega)
      have hm1 : i % (ns.length : Int) < (ns.length : Int) := Int.emod_lt_of_pos _ h2
      obtain ⟨c, hc⟩ : ∃ c, ns[(i % (ns.length : Int)).toNat]? = some c := ⟨_, List.getElem?_eq_getElem (by omega)⟩
      trivial
      refine ⟨h2, .int c, atI_at hm0 (by rw [List.getElem?_map, hc]; rfl), ?_⟩
      trivial
      rw [pow1018]
      trivial
      refine wp_if (fun h => ?_) (fun h => ?_)
      all_goals trivial
      all_goals exact ⟨by decide, k (_, _)⟩
    · trivial
      rw [pow1018]
      trivial
      refine wp_if (fun h => ?_) (fun h => ?_)
      all_goals trivial
      all_goals exact ⟨by decide, k (_, _)⟩
/-- a world of the shape -/
def AWld (fx : List U) (ac : List (List Nat × Int)) (w : U) : Prop := ∃ n cs ts, n ≤ 4 ∧ w = wU n cs ts ∧ Wld fx ac n cs ts
theorem wp_one {f : Int × Int} {fx : List U} {ac : List (List Nat × Int)} {r : Int} {Q : U × List U → Prop} (hr : 0 ≤ r ∧ r < 4) (hS : Shp fx ac) (k : ∀ w f', AWld fx ac w → Q (w, [fd f', shU fx ac, .int (1 + r)])) : wp (m__law_world [fd f, shU fx ac, .int (1 + r)]) Q := by
  obtain ⟨N, hN, e⟩ : ∃ N : Nat, (0 < N ∧ N ≤ 4) ∧ 1 + r = (N : Int) := ⟨(1 + r).toNat, by omega, by omega⟩
  rw [e] at k ⊢
  exact wp_world ⟨hN.1, by omega⟩ hS fun cs ts f' hW => k _ _ ⟨N, cs, ts, hN.2, rfl, hW⟩
theorem wp_worlds {f : Int × Int} {fx : List U} {ac : List (List Nat × Int)} {Q : U × List U → Prop} (hS : Shp fx ac) (k : ∀ ws f', 1 ≤ ws.length → ws.length ≤ 3 → (∀ w ∈ ws, AWld fx ac w) → Q (.tuple ws, [fd f', shU fx ac])) : wp (m__law_worlds [fd f, shU fx ac]) Q := by
  unfold m__law_worlds
  refine wp_def ?_
  unfold b__law_worlds
  trivial
  refine ⟨by decide, ?_⟩
  refine wp_take (by decide) fun r f1 h0 h1 => ?_
  trivial
  have hx : ∃ n : Int, (n = 3 ∨ n = 4) ∧ atI [PyData.int 4, .int 4, .int 3] r = some (.int n) := by
    have : r = 0 ∨ r = 1 ∨ r = 2 := by omega
    rcases this with rfl | rfl | rfl
    · exact ⟨4, .inr rfl, rfl⟩
    · exact ⟨4, .inr rfl, rfl⟩
    · exact ⟨3, .inl rfl, rfl⟩
  obtain ⟨n, hn, hx⟩ := hx
  rw [hx]
  trivial
  refine wp_take (by omega) fun r2 f2 h2 h3 => ?_
  trivial
  refine wp_one ⟨h2, by omega⟩ hS fun w1 f3 hw1 => ?_
  trivial
  refine ⟨by decide, ?_⟩
  refine wp_take (by decide) fun r3 f4 h4 h5 => ?_
  trivial
  have H : ∀ (ws : List U) (f5 : Int × Int), 1 ≤ ws.length → ws.length ≤ 2 → (∀ w ∈ ws, AWld fx ac w) → wp (mSeq (mIfS ((mAnd (mTest (mBin gEq (mPeek 2) (mC (.int 3)))) (mTest (mBin gGt (mCall [true, false] m__law_take (mCons (mPeek 0) (mCons (mC (.int 3)) mNil))) (mC (.int 0))))))
   ((mDrop (mMut gAppend 3 (mCons (mCall [true, false, false] m__law_world (mCons (mPeek 0) (mCons (mName 1) (mCons (mBin gPlus (mC (.int 1)) (mCall [true, false] m__law_take (mCons (mPeek 0) (mCons (mC (.int 3)) mNil)))) mNil)))) mNil))))
   (mSkip))
   (mRet (mBi gTuple (mCons (mPeek 3) mNil))) [.ow (fd f5), .sh (shU fx ac), .sh (.int n), .ow (.list ws)]) (kDef [true, false] false [fd f, shU fx ac] Q) := by
    intro ws f5 hl1 hl2 hws
    have hz : ws.length < sizeLine := by show _ < 2 ^ 24; omega
    trivial
    refine wp_if (fun h => ?_) (fun h => ?_)
    · trivial
      refine wp_take (by decide) fun r4 f6 h6 h7 => ?_
      trivial
      refine wp_if (fun h => ?_) (fun h => ?_)
      · trivial
        refine wp_take (by decide) fun r5 f7 h8 h9 => ?_
        trivial
        refine wp_one ⟨h8, by omega⟩ hS fun w3 f8 hw3 => ?_
        trivial
        refine ⟨hz, ?_⟩
        refine k _ f8 (by rw [List.length_append, List.length_singleton]; omega) (by rw [List.length_append, List.length_singleton]; omega) fun w hw => ?_
        rcases List.mem_append.mp hw with hw | hw
        · exact hws w hw
        · rw [List.mem_singleton.mp hw]; exact hw3
      · trivial
        exact k ws f6 hl1 (by omega) hws
    · trivial
      exact k ws f5 hl1 (by omega) hws
  refine wp_if (fun h => ?_) (fun h => ?_)
  · simp only [G.mName_ap, G.mPeek_ap, G.mC_ap, G.mSh_ap, G.mBin_ap, G.mBinF_ap, G.mTest_ap, G.mChain_ap, G.mAnd_ap, G.mOr_ap, G.mNot_ap, G.mAndV_ap, G.mOrV_ap, G.mNotV_ap, G.mIf_ap, G.mNil_ap, G.mCons_ap, G.mTup_ap, G.mLst_ap, G.mCall_ap, G.mCallF_ap, G.mSkip_ap, G.mBreak_ap, G.mCont_ap, G.mDrop_ap, G.mRet_ap, G.mRetF_ap, G.mRetO_ap, G.mOwn_ap, G.mRetN_ap, G.mIfS_ap, G.mPut_ap, G.mSet_ap, G.mSetF_ap, G.mgNil_ap, G.mgCons_ap, G.mgTup_ap, G.mAsg_ap, G.mPar_ap, G.mFor_ap, G.mYes_ap, G.mLC_ap, G.mIter_ap, G.mRange1_ap, G.mRange2_ap, G.moNone_ap, G.moSome_ap, G.mSl_ap, G.mSlF_ap, G.mBi_ap, G.mBiF_ap, G.mIsi_ap, G.mUn_ap, G.mJoin_ap, G.mStore_ap, G.mIndex_ap, G.mMut_ap, G.kSeq_nx, G.kSeq_bk, G.kSeq_ct, G.kSeq_rt, G.kDef_nx, G.kDef_rt, G.wp_ite_none, G.deref, G.asVal, G.vals, G.derefs, G.asInts, G.asStr, G.isOw, G.isL, G.itemsOf, G.ownIx, G.argOk, G.wb, G.argsRho, G.enOf, G.pickBack, G.wipeR, G.unwipe, List.replicate_succ, List.replicate_zero, G.wp_some, G.wp_bind, Option.bind_some, Option.bind_none, List.getElem?_cons_zero, List.getElem?_cons_succ, List.set_cons_zero, List.set_cons_succ, List.set_nil, List.getElem?_nil, List.cons_append, List.nil_append, List.length_cons, List.length_nil, List.nodup_nil, List.nodup_cons, List.not_mem_nil, not_false_eq_true, and_self, and_true, true_and, if_true, if_false, ite_true, ite_false, reduceIte, Bool.false_eq_true, List.mem_cons, or_false, or_self, Bool.true_eq_false, G.gPlus_int, G.gSub_int, G.gLt_int, G.gLe_int, G.gGt_int, G.gGe_int, G.gEq_int, G.gNe_int, G.gEq_str, G.gNe_str, G.gIx_list, G.gIx_tuple, G.gIx_str, G.gLen, G.gTuple, G.gList, G.gNeg, G.gAppend, Nat.zero_add, Nat.reduceAdd, Nat.reduceLT, Nat.reduceLeDiff, Nat.lt_add_one, decide_true, decide_false, Bool.not_true, Bool.not_false, reduceCtorEq, Nat.reduceEqDiff, List.length_set, List.length_map, List.nodup_nil, List.mem_nil_iff, eq_self, G.wp_gMul, G.wp_gMod, G.wp_gFdiv, G.atI_0, G.atI_1, G.atI_2, G.atI_3, G.ixN_20, G.ixN_21, G.gIn_def, G.gNotIn_def, G.gSl_str, G.gSl_tup, G.gSl_list, Int.reduceLT, Int.reduceLE, Int.reducePow, Int.reduceNeg, Int.reduceAdd, Int.reduceSub, or_true, true_or, Bool.decide_eq_true, decide_eq_true_eq, true_implies, false_implies, G.mStoreD_ap, G.mDict0_ap, G.mEnum_ap, G.mZip_ap, G.dxU_mk, G.seqU_list, G.seqU_tuple, G.gIxD_mk, G.gInD_mk, G.gNotInD_mk, G.gLenD_mk, G.sameSeq_list, G.sameSeq_tuple, G.gExtend]
    refine wp_take (by omega) fun r4 f6 h6 h7 => ?_
    simp only [G.mName_ap, G.mPeek_ap, G.mC_ap, G.mSh_ap, G.mBin_ap, G.mBinF_ap, G.mTest_ap, G.mChain_ap, G.mAnd_ap, G.mOr_ap, G.mNot_ap, G.mAndV_ap, G.mOrV_ap, G.mNotV_ap, G.mIf_ap, G.mNil_ap, G.mCons_ap, G.mTup_ap, G.mLst_ap, G.mCall_ap, G.mCallF_ap, G.mSkip_ap, G.mBreak_ap, G.mCont_ap, G.mDrop_ap, G.mRet_ap, G.mRetF_ap, G.mRetO_ap, G.mOwn_ap, G.mRetN_ap, G.mIfS_ap, G.mPut_ap, G.mSet_ap, G.mSetF_ap, G.mgNil_ap, G.mgCons_ap, G.mgTup_ap, G.mAsg_ap, G.mPar_ap, G.mFor_ap, G.mYes_ap, G.mLC_ap, G.mIter_ap, G.mRange1_ap, G.mRange2_ap, G.moNone_ap, G.moSome_ap, G.mSl_ap, G.mSlF_ap, G.mBi_ap, G.mBiF_ap, G.mIsi_ap, G.mUn_ap, G.mJoin_ap, G.mStore_ap, G.mIndex_ap, G.mMut_ap, G.kSeq_nx, G.kSeq_bk, G.kSeq_ct, G.kSeq_rt, G.kDef_nx, G.kDef_rt, G.wp_ite_none, G.deref, G.asVal, G.vals, G.derefs, G.asInts, G.asStr, G.isOw, G.isL, G.itemsOf, G.ownIx, G.argOk, G.wb, G.argsRho, G.enOf, G.pickBack, G.wipeR, G.unwipe, List.replicate_succ, List.replicate_zero, G.wp_some, G.wp_bind, Option.bind_some, Option.bind_none, List.getElem?_cons_zero, List.getElem?_cons_succ, List.set_cons_zero, List.set_cons_succ, List.set_nil, List.getElem?_nil, List.cons_append, List.nil_append, List.length_cons, List.length_nil, List.nodup_nil, List.nodup_cons, List.not_mem_nil, not_false_eq_true, and_self, and_true, true_and, if_true, if_false, ite_true, ite_false, reduceIte, Bool.false_eq_true, List.mem_cons, or_false, or_self, Bool.true_eq_false, G.gPlus_int, G.gSub_int, G.gLt_int, G.gLe_int, G.gGt_int, G.gGe_int, G.gEq_int, G.gNe_int, G.gEq_str, G.gNe_str, G.gIx_list, G.gIx_tuple, G.gIx_str, G.gLen, G.gTuple, G.gList, G.gNeg, G.gAppend, Nat.zero_add, Nat.reduceAdd, Nat.reduceLT, Nat.reduceLeDiff, Nat.lt_add_one, decide_true, decide_false, Bool.not_true, Bool.not_false, reduceCtorEq, Nat.reduceEqDiff, List.length_set, List.length_map, List.nodup_nil, List.mem_nil_iff, eq_self, G.wp_gMul, G.wp_gMod, G.wp_gFdiv, G.atI_0, G.atI_1, G.atI_2, G.atI_3, G.ixN_20, G.ixN_21, G.gIn_def, G.gNotIn_def, G.gSl_str, G.gSl_tup, G.gSl_list, Int.reduceLT, Int.reduceLE, Int.reducePow, Int.reduceNeg, Int.reduceAdd, Int.reduceSub, or_true, true_or, Bool.decide_eq_true, decide_eq_true_eq, true_implies, false_implies, G.mStoreD_ap, G.mDict0_ap, G.mEnum_ap, G.mZip_ap, G.dxU_mk, G.seqU_list, G.seqU_tuple, G.gIxD_mk, G.gInD_mk, G.gNotInD_mk, G.gLenD_mk, G.sameSeq_list, G.sameSeq_tuple, G.gExtend]
    refine wp_one ⟨h6, by omega⟩ hS fun w2 f7 hw2 => ?_
    simp only [G.mName_ap, G.mPeek_ap, G.mC_ap, G.mSh_ap, G.mBin_ap, G.mBinF_ap, G.mTest_ap, G.mChain_ap, G.mAnd_ap, G.mOr_ap, G.mNot_ap, G.mAndV_ap, G.mOrV_ap, G.mNotV_ap, G.mIf_ap, G.mNil_ap, G.mCons_ap, G.mTup_ap, G.mLst_ap, G.mCall_ap, G.mCallF_ap, G.mSkip_ap, G.mBreak_ap, G.mCont_ap, G.mDrop_ap, G.mRet_ap, G.mRetF_ap, G.mRetO_ap, G.mOwn_ap, G.mRetN_ap, G.mIfS_ap, G.mPut_ap, G.mSet_ap, G.mSetF_ap, G.mgNil_ap, G.mgCons_ap, G.mgTup_ap, G.mAsg_ap, G.mPar_ap, G.mFor_ap, G.mYes_ap, G.mLC_ap, G.mIter_ap, G.mRange1_ap, G.mRange2_ap, G.moNone_ap, G.moSome_ap, G.mSl_ap, G.mSlF_ap, G.mBi_ap, G.mBiF_ap, G.mIsi_ap, G.mUn_ap, G.mJoin_ap, G.mStore_ap, G.mIndex_ap, G.mMut_ap, G.kSeq_nx, G.kSeq_bk, G.kSeq_ct, G.kSeq_rt, G.kDef_nx, G.kDef_rt, G.wp_ite_none, G.deref, G.asVal, G.vals, G.derefs, G.asInts, G.asStr, G.isOw, G.isL, G.itemsOf, G.ownIx, G.argOk, G.wb, G.argsRho, G.enOf, G.pickBack, G.wipeR, G.unwipe, List.replicate_succ, List.replicate_zero, G.wp_some, G.wp_bind, Option.bind_some, Option.bind_none, List.getElem?_cons_zero, List.getElem?_cons_succ, List.set_cons_zero, List.set_cons_succ, List.set_nil, List.getElem?_nil, List.cons_append, List.nil_append, List.length_cons, List.length_nil, List.nodup_nil, List.nodup_cons, List.not_mem_nil, not_false_eq_true, and_self, and_true, true_and, if_true, if_false, ite_true, ite_false, reduceIte, Bool.false_eq_true, List.mem_cons, or_false, or_self, Bool.true_eq_false, G.gPlus_int, G.gSub_int, G.gLt_int, G.gLe_int, G.gGt_int, G.gGe_int, G.gEq_int, G.gNe_int, G.gEq_str, G.gNe_str, G.gIx_list, G.gIx_tuple, G.gIx_str, G.gLen, G.gTuple, G.gList, G.gNeg, G.gAppend, Nat.zero_add, Nat.reduceAdd, Nat.reduceLT, Nat.reduceLeDiff, Nat.lt_add_one, decide_true, decide_false, Bool.not_true, Bool.not_false, reduceCtorEq, Nat.reduceEqDiff, List.length_set, List.length_map, List.nodup_nil, List.mem_nil_iff, eq_self, G.wp_gMul, G.wp_gMod, G.wp_gFdiv, G.atI_0, G.atI_1, G.atI_2, G.atI_3, G.ixN_20, G.ixN_21, G.gIn_def, G.gNotIn_def, G.gSl_str, G.gSl_tup, G.gSl_list, Int.reduceLT, Int.reduceLE, Int.reducePow, Int.reduceNeg, Int.reduceAdd, Int.reduceSub, or_true, true_or, Bool.decide_eq_true, decide_eq_true_eq, true_implies, false_implies, G.mStoreD_ap, G.mDict0_ap, G.mEnum_ap, G.mZip_ap, G.dxU_mk, G.seqU_list, G.seqU_tuple, G.gIxD_mk, G.gInD_mk, G.gNotInD_mk, G.gLenD_mk, G.sameSeq_list, G.sameSeq_tuple, G.gExtend]
    refine ⟨by decide, ?_⟩
    refine H [w1, w2] f7 (by simp) (by simp) fun w hw => ?_
    simp only [List.mem_cons, List.not_mem_nil, or_false] at hw
    rcases hw with rfl | rfl
    · exact hw1
    · exact hw2
  · simp only [G.mName_ap, G.mPeek_ap, G.mC_ap, G.mSh_ap, G.mBin_ap, G.mBinF_ap, G.mTest_ap, G.mChain_ap, G.mAnd_ap, G.mOr_ap, G.mNot_ap, G.mAndV_ap, G.mOrV_ap, G.mNotV_ap, G.mIf_ap, G.mNil_ap, G.mCons_ap, G.mTup_ap, G.mLst_ap, G.mCall_ap, G.mCallF_ap, G.mSkip_ap, G.mBreak_ap, G.mCont_ap, G.mDrop_ap, G.mRet_ap, G.mRetF_ap, G.mRetO_ap, G.mOwn_ap, G.mRetN_ap, G.mIfS_ap, G.mPut_ap, G.mSet_ap, G.mSetF_ap, G.mgNil_ap, G.mgCons_ap, G.mgTup_ap, G.mAsg_ap, G.mPar_ap, G.mFor_ap, G.mYes_ap, G.mLC_ap, G.mIter_ap, G.mRange1_ap, G.mRange2_ap, G.moNone_ap, G.moSome_ap, G.mSl_ap, G.mSlF_ap, G.mBi_ap, G.mBiF_ap, G.mIsi_ap, G.mUn_ap, G.mJoin_ap, G.mStore_ap, G.mIndex_ap, G.mMut_ap, G.kSeq_nx, G.kSeq_bk, G.kSeq_ct, G.kSeq_rt, G.kDef_nx, G.kDef_rt, G.wp_ite_none, G.deref, G.asVal, G.vals, G.derefs, G.asInts, G.asStr, G.isOw, G.isL, G.itemsOf, G.ownIx, G.argOk, G.wb, G.argsRho, G.enOf, G.pickBack, G.wipeR, G.unwipe, List.replicate_succ, List.replicate_zero, G.wp_some, G.wp_bind, Option.bind_some, Option.bind_none, List.getElem?_cons_zero, List.getElem?_cons_succ, List.set_cons_zero, List.set_cons_succ, List.set_nil, List.getElem?_nil, List.cons_append, List.nil_append, List.length_cons, List.length_nil, List.nodup_nil, List.nodup_cons, List.not_mem_nil, not_false_eq_true, and_self, and_true, true_and, if_true, if_false, ite_true, ite_false, reduceIte, Bool.false_eq_true, List.mem_cons, or_false, or_self, Bool.true_eq_false, G.gPlus_int, G.gSub_int, G.gLt_int, G.gLe_int, G.gGt_int, G.gGe_int, G.gEq_int, G.gNe_int, G.gEq_str, G.gNe_str, G.gIx_list, G.gIx_tuple, G.gIx_str, G.gLen, G.gTuple, G.gList, G.gNeg, G.gAppend, Nat.zero_add, Nat.reduceAdd, Nat.reduceLT, Nat.reduceLeDiff, Nat.lt_add_one, decide_true, decide_false, Bool.not_true, Bool.not_false, reduceCtorEq, Nat.reduceEqDiff, List.length_set, List.length_map, List.nodup_nil, List.mem_nil_iff, eq_self, G.wp_gMul, G.wp_gMod, G.wp_gFdiv, G.atI_0, G.atI_1, G.atI_2, G.atI_3, G.ixN_20, G.ixN_21, G.gIn_def, G.gNotIn_def, G.gSl_str, G.gSl_tup, G.gSl_list, Int.reduceLT, Int.reduceLE, Int.reducePow, Int.reduceNeg, Int.reduceAdd, Int.reduceSub, or_true, true_or, Bool.decide_eq_true, decide_eq_true_eq, true_implies, false_implies, G.mStoreD_ap, G.mDict0_ap, G.mEnum_ap, G.mZip_ap, G.dxU_mk, G.seqU_list, G.seqU_tuple, G.gIxD_mk, G.gInD_mk, G.gNotInD_mk, G.gLenD_mk, G.sameSeq_list, G.sameSeq_tuple, G.gExtend]
    refine H [w1] f4 (by simp) (by simp) fun w hw => ?_
    rw [List.mem_singleton.mp hw]
    exact hw1
end G
namespace G
open PySem PySem.Spec PyProof.Rows L2
/-! ### the rows of things -/
def step1 (rows : List (List Int)) (n : Nat) : List (List Int) := rows.flatMap fun row => (List.range n).map fun (t : Nat) => row ++ [(t : Int)]
def rowsOf (ns : List Nat) : List (List Int) := ns.foldl step1 [[]]
theorem step1_len (rows : List (List Int)) (n : Nat) : (step1 rows n).length = rows.length * n := by
  unfold step1
  induction rows with
  | nil => simp
  | cons r rs ih => rw [List.flatMap_cons, List.length_append, ih, List.length_map, List.length_range, List.length_cons, Nat.succ_mul, Nat.add_comm]
theorem rowsOf_snoc (ns : List Nat) (n : Nat) : rowsOf (ns ++ [n]) = step1 (rowsOf ns) n := by unfold rowsOf; rw [List.foldl_append]; rfl
theorem rowsOf_len : ∀ {ns : List Nat}, (∀ n ∈ ns, n ≤ 4) → (rowsOf ns).length ≤ 4 ^ ns.length := by
  intro ns
  have gen : ∀ (ns : List Nat) (rows : List (List Int)) (k : Nat), (∀ n ∈ ns, n ≤ 4) → rows.length ≤ 4 ^ k → (ns.foldl step1 rows).length ≤ 4 ^ (k + ns.length) := by
    intro ns
    induction ns with
    | nil => intro rows k _ h; exact h
    | cons n ns ih =>
      intro rows k hn h
      have q := ih (step1 rows n) (k + 1) (fun m hm => hn m (List.mem_cons_of_mem _ hm)) (by
        rw [step1_len, Nat.pow_succ]
        exact Nat.mul_le_mul h (hn n (List.mem_cons_self ..)))
      rw [List.foldl_cons, List.length_cons, show k + (ns.length + 1) = k + 1 + ns.length by omega]
      exact q
  intro h
  have := gen ns [[]] 0 h (by decide)
  rw [Nat.zero_add] at this
  exact this
theorem mem_step1 {rows : List (List Int)} {n : Nat} {r : List Int} : r ∈ step1 rows n ↔ ∃ r0 ∈ rows, ∃ t : Nat, t < n ∧ r = r0 ++ [(t : Int)] := by
  unfold step1
  rw [List.mem_flatMap]
  refine ⟨fun ⟨r0, h0, h⟩ => ?_, fun ⟨r0, h0, t, ht, e⟩ => ⟨r0, h0, List.mem_map.mpr ⟨t, List.mem_range.mpr ht, e.symm⟩⟩⟩
  obtain ⟨t, ht, e⟩ := List.mem_map.mp h
  exact ⟨r0, h0, t, List.mem_range.mp ht, e.symm⟩
theorem row_len : ∀ {ns : List Nat} {r : List Int}, r ∈ rowsOf ns → r.length = ns.length := by
  have gen : ∀ (ns : List Nat) (rows : List (List Int)) (k : Nat), (∀ r ∈ rows, r.length = k) → ∀ r ∈ ns.foldl step1 rows, r.length = k + ns.length := by
    intro ns
    induction ns with
    | nil => intro rows k h r hr; exact h r hr
    | cons n ns ih =>
      intro rows k h r hr
      rw [List.length_cons, show k + (ns.length + 1) = k + 1 + ns.length by omega]
      refine ih (step1 rows n) (k + 1) (fun r hr => ?_) r hr
      obtain ⟨r0, h0, t, _, e⟩ := mem_step1.mp hr
      rw [e, List.length_append, h r0 h0, List.length_singleton]
  intro ns r hr
  have := gen ns [[]] 0 (fun r hr => by rw [List.mem_singleton.mp hr]; rfl) r hr
  rw [Nat.zero_add] at this
  exact this
/-- how many things each world has -/
def WN (ws : List U) (ns : List Nat) : Prop := F2 (fun w n => n ≤ 4 ∧ ∃ cs ts, w = wU n cs ts) ws ns
theorem paired_at' {α β : Type} {R : α → β → Prop} {as : List α} {bs : List β} (h : F2 R as bs) {i : Nat} {a : α} (e : as[i]? = some a) : ∃ b, bs[i]? = some b ∧ R a b := L2.paired_get h e
theorem take_snoc {α : Type} {l : List α} {i : Nat} {a : α} (h : l[i]? = some a) : l.take (i + 1) = l.take i ++ [a] := by rw [List.take_add_one, h]; rfl
theorem wp_all_rows {ws : List U} {ns : List Nat} {Q : U × List U → Prop} (h : WN ws ns) (hl : ws.length ≤ 3) (k : Q (.list ((rowsOf ns).map iU), [.tuple ws])) : wp (m_all_rows [.tuple ws]) Q := by
  have hle : ∀ n ∈ ns, n ≤ 4 := by
    intro n hn
    have gen : ∀ {ws : List U} {ns : List Nat}, WN ws ns → ∀ n ∈ ns, n ≤ 4 := by
      intro ws ns h
      induction h with
      | nil => intro n hn; cases hn
      | cons r t ih =>
        intro n hn
        rcases List.mem_cons.mp hn with rfl | hn
        · exact r.1
        · exact ih n hn
    exact gen h n hn
  have hnl : ns.length ≤ 3 := by rw [← paired_len h]; exact hl
  have bound : ∀ i, (rowsOf (ns.take i)).length ≤ 64 := by
    intro i
    have q := rowsOf_len (ns := ns.take i) fun n hn => hle n (List.mem_of_mem_take hn)
    have l3 : (ns.take i).length ≤ 3 := by rw [List.length_take]; omega
    have : 4 ^ (ns.take i).length ≤ 4 ^ 3 := Nat.pow_le_pow_right (by decide) l3
    have e : 4 ^ 3 = 64 := by decide
    omega
  unfold m_all_rows
  refine wp_def ?_
  unfold b_all_rows
  trivial
  refine ⟨by decide, by decide, ?_⟩
  refine wp_loopN (fun i ρ => ∃ (x2 x3 x4 : En), ρ = [.sh (.tuple ws), .sh (.list ((rowsOf (ns.take i)).map iU)), x2, x3, x4, .no]) ⟨_, _, _, rfl⟩ ?_ ?_
  · rintro i w ρ hu ⟨x2, x3, x4, rfl⟩
    obtain ⟨n, hn, hn4, cs, ts, rfl⟩ := paired_at' h hu
    trivial
    refine ⟨by decide, ?_⟩
    refine wp_loopN (fun j ρ => ∃ (x4 : En), ρ = [.sh (.tuple ws), .sh (.list ((rowsOf (ns.take i)).map iU)), .sh (wU n cs ts), .ow (.list ((step1 ((rowsOf (ns.take i)).take j) n).map iU)), x4, .no]) ⟨_, rfl⟩ ?_ ?_
    · rintro j u ρ hj ⟨x4, rfl⟩
      rw [List.getElem?_map] at hj
      obtain ⟨row, hrow, rfl⟩ : ∃ row, (rowsOf (ns.take i))[j]? = some row ∧ u = iU row := by
        cases e : (rowsOf (ns.take i))[j]? with
        | none => rw [e] at hj; cases hj
        | some row => rw [e] at hj; exact ⟨row, rfl, (Option.some.inj hj).symm⟩
      have rl := row_len (List.mem_of_getElem? hrow)
      have tl : (ns.take i).length ≤ 3 := by rw [List.length_take]; omega
      have bl := bound i
      trivial
      refine ⟨⟨by omega, by omega⟩, ?_⟩
      refine wp_lcN (fun t acc ρ => acc = ((List.range t).map fun (t : Nat) => iU (row ++ [(t : Int)])) ∧ ρ = [.sh (.tuple ws), .sh (.list ((rowsOf (ns.take i)).map iU)), .sh (wU n cs ts), .ow (.list ((step1 ((rowsOf (ns.take i)).take j) n).map iU)), .sh (iU row), .no]) ⟨rfl, rfl⟩ ?_ ?_
      · rintro t acc u ρ ht ha ⟨rfl, rfl⟩
        obtain ⟨_, rfl⟩ := rangeU_get ht
        trivial
        refine ⟨by decide, ?_⟩
        rw [gPlus_tup (by rw [List.length_map, List.length_singleton]; show _ ≤ 2 ^ 24; omega)]
        trivial
        rw [List.range_succ, List.map_append]
        have e : iU (row ++ [(t : Int)]) = .tuple (row.map PyData.int ++ [.int (0 + (t : Int))]) := by
          rw [Int.zero_add]
          show PyData.tuple ((row ++ [(t : Int)]).map PyData.int) = _
          rw [List.map_append]
          rfl
        show _ = _ ++ [iU (row ++ [(t : Int)])]
        rw [e]
      · rintro zs ρ' hz ⟨rfl, rfl⟩
        rw [rangeU_len, Int.toNat_natCast]
        have tj : ((rowsOf (ns.take i)).take j).length ≤ 64 := by rw [List.length_take]; omega
        have sl := step1_len ((rowsOf (ns.take i)).take j) n
        have ml : ((rowsOf (ns.take i)).take j).length * n ≤ 64 * 4 := Nat.mul_le_mul tj hn4
        trivial
        rw [List.length_range]
        refine ⟨by rw [sl]; show _ ≤ 2 ^ 24; omega, .sh (iU row), ?_⟩
        have e : (step1 ((rowsOf (ns.take i)).take (j + 1)) n).map iU = (step1 ((rowsOf (ns.take i)).take j) n).map iU ++ ((List.range n).map fun (t : Nat) => iU (row ++ [(t : Int)])) := by
          rw [take_snoc hrow]
          unfold step1
          rw [List.flatMap_append, List.map_append]
          simp only [List.flatMap_cons, List.flatMap_nil, List.append_nil, List.map_map]
          rfl
        rw [e]
    · rintro ρ' ⟨x4, rfl⟩
      rw [List.length_map, List.take_length]
      trivial
      rw [take_snoc hn, rowsOf_snoc]
      exact ⟨_, _, _, rfl⟩
  · rintro ρ' ⟨x2, x3, x4, rfl⟩
    rw [paired_len h, List.take_length]
    trivial
    exact k
end G
namespace G
open PySem PySem.Spec PyProof.Rows L2
theorem wn_bound {ws : List U} {ns : List Nat} (h : WN ws ns) (hl : ws.length ≤ 3) : ∀ i, (rowsOf (ns.take i)).length ≤ 64 := by
  have hle : ∀ n ∈ ns, n ≤ 4 := by
    have gen : ∀ {ws : List U} {ns : List Nat}, WN ws ns → ∀ n ∈ ns, n ≤ 4 := by
      intro ws ns h
      induction h with
      | nil => intro n hn; cases hn
      | cons r t ih =>
        intro n hn
        rcases List.mem_cons.mp hn with rfl | hn
        · exact r.1
        · exact ih n hn
    exact gen h
  have hnl : ns.length ≤ 3 := by rw [← paired_len h]; exact hl
  intro i
  have q := rowsOf_len (ns := ns.take i) fun n hn => hle n (List.mem_of_mem_take hn)
  have l3 : (ns.take i).length ≤ 3 := by rw [List.length_take]; omega
  have : 4 ^ (ns.take i).length ≤ 4 ^ 3 := Nat.pow_le_pow_right (by decide) l3
  have e : 4 ^ 3 = 64 := by decide
  omega
/-- the pairs of a row and a thing -/
def pairs1 (rows : List (List Int)) (n : Nat) : List (List Int × Int) := rows.flatMap fun row => (List.range n).map fun (t : Nat) => (row, (t : Int))
theorem pairs1_len (rows : List (List Int)) (n : Nat) : (pairs1 rows n).length = rows.length * n := by
  unfold pairs1
  induction rows with
  | nil => simp
  | cons r rs ih => rw [List.flatMap_cons, List.length_append, ih, List.length_map, List.length_range, List.length_cons, Nat.succ_mul, Nat.add_comm]
theorem pairs1_step (rows : List (List Int)) (n : Nat) : (pairs1 rows n).map (fun p => p.1 ++ [p.2]) = step1 rows n := by
  unfold pairs1 step1
  rw [List.map_flatMap]
  congr 1
  funext row
  rw [List.map_map]
  rfl
abbrev pU (p : List Int × Int) : U := .tuple [iU p.1, .int p.2]
theorem wp_with_each {rows : List (List Int)} {n : Nat} {Q : U × List U → Prop} (hr : rows.length ≤ 64) (hn : n ≤ 4) (k : Q (.list ((pairs1 rows n).map pU), [.list (rows.map iU), .int (n : Int)])) : wp (m__law_with_each [.list (rows.map iU), .int (n : Int)]) Q := by
  unfold m__law_with_each
  refine wp_def ?_
  unfold b__law_with_each
  trivial
  refine ⟨by decide, ?_⟩
  refine wp_loopN (fun j ρ => ∃ (x3 : En), ρ = [.sh (.list (rows.map iU)), .sh (.int (n : Int)), .ow (.list ((pairs1 (rows.take j) n).map pU)), x3, .no]) ⟨_, rfl⟩ ?_ ?_
  · rintro j u ρ hj ⟨x3, rfl⟩
    rw [List.getElem?_map] at hj
    obtain ⟨row, hrow, rfl⟩ : ∃ row, rows[j]? = some row ∧ u = iU row := by
      cases e : rows[j]? with
      | none => rw [e] at hj; cases hj
      | some row => rw [e] at hj; exact ⟨row, rfl, (Option.some.inj hj).symm⟩
    trivial
    refine ⟨⟨by omega, by omega⟩, ?_⟩
    refine wp_lcN (fun t acc ρ => acc = ((List.range t).map fun (t : Nat) => pU (row, (t : Int))) ∧ ρ = [.sh (.list (rows.map iU)), .sh (.int (n : Int)), .ow (.list ((pairs1 (rows.take j) n).map pU)), .sh (iU row), .no]) ⟨rfl, rfl⟩ ?_ ?_
    · rintro t acc u ρ ht ha ⟨rfl, rfl⟩
      obtain ⟨_, rfl⟩ := rangeU_get ht
      trivial
      refine ⟨by decide, ?_⟩
      rw [List.range_succ, List.map_append, Int.zero_add]
      rfl
    · rintro zs ρ' hz ⟨rfl, rfl⟩
      rw [rangeU_len, Int.toNat_natCast]
      have tj : (rows.take j).length ≤ 64 := by rw [List.length_take]; omega
      have sl := pairs1_len (rows.take j) n
      have ml : (rows.take j).length * n ≤ 64 * 4 := Nat.mul_le_mul tj hn
      trivial
      rw [List.length_range]
      refine ⟨by rw [sl]; show _ ≤ 2 ^ 24; omega, .sh (iU row), ?_⟩
      have e : (pairs1 (rows.take (j + 1)) n).map pU = (pairs1 (rows.take j) n).map pU ++ ((List.range n).map fun (t : Nat) => pU (row, (t : Int))) := by
        rw [take_snoc hrow]
        unfold pairs1
        rw [List.flatMap_append, List.map_append]
        simp only [List.flatMap_cons, List.flatMap_nil, List.append_nil, List.map_map]
        rfl
      rw [e]
  · rintro ρ' ⟨x3, rfl⟩
    rw [List.length_map, List.take_length]
    trivial
    exact k
theorem ints_inj : ∀ {a b : List Int}, a.map PyData.int = b.map PyData.int → a = b
  | [], [], _ => rfl
  | [], _ :: _, h => by cases h
  | _ :: _, [], h => by cases h
  | x :: a, y :: b, h => by
    rw [List.map_cons, List.map_cons] at h
    injection h with h1 h2
    injection h1 with h1
    rw [h1, ints_inj h2]
theorem iU_inj {a b : List Int} (h : iU a = iU b) : a = b := by
  injection h with h
  exact ints_inj h
theorem pU_inj (a b : List Int × Int) (h : pU a = pU b) : a = b := by
  obtain ⟨a1, a2⟩ := a
  obtain ⟨b1, b2⟩ := b
  injection h with h
  injection h with h1 h2
  injection h2 with h2 h3
  injection h2 with h2
  have e1 := iU_inj h1
  have e1' : a1 = b1 := e1
  have e2' : a2 = b2 := h2
  rw [e1', e2']
theorem wp_tuples {ws : List U} {ns : List Nat} {Q : U × List U → Prop} (h : WN ws ns) (hl : ws.length ≤ 3) (k : Q (.list ((rowsOf ns).map iU), [.tuple ws])) : wp (m__law_tuples [.tuple ws]) Q := by
  have bound := wn_bound h hl
  have hnl : ns.length ≤ 3 := by rw [← paired_len h]; exact hl
  unfold m__law_tuples
  refine wp_def ?_
  unfold b__law_tuples
  trivial
  refine ⟨by decide, by decide, ?_⟩
  refine wp_loopN (fun i ρ => ∃ (x1 x2 : En), (x1 = .sh (.list ((rowsOf (ns.take i)).map iU)) ∨ x1 = .ow (.list ((rowsOf (ns.take i)).map iU))) ∧ ρ = [.sh (.tuple ws), x1, x2, .no, .no]) ⟨_, _, .inl rfl, rfl⟩ ?_ ?_
  · rintro i w ρ hu ⟨x1, x2, hx, rfl⟩
    obtain ⟨n, hn, hn4, cs, ts, rfl⟩ := paired_at' h hu
    have bl := bound i
    have tl : (ns.take i).length ≤ 3 := by rw [List.length_take]; omega
    have pl1 : ∀ p ∈ pairs1 (rowsOf (ns.take i)) n, p.1.length ≤ 3 := by
      intro p hp
      unfold pairs1 at hp
      obtain ⟨r, hr, hp⟩ := List.mem_flatMap.mp hp
      obtain ⟨t, _, rfl⟩ := List.mem_map.mp hp
      rw [row_len hr]
      exact tl
    rcases hx with rfl | rfl
    all_goals trivial
    all_goals refine wp_with_each bl hn4 ?_
    all_goals trivial
    all_goals refine wp_lc (fun ρ => ρ = [.sh (.tuple ws), .sh (.list ((rowsOf (ns.take i)).map iU)), .sh (wU n cs ts), .no, .no]) (fun u z => ∃ p : List Int × Int, u = pU p ∧ z = iU (p.1 ++ [p.2])) rfl ?_ ?_
    · rintro u ρ hu rfl
      obtain ⟨p, hp, rfl⟩ := List.mem_map.mp hu
      have pl := pl1 p hp
      trivial
      refine ⟨by decide, ?_⟩
      rw [gPlus_tup (by rw [List.length_map, List.length_singleton]; show _ ≤ 2 ^ 24; omega)]
      trivial
      refine ⟨p, rfl, ?_⟩
      show _ = PyData.tuple ((p.1 ++ [p.2]).map PyData.int)
      rw [List.map_append]
      rfl
    · rintro zs ρ' hz rfl
      have ez := paired_map (f := pU) (g := fun p => iU (p.1 ++ [p.2])) (p := fun _ => True) pU_inj hz
      subst ez
      have e : ((pairs1 (rowsOf (ns.take i)) n).map fun p => iU (p.1 ++ [p.2])) = (rowsOf (ns.take (i + 1))).map iU := by
        rw [take_snoc hn, rowsOf_snoc, ← pairs1_step, List.map_map]
        rfl
      rw [e]
      trivial
      exact ⟨_, _, .inr rfl, rfl⟩
    · rintro u ρ hu rfl
      obtain ⟨p, hp, rfl⟩ := List.mem_map.mp hu
      have pl := pl1 p hp
      trivial
      refine ⟨by decide, ?_⟩
      rw [gPlus_tup (by rw [List.length_map, List.length_singleton]; show _ ≤ 2 ^ 24; omega)]
      trivial
      refine ⟨p, rfl, ?_⟩
      show _ = PyData.tuple ((p.1 ++ [p.2]).map PyData.int)
      rw [List.map_append]
      rfl
    · rintro zs ρ' hz rfl
      have ez := paired_map (f := pU) (g := fun p => iU (p.1 ++ [p.2])) (p := fun _ => True) pU_inj hz
      subst ez
      have e : ((pairs1 (rowsOf (ns.take i)) n).map fun p => iU (p.1 ++ [p.2])) = (rowsOf (ns.take (i + 1))).map iU := by
        rw [take_snoc hn, rowsOf_snoc, ← pairs1_step, List.map_map]
        rfl
      rw [e]
      trivial
      exact ⟨_, _, .inr rfl, rfl⟩
  · rintro ρ' ⟨x1, x2, hx, rfl⟩
    rw [paired_len h, List.take_length] at hx
    rcases hx with rfl | rfl
    all_goals trivial
    all_goals exact k
end G
namespace G
open PySem PySem.Spec PyProof.Rows L2
theorem step1_nodup {n : Nat} : ∀ {rows : List (List Int)}, rows.Nodup → (step1 rows n).Nodup
  | [], _ => List.nodup_nil
  | r :: rs, h => by
    rw [List.nodup_cons] at h
    have e : step1 (r :: rs) n = ((List.range n).map fun (t : Nat) => r ++ [(t : Int)]) ++ step1 rs n := by unfold step1; rw [List.flatMap_cons]
    rw [e, List.nodup_append]
    refine ⟨?_, step1_nodup h.2, fun a ha b hb hab => ?_⟩
    · refine List.Pairwise.map _ (fun a b hab q => hab ?_) List.nodup_range
      have q' := List.append_cancel_left q
      injection q' with q' _
      exact Int.ofNat.inj q'
    · subst hab
      obtain ⟨t, _, rfl⟩ := List.mem_map.mp ha
      obtain ⟨r0, hr0, t', _, e⟩ := mem_step1.mp hb
      have q := List.append_inj' e rfl
      rw [← q.1] at hr0
      exact h.1 hr0
theorem rowsOf_nodup (ns : List Nat) : (rowsOf ns).Nodup := by
  have gen : ∀ (ns : List Nat) (rows : List (List Int)), rows.Nodup → (ns.foldl step1 rows).Nodup := by
    intro ns
    induction ns with
    | nil => intro rows h; exact h
    | cons n ns ih => intro rows h; exact ih _ (step1_nodup h)
  exact gen ns [[]] (by simp)
/-- a row of things, by what there is -/
theorem mem_rowsOf {ns : List Nat} {r : List Int} (h : F2 (fun (t : Int) (n : Nat) => 0 ≤ t ∧ t < n) r ns) : r ∈ rowsOf ns := by
  have gen : ∀ {ns : List Nat} {r : List Int} (rows : List (List Int)) (r0 : List Int), r0 ∈ rows → F2 (fun (t : Int) (n : Nat) => 0 ≤ t ∧ t < n) r ns → r0 ++ r ∈ ns.foldl step1 rows := by
    intro ns
    induction ns with
    | nil => intro r rows r0 h0 h; cases h; rw [List.append_nil]; exact h0
    | cons n ns ih =>
      intro r rows r0 h0 h
      cases h with | @cons t _ r _ ht h =>
      have q := ih (r := r) (step1 rows n) (r0 ++ [t]) (mem_step1.mpr ⟨r0, h0, t.toNat, by omega, by rw [Int.toNat_of_nonneg ht.1]⟩) h
      rw [List.append_assoc] at q
      exact q
  exact gen [[]] [] (List.mem_singleton.mpr rfl) h
/-! the dict of the numbers -/
def keyR (r : List Int) : NestedKey := .tup (r.map NestedKey.num)
theorem nums_inj : ∀ {a b : List Int}, a.map NestedKey.num = b.map NestedKey.num → a = b
  | [], [], _ => rfl
  | [], _ :: _, h => by cases h
  | _ :: _, [], h => by cases h
  | x :: a, y :: b, h => by
    rw [List.map_cons, List.map_cons] at h
    injection h with h1 h2
    injection h1 with h1
    rw [h1, nums_inj h2]
theorem keyR_inj {a b : List Int} (h : keyR a = keyR b) : a = b := by
  injection h with h
  exact nums_inj h
theorem keyN_iU (r : List Int) : keyN (iU r) = some (keyR r) := by
  show (keyNs (r.map PyData.int)).bind _ = _
  rw [keyNs_ints]
  rfl
theorem keyD_iU (r : List Int) : keyD (iU r) = some (keyR r) := keyD_ints r
def numb (i : Nat) : List (List Int) → List (U × U)
  | [] => []
  | r :: rs => (iU r, .int (i : Nat)) :: numb (i + 1) rs
theorem numb_len : ∀ (i : Nat) (rs : List (List Int)), (numb i rs).length = rs.length
  | _, [] => rfl
  | i, r :: rs => by rw [numb, List.length_cons, List.length_cons, numb_len]
theorem numb_snoc : ∀ (i : Nat) (rs : List (List Int)) (r : List Int), numb i (rs ++ [r]) = numb i rs ++ [(iU r, .int ((i + rs.length : Nat) : Int))]
  | i, [], r => rfl
  | i, a :: rs, r => by
    rw [List.cons_append, numb, numb, numb_snoc (i + 1) rs r, List.cons_append, List.length_cons, show i + 1 + rs.length = i + (rs.length + 1) by omega]
theorem put_new {u w : U} {k : NestedKey} : ∀ {es : List (U × U)}, lkU es k = none → putU es u k w = es ++ [(u, w)]
  | [], _ => rfl
  | p :: r, h => by
    unfold lkU at h
    unfold putU
    by_cases c : keyN p.1 = some k
    · rw [if_pos c] at h; cases h
    · rw [if_neg c] at h
      rw [if_neg c, put_new h]
      rfl
theorem lk_none {r : List Int} : ∀ {i : Nat} {rs : List (List Int)}, r ∉ rs → lkU (numb i rs) (keyR r) = none
  | _, [], _ => rfl
  | i, a :: rs, h => by
    unfold numb lkU
    rw [keyN_iU, if_neg (fun e => h (by rw [keyR_inj (Option.some.inj e)]; exact List.mem_cons_self ..))]
    exact lk_none fun q => h (List.mem_cons_of_mem _ q)
theorem lk_numb {r : List Int} : ∀ {i j : Nat} {rs : List (List Int)}, rs.Nodup → rs[j]? = some r → lkU (numb i rs) (keyR r) = some (.int ((i + j : Nat) : Int))
  | i, j, [], _, h => by cases h
  | i, 0, a :: rs, _, h => by
    cases h
    unfold numb lkU
    rw [keyN_iU, if_pos rfl]
    rfl
  | i, j + 1, a :: rs, nd, h => by
    rw [List.nodup_cons] at nd
    have h' : rs[j]? = some r := h
    unfold numb lkU
    rw [keyN_iU, if_neg (fun e => nd.1 (by rw [keyR_inj (Option.some.inj e)]; exact List.mem_of_getElem? h')), lk_numb nd.2 h', show i + 1 + j = i + (j + 1) by omega]
end G
namespace G
open PySem PySem.Spec PyProof.Rows L2
theorem enumU_inv {us : List U} {i : Nat} {u : U} (h : (enumU us)[i]? = some u) : ∃ w, us[i]? = some w ∧ u = .tuple [.int (i : Nat), w] := by
  have hl := (List.getElem?_eq_some_iff.mp h).1
  rw [enumU_len] at hl
  have e := List.getElem?_eq_getElem hl
  have q := enumU_get e
  rw [h] at q
  exact ⟨_, e, Option.some.inj q⟩
theorem wp_done1 {ws : List U} {kk : Nat} {row vs : List Int} {Q : U × List U → Prop} (hl : ws.length ≤ 3) (l1 : row.length = ws.length) (l2 : vs.length = ws.length)
    (h : ∀ (i : Nat) (w : U) (a v : Int), ws[i]? = some w → row[i]? = some a → vs[i]? = some v → ∃ n cs ts t, w = wU n cs ts ∧ ts[kk]? = some t ∧ gIx t (.int a) = some (.int v))
    (k : Q (iU vs, [.tuple ws, .int (kk : Int), .int 1, .list [iU row]])) : wp (m_done_on_all [.tuple ws, .int (kk : Int), .int 1, .list [iU row]]) Q := by
  unfold m_done_on_all
  refine wp_def ?_
  unfold b_done_on_all
  trivial
  refine ⟨by decide, ?_⟩
  refine wp_loopN (fun i ρ => ∃ (x5 x6 x7 : En), ρ = [.sh (.tuple ws), .sh (.int (kk : Int)), .sh (.int 1), .sh (.list [iU row]), .ow (.list ((vs.take i).map .int)), x5, x6, x7]) ⟨_, _, _, rfl⟩ ?_ ?_
  · rintro i u ρ hu ⟨x5, x6, x7, rfl⟩
    obtain ⟨w, hw, rfl⟩ := enumU_inv hu
    have hi := (List.getElem?_eq_some_iff.mp hw).1
    obtain ⟨a, ha⟩ : ∃ a, row[i]? = some a := ⟨_, List.getElem?_eq_getElem (by omega)⟩
    obtain ⟨v, hv⟩ : ∃ v, vs[i]? = some v := ⟨_, List.getElem?_eq_getElem (by omega)⟩
    obtain ⟨n, cs, ts, t, rfl, ht, hg⟩ := h i w a v hw ha hv
    have hz : (vs.take i).length < sizeLine := by rw [List.length_take]; show _ < 2 ^ 24; omega
    trivial
    refine ⟨t, atI_at (by omega) (by rw [Int.toNat_natCast]; exact ht), ?_⟩
    trivial
    refine ⟨.int a, atI_at (by omega) (by rw [Int.toNat_natCast, List.getElem?_map, ha]; rfl), ?_⟩
    dsimp only
    rw [hg]
    trivial
    refine wp_neg (by decide) ?_
    trivial
    rw [take_snoc hv, List.map_append]
    exact ⟨hz, _, _, _, rfl⟩
  · rintro ρ' ⟨x5, x6, x7, rfl⟩
    rw [enumU_len, List.take_of_length_le (by omega)]
    trivial
    exact k
theorem wp_done2 {ws : List U} {kk : Nat} {row row2 vs : List Int} {Q : U × List U → Prop} (hl : ws.length ≤ 3) (l1 : row.length = ws.length) (l3 : row2.length = ws.length) (l2 : vs.length = ws.length)
    (h : ∀ (i : Nat) (w : U) (a b v : Int), ws[i]? = some w → row[i]? = some a → row2[i]? = some b → vs[i]? = some v → ∃ n cs ts t tr, w = wU n cs ts ∧ ts[kk]? = some t ∧ gIx t (.int a) = some tr ∧ gIx tr (.int b) = some (.int v))
    (k : Q (iU vs, [.tuple ws, .int (kk : Int), .int 2, .list [iU row, iU row2]])) : wp (m_done_on_all [.tuple ws, .int (kk : Int), .int 2, .list [iU row, iU row2]]) Q := by
  unfold m_done_on_all
  refine wp_def ?_
  unfold b_done_on_all
  trivial
  refine ⟨by decide, ?_⟩
  refine wp_loopN (fun i ρ => ∃ (x5 x6 x7 : En), ρ = [.sh (.tuple ws), .sh (.int (kk : Int)), .sh (.int 2), .sh (.list [iU row, iU row2]), .ow (.list ((vs.take i).map .int)), x5, x6, x7]) ⟨_, _, _, rfl⟩ ?_ ?_
  · rintro i u ρ hu ⟨x5, x6, x7, rfl⟩
    obtain ⟨w, hw, rfl⟩ := enumU_inv hu
    have hi := (List.getElem?_eq_some_iff.mp hw).1
    obtain ⟨a, ha⟩ : ∃ a, row[i]? = some a := ⟨_, List.getElem?_eq_getElem (by omega)⟩
    obtain ⟨v, hv⟩ : ∃ v, vs[i]? = some v := ⟨_, List.getElem?_eq_getElem (by omega)⟩
    obtain ⟨b, hb⟩ : ∃ b, row2[i]? = some b := ⟨_, List.getElem?_eq_getElem (by omega)⟩
    obtain ⟨n, cs, ts, t, tr, rfl, ht, hg, hg2⟩ := h i w a b v hw ha hb hv
    have hz : (vs.take i).length < sizeLine := by rw [List.length_take]; show _ < 2 ^ 24; omega
    trivial
    refine ⟨t, atI_at (by omega) (by rw [Int.toNat_natCast]; exact ht), ?_⟩
    trivial
    refine ⟨.int a, atI_at (by omega) (by rw [Int.toNat_natCast, List.getElem?_map, ha]; rfl), ?_⟩
    dsimp only
    rw [hg]
    trivial
    refine ⟨.int b, atI_at (by omega) (by rw [Int.toNat_natCast, List.getElem?_map, hb]; rfl), ?_⟩
    dsimp only
    rw [hg2]
    trivial
    rw [take_snoc hv, List.map_append]
    exact ⟨hz, _, _, _, rfl⟩
  · rintro ρ' ⟨x5, x6, x7, rfl⟩
    rw [enumU_len, List.take_of_length_le (by omega)]
    trivial
    exact k
end G
namespace G
open PySem PySem.Spec PyProof.Rows L2
theorem wp_both {ws : List U} {kk : Nat} {row row2 vs : List Int} {Q : U × List U → Prop} (hl : ws.length ≤ 3) (l1 : row.length = ws.length) (l3 : row2.length = ws.length) (l2 : vs.length = ws.length)
    (h : ∀ (i : Nat) (w : U) (a b v : Int), ws[i]? = some w → row[i]? = some a → row2[i]? = some b → vs[i]? = some v → ∃ n cs ts t tr, w = wU n cs ts ∧ ts[kk]? = some t ∧ gIx t (.int a) = some tr ∧ gIx tr (.int b) = some (.int v))
    (k : Q (iU vs, [.tuple ws, .int (kk : Int), iU row, iU row2])) : wp (m__law_both [.tuple ws, .int (kk : Int), iU row, iU row2]) Q := by
  unfold m__law_both
  refine wp_def ?_
  unfold b__law_both
  trivial
  refine ⟨by decide, ?_⟩
  refine wp_loopN (fun i ρ => ∃ (x5 x6 : En), ρ = [.sh (.tuple ws), .sh (.int (kk : Int)), .sh (iU row), .sh (iU row2), .ow (.list ((vs.take i).map .int)), x5, x6]) ⟨_, _, rfl⟩ ?_ ?_
  · rintro i u ρ hu ⟨x5, x6, rfl⟩
    obtain ⟨w, hw, rfl⟩ := enumU_inv hu
    have hi := (List.getElem?_eq_some_iff.mp hw).1
    obtain ⟨a, ha⟩ : ∃ a, row[i]? = some a := ⟨_, List.getElem?_eq_getElem (by omega)⟩
    obtain ⟨b, hb⟩ : ∃ b, row2[i]? = some b := ⟨_, List.getElem?_eq_getElem (by omega)⟩
    obtain ⟨v, hv⟩ : ∃ v, vs[i]? = some v := ⟨_, List.getElem?_eq_getElem (by omega)⟩
    obtain ⟨n, cs, ts, t, tr, rfl, ht, hg, hg2⟩ := h i w a b v hw ha hb hv
    have hz : (vs.take i).length < sizeLine := by rw [List.length_take]; show _ < 2 ^ 24; omega
    trivial
    refine ⟨t, atI_at (by omega) (by rw [Int.toNat_natCast]; exact ht), ?_⟩
    trivial
    refine ⟨.int a, atI_at (by omega) (by rw [Int.toNat_natCast, List.getElem?_map, ha]; rfl), ?_⟩
    dsimp only
    rw [hg]
    trivial
    refine ⟨.int b, atI_at (by omega) (by rw [Int.toNat_natCast, List.getElem?_map, hb]; rfl), ?_⟩
    dsimp only
    rw [hg2]
    trivial
    rw [take_snoc hv, List.map_append]
    exact ⟨hz, _, _, rfl⟩
  · rintro ρ' ⟨x5, x6, rfl⟩
    rw [enumU_len, List.take_of_length_le (by omega)]
    trivial
    exact k
/-! ### what the tables tell of rows -/
/-- world by world: the entries of the kk-th tables at a row -/
def Tell1 (ws : List U) (kk : Nat) (row vs : List Int) : Prop := row.length = ws.length ∧ vs.length = ws.length ∧
  ∀ (i : Nat) (w : U) (a v : Int), ws[i]? = some w → row[i]? = some a → vs[i]? = some v → ∃ n cs ts t, w = wU n cs ts ∧ ts[kk]? = some t ∧ gIx t (.int a) = some (.int v)
def Tell2 (ws : List U) (kk : Nat) (row row2 vs : List Int) : Prop := row.length = ws.length ∧ row2.length = ws.length ∧ vs.length = ws.length ∧
  ∀ (i : Nat) (w : U) (a b v : Int), ws[i]? = some w → row[i]? = some a → row2[i]? = some b → vs[i]? = some v → ∃ n cs ts t tr, w = wU n cs ts ∧ ts[kk]? = some t ∧ gIx t (.int a) = some tr ∧ gIx tr (.int b) = some (.int v)
end G
namespace G
open PySem PySem.Spec PyProof.Rows L2
/-- a thing that is alike to itself with n calls -/
def Self (n : Nat) (u : U) : Prop := ∀ Q : U × List U → Prop, Q (.bool true, [u, u]) → wp (m__law_alike n [u, u]) Q
theorem self_int (n : Nat) (v : Int) : Self (n + 1) (.int v) := by
  intro Q k
  have e1 : isiU "tuple" (.int v) = false := rfl
  have e2 : isiU "int" (.int v) = true := rfl
  have e3 : isiU "bool" (.int v) = false := rfl
  have e4 : noD (.int v) = some () := rfl
  unfold m__law_alike
  refine wp_def ?_
  unfold b__law_alike
  trivial
  simp only [e1, e2, e3, e4, wp_some, if_true, Bool.not_false]
  trivial
  simp only [e1, e2, e3, e4, wp_some, if_true, Bool.not_false]
  trivial
  exact k
theorem all_trueP : ∀ {us : List U} {zs : List U}, F2 (fun _ z => z = PyData.bool true) us zs → gAll [.list zs] = some (.bool true) := by
  have h : ∀ {us : List U} {zs : List U}, F2 (fun _ z => z = PyData.bool true) us zs → ∃ bs, boolsU zs = some bs ∧ bs.all id = true := by
    intro us zs h
    induction h with
    | nil => exact ⟨[], rfl, rfl⟩
    | cons r t ih =>
      obtain ⟨bs, e, h⟩ := ih
      subst r
      refine ⟨true :: bs, ?_, by simpa using h⟩
      show (boolsU _).bind _ = _
      rw [e]
      rfl
  intro us zs hz
  obtain ⟨bs, e, h⟩ := h hz
  show (boolsU zs).bind _ = _
  rw [e]
  show some (PyData.bool (bs.all id)) = _
  rw [h]
theorem zipU_self {us : List U} {x : U} (h : x ∈ zipU us us) : ∃ u ∈ us, x = .tuple [u, u] := by
  unfold zipU at h
  obtain ⟨p, hp, rfl⟩ := List.mem_map.mp h
  obtain ⟨i, hi⟩ := List.mem_iff_getElem?.mp hp
  rw [List.getElem?_zip_eq_some] at hi
  have e := hi.1.symm.trans hi.2
  have e' := Option.some.inj e
  exact ⟨p.1, List.mem_of_getElem? hi.1, by rw [← e']⟩
theorem self_tup {n : Nat} {us : List U} (h : ∀ u ∈ us, Self n u) : Self (n + 1) (.tuple us) := by
  intro Q k
  have e1 : isiU "tuple" (.tuple us) = true := rfl
  have e4 : noD (.tuple us) = some () := rfl
  unfold m__law_alike
  refine wp_def ?_
  unfold b__law_alike
  trivial
  simp only [e1, e4, wp_some, if_true, Bool.not_false, Bool.not_true]
  trivial
  simp only [e1, e4, wp_some, if_true, Bool.not_false, Bool.not_true]
  trivial
  refine wp_lc (fun ρ => ρ = [.sh (.tuple us), .sh (.tuple us), .no, .no]) (fun _ z => z = .bool true) rfl ?_ ?_
  · rintro x ρ hx rfl
    obtain ⟨u, hu, rfl⟩ := zipU_self hx
    trivial
    refine h u hu _ ?_
    trivial
  · rintro zs ρ' hz rfl
    trivial
    rw [all_trueP hz]
    trivial
    exact k
end G
namespace G
open PySem PySem.Spec PyProof.Rows L2
theorem take_mem_not {rows : List (List Int)} {j : Nat} {row : List Int} (nd : rows.Nodup) (h : rows[j]? = some row) : row ∉ rows.take j := by
  intro hm
  obtain ⟨i, hi⟩ := List.mem_iff_getElem?.mp hm
  have hl := (List.getElem?_eq_some_iff.mp hi).1
  rw [List.length_take] at hl
  rw [List.getElem?_take_of_lt (by omega)] at hi
  obtain ⟨h1, h2⟩ := List.getElem?_eq_some_iff.mp h
  obtain ⟨h3, h4⟩ := List.getElem?_eq_some_iff.mp hi
  exact (List.pairwise_iff_getElem.mp nd) i j h3 h1 (by omega) (h4.trans h2.symm)
theorem lk_row {rows : List (List Int)} {j : Nat} {row : List Int} (nd : rows.Nodup) (h : rows[j]? = some row) : gIxD (.dict (mkD :: numb 0 rows)) (iU row) = some (.int (j : Nat)) := by
  rw [gIxD_mk, keyD_iU]
  show lkU (numb 0 rows) (keyR row) = _
  rw [lk_numb nd h, Nat.zero_add]
/-- the loop that numbers the rows -/
theorem wp_numbers {rows : List (List Int)} {Q : Fl × Rho → Prop} {a b : En} {x5 x6 x7 x8 x9 x10 x11 x12 x13 : En} (nd : rows.Nodup) (hl : rows.length ≤ 64)
    (k : ∀ x4, Q (.nx, [a, b, .sh (.list (rows.map iU)), .ow (.dict (mkD :: numb 0 rows)), x4, x5, x6, x7, x8, x9, x10, x11, x12, x13])) :
    wp (mLoop (mPut 4) (mStoreD 3 (mBi gLenD (mCons (mPeek 3) mNil)) (mName 4)) (rows.map iU) [a, b, .sh (.list (rows.map iU)), .ow (.dict [mkD]), .no, x5, x6, x7, x8, x9, x10, x11, x12, x13]) Q := by
  refine wp_loopN (fun j ρ => ∃ x4 : En, ρ = [a, b, .sh (.list (rows.map iU)), .ow (.dict (mkD :: numb 0 (rows.take j))), x4, x5, x6, x7, x8, x9, x10, x11, x12, x13]) ⟨_, rfl⟩ ?_ ?_
  · rintro j u ρ hj ⟨x4, rfl⟩
    rw [List.getElem?_map] at hj
    obtain ⟨row, hrow, rfl⟩ : ∃ row, rows[j]? = some row ∧ u = iU row := by
      cases e : rows[j]? with
      | none => rw [e] at hj; cases hj
      | some row => rw [e] at hj; exact ⟨row, rfl, (Option.some.inj hj).symm⟩
    have hjl := (List.getElem?_eq_some_iff.mp hrow).1
    have nl : (numb 0 (rows.take j)).length = j := by rw [numb_len, List.length_take]; omega
    trivial
    rw [nl, keyD_iU]
    trivial
    rw [put_new (lk_none (take_mem_not nd hrow)), take_snoc hrow, numb_snoc, List.length_take, Nat.zero_add, Nat.min_eq_left (by omega)]
    exact ⟨by show _ ≤ 2 ^ 24; omega, _, rfl⟩
  · rintro ρ' ⟨x4, rfl⟩
    rw [List.length_map, List.take_length]
    exact k x4
end G
namespace G
open PySem PySem.Spec PyProof.Rows L2
theorem lay_ints : ∀ r : List Int, PyData.canLayAll0 (r.map PyData.int) = true
  | [] => rfl
  | x :: r => by
    show (PyData.canLay0 (.int x) && PyData.canLayAll0 (r.map PyData.int)) = true
    rw [lay_ints r]
    rfl
theorem dep_ints : ∀ r : List Int, PyData.depthAll (r.map PyData.int) = 0
  | [] => rfl
  | x :: r => by
    show max (PyData.depth (.int x)) (PyData.depthAll (r.map PyData.int)) = 0
    rw [dep_ints r]
    rfl
theorem lay_rows : ∀ rs : List (List Int), PyData.canLayAll0 (rs.map iU) = true
  | [] => rfl
  | r :: rs => by
    show (PyData.canLayAll0 (r.map PyData.int) && PyData.canLayAll0 (rs.map iU)) = true
    rw [lay_ints r, lay_rows rs]
    rfl
theorem dep_rows : ∀ rs : List (List Int), PyData.depthAll (rs.map iU) ≤ 1
  | [] => by decide
  | r :: rs => by
    show max (PyData.depthAll (r.map PyData.int) + 1) (PyData.depthAll (rs.map iU)) ≤ 1
    have := dep_rows rs
    rw [dep_ints r]
    omega
theorem shaped_row (r : List Int) : SeqAt.shaped (iU r) = true := by
  show (PyData.canLayAll0 (r.map PyData.int) && decide (PyData.depthAll (r.map PyData.int) + 1 ≤ 64)) = true
  rw [lay_ints r, dep_ints r]
  rfl
theorem shaped_rows (rs : List (List Int)) : SeqAt.shaped (.list (rs.map iU)) = true := by
  show (PyData.canLayAll0 (rs.map iU) && decide (PyData.depthAll (rs.map iU) + 1 ≤ 64)) = true
  have := dep_rows rs
  rw [lay_rows rs, decide_eq_true (by omega)]
  rfl
theorem eqv_ints : ∀ a b : List Int, PyData.eqvAll (a.map PyData.int) (b.map PyData.int) = decide (a = b)
  | [], [] => rfl
  | [], y :: b => by
    rw [decide_eq_false (by intro h; cases h)]
    rfl
  | x :: a, [] => by
    rw [decide_eq_false (by intro h; cases h)]
    rfl
  | x :: a, y :: b => by
    show (PyData.eqv (.int x) (.int y) && PyData.eqvAll (a.map PyData.int) (b.map PyData.int)) = _
    rw [eqv_ints a b]
    show ((x == y) && decide (a = b)) = _
    by_cases h : x = y
    · subst h
      by_cases h2 : a = b
      · subst h2; simp
      · simp [h2]
    · simp [h]
theorem eqv_row (a b : List Int) : PyData.eqv (iU a) (iU b) = decide (a = b) := eqv_ints a b
theorem find_row {rows : List (List Int)} {j : Nat} {row : List Int} (nd : rows.Nodup) (h : rows[j]? = some row) : (rows.map iU).findIdx? (fun d => PyData.eqv d (iU row)) = some j := by
  obtain ⟨hl, hg⟩ := List.getElem?_eq_some_iff.mp h
  rw [List.findIdx?_eq_some_iff_getElem]
  refine ⟨by rw [List.length_map]; exact hl, ?_, fun i hi => ?_⟩
  · rw [List.getElem_map, hg, eqv_row]
    exact decide_eq_true rfl
  · rw [List.getElem_map, eqv_row]
    intro q
    have e := of_decide_eq_true q
    exact (List.pairwise_iff_getElem.mp nd) i j (by omega) hl hi (e.trans hg.symm)
theorem index_row {rows : List (List Int)} {j : Nat} {row : List Int} (nd : rows.Nodup) (h : rows[j]? = some row) : gIndex (.list (rows.map iU)) (iU row) = some (.int (j : Nat)) := by
  have f : ¬ (flatU (iU row) = true ∧ (rows.map iU).all flatU = true) := fun q => by cases q.1
  show (if flatU (iU row) = true ∧ (rows.map iU).all flatU = true then ((rows.map iU).findIdx? fun d => eqF d (iU row)).bind fun j => some (PyData.int (j : Nat))
      else if SeqAt.shaped (.list (rows.map iU)) = true ∧ SeqAt.shaped (iU row) = true then ((rows.map iU).findIdx? fun d => PyData.eqv d (iU row)).bind fun j => some (PyData.int (j : Nat)) else none) = _
  rw [if_neg f, if_pos ⟨shaped_rows rows, shaped_row row⟩, find_row nd h]
  rfl
end G
namespace G
open PySem PySem.Spec PyProof.Rows L2
abbrev jU (js : List Nat) : U := .tuple (js.map fun (j : Nat) => PyData.int (j : Int))
def RowAt (ws : List U) (at_ : Nat) (row : List Int) : Prop := row.length = ws.length ∧ ∀ (i : Nat) (w : U) (v : Int), ws[i]? = some w → row[i]? = some v → ∃ n cs ts, w = wU n cs ts ∧ cs[at_]? = some v
def Tbl (ws : List U) (rows : List (List Int)) (kk : Nat) (p : List Nat × Int) (t : U) : Prop :=
  (p.2 = 1 ∧ ∃ es : List Nat, t = jU es ∧ es.length = rows.length ∧ ∀ (r : Nat) (row : List Int) (e : Nat), rows[r]? = some row → es[r]? = some e → ∃ vs, rows[e]? = some vs ∧ Tell1 ws kk row vs) ∨
  (p.2 = 2 ∧ ∃ ess : List (List Nat), t = .tuple (ess.map jU) ∧ ess.length = rows.length ∧ ∀ (r : Nat) (row : List Int) (es : List Nat), rows[r]? = some row → ess[r]? = some es → es.length = rows.length ∧
    ∀ (r2 : Nat) (row2 : List Int) (e : Nat), rows[r2]? = some row2 → es[r2]? = some e → ∃ vs, rows[e]? = some vs ∧ Tell2 ws kk row row2 vs)
structure Answer (ws : List U) (rows : List (List Int)) (m : Nat) (ac : List (List Nat × Int)) (js : List Nat) (tabs : List U) : Prop where
  lj : js.length = m
  th : ∀ (at_ j : Nat), js[at_]? = some j → ∃ row, rows[j]? = some row ∧ RowAt ws at_ row
  lt : tabs.length = ac.length
  tb : ∀ (kk : Nat) (p : List Nat × Int) (t : U), ac[kk]? = some p → tabs[kk]? = some t → Tbl ws rows kk p t
/-- the row of the worlds' things at a place -/
theorem wp_rowAt {ws : List U} {at_ : Nat} {row : List Int} {v0 : Nat} {ρ0 : Rho} {Q : List U × Rho → Prop} (h : RowAt ws at_ row) {g : MG} {me : MX} {vs : List Nat}
    (hs : ∀ (n : Nat) cs ts (v : Int), cs[at_]? = some v → wp (g (wU n cs ts) ρ0) fun ρ1 => wp (me ρ1) fun q => wp (asVal q.1) fun z => z = .int v ∧ wipeR q.2 vs = ρ0)
    (k : Q (row.map .int, ρ0)) : wp (mLcLoop g mYes me vs ws [] ρ0) Q := by
  refine wp_lcN (fun i acc ρ => acc = (row.take i).map .int ∧ ρ = ρ0) ⟨rfl, rfl⟩ ?_ ?_
  · rintro i acc u ρ hu ha ⟨rfl, rfl⟩
    have hi := (List.getElem?_eq_some_iff.mp hu).1
    obtain ⟨v, hv⟩ : ∃ v, row[i]? = some v := ⟨_, List.getElem?_eq_getElem (by rw [h.1]; exact hi)⟩
    obtain ⟨n, cs, ts, rfl, hc⟩ := h.2 i u v hu hv
    refine wp_mono (hs n cs ts v hc) fun ρ1 q => ⟨(true, ρ1), rfl, fun _ => wp_mono q fun p q => wp_mono q fun z q => ?_, fun z => by cases z⟩
    obtain ⟨rfl, e⟩ := q
    exact ⟨by rw [take_snoc hv, List.map_append]; rfl, e⟩
  · rintro zs ρ' hz ⟨rfl, rfl⟩
    rw [← h.1, List.take_length]
    exact k
end G
namespace G
open PySem PySem.Spec PyProof.Rows L2
abbrev ansU (rows : List (List Int)) (js : List Nat) (tabs : List U) : U := .tuple [.int (rows.length : Nat), jU js, .tuple tabs]
theorem wp_product {fx : List U} {ac : List (List Nat × Int)} {ws : List U} {ns js : List Nat} {tabs : List U} {Q : U × List U → Prop} (hS : Shp fx ac) (h : WN ws ns) (hl : ws.length ≤ 3) (hA : Answer ws (rowsOf ns) fx.length ac js tabs)
    (k : Q (ansU (rowsOf ns) js tabs, [shU fx ac, .tuple ws])) : wp (m_product [shU fx ac, .tuple ws]) Q := by
  have bl : (rowsOf ns).length ≤ 64 := by
    have := wn_bound h hl ns.length
    rw [List.take_length] at this
    exact this
  have nd := rowsOf_nodup ns
  have hlf := hS.lf
  have hla := hS.la
  unfold m_product
  refine wp_def ?_
  unfold b_product
  trivial
  refine wp_all_rows h hl ?_
  generalize rowsOf ns = rows at *
  trivial
  refine wp_numbers nd bl fun x4 => ?_
  trivial
  refine ⟨by decide, ⟨by omega, by omega⟩, ?_⟩
  refine wp_loopN (fun i ρ => ∃ (x6 : En), ρ = [.sh (shU fx ac), .sh (.tuple ws), .sh (.list (rows.map iU)), .ow (.dict (mkD :: numb 0 rows)), x4, .ow (.list ((js.take i).map fun (j : Nat) => .int (j : Int))), x6, .no, .no, .no, .no, .no, .no, .no]) ⟨_, rfl⟩ ?_ ?_
  · rintro i u ρ hu ⟨x6, rfl⟩
    obtain ⟨hi, rfl⟩ := rangeU_get hu
    rw [Int.toNat_natCast] at hi
    have eu : (PyData.int (0 + (i : Int))) = .int (i : Int) := by rw [Int.zero_add]
    rw [eu]
    obtain ⟨j, hj⟩ : ∃ j, js[i]? = some j := ⟨_, List.getElem?_eq_getElem (by rw [hA.lj]; exact hi)⟩
    obtain ⟨row, hrow, hat⟩ := hA.th i j hj
    have hz : (js.take i).length < sizeLine := by rw [List.length_take]; show _ < 2 ^ 24; omega
    trivial
    refine wp_rowAt (v0 := 0) hat (fun n cs ts v hc => ?_) ?_
    · trivial
      exact ⟨.int v, atI_at (by omega) (by rw [Int.toNat_natCast, List.getElem?_map, hc]; rfl), rfl⟩
    · trivial
      rw [show keyD (PyData.tuple (row.map PyData.int)) = some (keyR row) from keyD_iU row]
      trivial
      rw [lk_numb nd hrow]
      trivial
      rw [take_snoc hj, List.map_append]
      exact ⟨hz, _, rfl⟩
  · rintro ρ' ⟨x6, rfl⟩
    rw [rangeU_len, Int.toNat_natCast, ← hA.lj, List.take_length]
    trivial
    refine ⟨by decide, ?_⟩
    refine wp_loopN (fun i ρ => ∃ (x4 x8 x9 x10 x11 : En), ρ = [.sh (shU fx ac), .sh (.tuple ws), .sh (.list (rows.map iU)), .ow (.dict (mkD :: numb 0 rows)), x4, .ow (.list (js.map fun (j : Nat) => .int (j : Int))), x6, .ow (.list (tabs.take i)), x8, x9, x10, x11, .no, .no]) ⟨_, _, _, _, _, rfl⟩ ?_ ?_
    · rintro i u ρ hu ⟨x4, x8, x9, x10, x11, rfl⟩
      obtain ⟨w, hw, rfl⟩ := enumU_inv hu
      rw [List.getElem?_map] at hw
      obtain ⟨p, hp, rfl⟩ : ∃ p, ac[i]? = some p ∧ w = aU p := by
        cases e : ac[i]? with
        | none => rw [e] at hw; cases hw
        | some p => rw [e] at hw; exact ⟨p, rfl, (Option.some.inj hw).symm⟩
      have hi := (List.getElem?_eq_some_iff.mp hp).1
      obtain ⟨t, ht⟩ : ∃ t, tabs[i]? = some t := ⟨_, List.getElem?_eq_getElem (by rw [hA.lt]; exact hi)⟩
      have hT := hA.tb i p t hp ht
      have hz : (tabs.take i).length < sizeLine := by rw [List.length_take]; show _ < 2 ^ 24; omega
      trivial
      refine wp_if (fun h1 => ?_) (fun h1 => ?_)
      · rcases hT with ⟨_, es, rfl, le, hE⟩ | ⟨e2, _⟩
        · trivial
          refine wp_lcN (fun r acc ρ => acc = ((es.take r).map fun (j : Nat) => PyData.int (j : Int)) ∧ ρ = [.sh (shU fx ac), .sh (.tuple ws), .sh (.list (rows.map iU)), .ow (.dict (mkD :: numb 0 rows)), .no, .ow (.list (js.map fun (j : Nat) => .int (j : Int))), x6, .ow (.list (tabs.take i)), .sh (.int (i : Int)), .sh (aU p), x10, x11, .no, .no]) ⟨rfl, rfl⟩ ?_ ?_
          · rintro r acc u ρ hr ha ⟨rfl, rfl⟩
            rw [List.getElem?_map] at hr
            obtain ⟨row, hrow, rfl⟩ : ∃ row, rows[r]? = some row ∧ u = iU row := by
              cases e : rows[r]? with
              | none => rw [e] at hr; cases hr
              | some row => rw [e] at hr; exact ⟨row, rfl, (Option.some.inj hr).symm⟩
            have hrl := (List.getElem?_eq_some_iff.mp hrow).1
            obtain ⟨e, he⟩ : ∃ e, es[r]? = some e := ⟨_, List.getElem?_eq_getElem (by omega)⟩
            obtain ⟨vs, hvs, T⟩ := hE r row e hrow he
            trivial
            refine ⟨by decide, ?_⟩
            refine wp_done1 hl T.1 T.2.1 T.2.2 ?_
            trivial
            rw [keyD_iU]
            trivial
            rw [lk_numb nd hvs]
            trivial
            rw [take_snoc he, List.map_append]
            rfl
          · rintro zs ρ' hz2 ⟨rfl, rfl⟩
            rw [List.length_map, ← le, List.take_length]
            trivial
            cases x4
            all_goals trivial
            all_goals rw [take_snoc ht]
            all_goals exact ⟨hz, _, _, _, _, _, rfl⟩
        · omega
      · rcases hT with ⟨e2, _⟩ | ⟨_, ess, rfl, le, hE⟩
        · omega
        · trivial
          refine ⟨by decide, ?_⟩
          refine wp_loopN (fun r ρ => ∃ (x11 : En), ρ = [.sh (shU fx ac), .sh (.tuple ws), .sh (.list (rows.map iU)), .ow (.dict (mkD :: numb 0 rows)), x4, .ow (.list (js.map fun (j : Nat) => .int (j : Int))), x6, .ow (.list (tabs.take i)), .sh (.int (i : Int)), .sh (aU p), .ow (.list ((ess.take r).map jU)), x11, .no, .no]) ⟨_, rfl⟩ ?_ ?_
          · rintro r u ρ hr ⟨x11, rfl⟩
            rw [List.getElem?_map] at hr
            obtain ⟨row, hrow, rfl⟩ : ∃ row, rows[r]? = some row ∧ u = iU row := by
              cases e : rows[r]? with
              | none => rw [e] at hr; cases hr
              | some row => rw [e] at hr; exact ⟨row, rfl, (Option.some.inj hr).symm⟩
            have hrl := (List.getElem?_eq_some_iff.mp hrow).1
            obtain ⟨es, he⟩ : ∃ es, ess[r]? = some es := ⟨_, List.getElem?_eq_getElem (by omega)⟩
            obtain ⟨lee, hE2⟩ := hE r row es hrow he
            have hz2 : (ess.take r).length < sizeLine := by rw [List.length_take]; show _ < 2 ^ 24; omega
            trivial
            refine wp_lcN (fun r2 acc ρ => acc = ((es.take r2).map fun (j : Nat) => PyData.int (j : Int)) ∧ ρ = [.sh (shU fx ac), .sh (.tuple ws), .sh (.list (rows.map iU)), .ow (.dict (mkD :: numb 0 rows)), x4, .ow (.list (js.map fun (j : Nat) => .int (j : Int))), x6, .ow (.list (tabs.take i)), .sh (.int (i : Int)), .sh (aU p), .ow (.list ((ess.take r).map jU)), .sh (iU row), .no, .no]) ⟨rfl, rfl⟩ ?_ ?_
            · rintro r2 acc u ρ hr2 ha ⟨rfl, rfl⟩
              rw [List.getElem?_map] at hr2
              obtain ⟨row2, hrow2, rfl⟩ : ∃ row, rows[r2]? = some row ∧ u = iU row := by
                cases e : rows[r2]? with
                | none => rw [e] at hr2; cases hr2
                | some row => rw [e] at hr2; exact ⟨row, rfl, (Option.some.inj hr2).symm⟩
              have hrl2 := (List.getElem?_eq_some_iff.mp hrow2).1
              obtain ⟨e, he2⟩ : ∃ e, es[r2]? = some e := ⟨_, List.getElem?_eq_getElem (by omega)⟩
              obtain ⟨vs, hvs, T⟩ := hE2 r2 row2 e hrow2 he2
              trivial
              refine ⟨by decide, ?_⟩
              refine wp_done2 hl T.1 T.2.1 T.2.2.1 T.2.2.2 ?_
              trivial
              rw [keyD_iU]
              trivial
              rw [lk_numb nd hvs]
              trivial
              rw [take_snoc he2, List.map_append]
              rfl
            · rintro zs ρ' hz3 ⟨rfl, rfl⟩
              rw [List.length_map, ← lee, List.take_length]
              trivial
              rw [take_snoc he, List.map_append]
              exact ⟨hz2, _, rfl⟩
          · rintro ρ' ⟨x11, rfl⟩
            rw [List.length_map, ← le, List.take_length]
            trivial
            rw [take_snoc ht]
            exact ⟨hz, _, _, _, _, _, rfl⟩
    · rintro ρ' ⟨x4, x8, x9, x10, x11, rfl⟩
      rw [enumU_len, List.length_map, ← hA.lt, List.take_length]
      trivial
      exact ⟨by decide, k⟩
end G
namespace G
open PySem PySem.Spec PyProof.Rows L2
theorem zip_inv {ws : List U} {row : List Int} {i : Nat} {u : U} (h : (zipU ws (row.map PyData.int))[i]? = some u) : ∃ w a, ws[i]? = some w ∧ row[i]? = some a ∧ u = .tuple [w, .int a] := by
  unfold zipU at h
  rw [List.getElem?_map] at h
  cases e : (ws.zip (row.map PyData.int))[i]? with
  | none => rw [e] at h; cases h
  | some p =>
    rw [e] at h
    rw [List.getElem?_zip_eq_some] at e
    obtain ⟨e1, e2⟩ := e
    rw [List.getElem?_map] at e2
    cases e3 : row[i]? with
    | none => rw [e3] at e2; cases e2
    | some a =>
      rw [e3] at e2
      have e4 : PyData.int a = p.2 := Option.some.inj e2
      have e5 : PyData.tuple [p.1, p.2] = u := Option.some.inj h
      exact ⟨p.1, a, e1, rfl, by rw [← e5, e4]⟩
theorem wp_due {fx : List U} {ac : List (List Nat × Int)} {ws : List U} {ns js : List Nat} {tabs : List U} {Q : U × List U → Prop} (hS : Shp fx ac) (h : WN ws ns) (hl : ws.length ≤ 3) (hA : Answer ws (rowsOf ns) fx.length ac js tabs)
    (k : Q (ansU (rowsOf ns) js tabs, [shU fx ac, .tuple ws])) : wp (m__law_due [shU fx ac, .tuple ws]) Q := by
  have bl : (rowsOf ns).length ≤ 64 := by
    have := wn_bound h hl ns.length
    rw [List.take_length] at this
    exact this
  have nd := rowsOf_nodup ns
  have hlf := hS.lf
  have hla := hS.la
  unfold m__law_due
  refine wp_def ?_
  unfold b__law_due
  trivial
  refine wp_tuples h hl ?_
  generalize rowsOf ns = rows at *
  trivial
  refine ⟨by decide, ⟨by omega, by omega⟩, ?_⟩
  refine wp_loopN (fun i ρ => ∃ (x4 : En), ρ = [.sh (shU fx ac), .sh (.tuple ws), .sh (.list (rows.map iU)), .ow (.list ((js.take i).map fun (j : Nat) => .int (j : Int))), x4, .no, .no, .no, .no, .no, .no, .no]) ⟨_, rfl⟩ ?_ ?_
  · rintro i u ρ hu ⟨x4, rfl⟩
    obtain ⟨hi, rfl⟩ := rangeU_get hu
    rw [Int.toNat_natCast] at hi
    have eu : (PyData.int (0 + (i : Int))) = .int (i : Int) := by rw [Int.zero_add]
    rw [eu]
    obtain ⟨j, hj⟩ : ∃ j, js[i]? = some j := ⟨_, List.getElem?_eq_getElem (by rw [hA.lj]; exact hi)⟩
    obtain ⟨row, hrow, hat⟩ := hA.th i j hj
    have hz : (js.take i).length < sizeLine := by rw [List.length_take]; show _ < 2 ^ 24; omega
    trivial
    refine wp_rowAt (v0 := 0) hat (fun n cs ts v hc => ?_) ?_
    · trivial
      exact ⟨.int v, atI_at (by omega) (by rw [Int.toNat_natCast, List.getElem?_map, hc]; rfl), rfl⟩
    · trivial
      rw [show gIndex (.list (rows.map iU)) (PyData.tuple (row.map PyData.int)) = some (.int (j : Nat)) from index_row nd hrow]
      trivial
      rw [take_snoc hj, List.map_append]
      exact ⟨hz, _, rfl⟩
  · rintro ρ' ⟨x4, rfl⟩
    rw [rangeU_len, Int.toNat_natCast, ← hA.lj, List.take_length]
    trivial
    refine ⟨by decide, ?_⟩
    refine wp_loopN (fun i ρ => ∃ (x4 x6 x7 x8 : En), ρ = [.sh (shU fx ac), .sh (.tuple ws), .sh (.list (rows.map iU)), .ow (.list (js.map fun (j : Nat) => .int (j : Int))), x4, .ow (.list (tabs.take i)), x6, x7, x8, .no, .no, .no]) ⟨_, _, _, _, rfl⟩ ?_ ?_
    · rintro i u ρ hu ⟨x4, x6, x7, x8, rfl⟩
      obtain ⟨w, hw, rfl⟩ := enumU_inv hu
      rw [List.getElem?_map] at hw
      obtain ⟨p, hp, rfl⟩ : ∃ p, ac[i]? = some p ∧ w = aU p := by
        cases e : ac[i]? with
        | none => rw [e] at hw; cases hw
        | some p => rw [e] at hw; exact ⟨p, rfl, (Option.some.inj hw).symm⟩
      have hi := (List.getElem?_eq_some_iff.mp hp).1
      obtain ⟨t, ht⟩ : ∃ t, tabs[i]? = some t := ⟨_, List.getElem?_eq_getElem (by rw [hA.lt]; exact hi)⟩
      have hT := hA.tb i p t hp ht
      have hz : (tabs.take i).length < sizeLine := by rw [List.length_take]; show _ < 2 ^ 24; omega
      trivial
      refine ⟨by decide, ?_⟩
      rcases hT with ⟨e1, es, rfl, le, hE⟩ | ⟨e2, ess, rfl, le, hE⟩
      · refine wp_loopN (fun r ρ => ∃ (x8 : En), ρ = [.sh (shU fx ac), .sh (.tuple ws), .sh (.list (rows.map iU)), .ow (.list (js.map fun (j : Nat) => .int (j : Int))), .sh (.int (i : Int)), .ow (.list (tabs.take i)), .sh (aU p), .ow (.list ((es.take r).map fun (j : Nat) => .int (j : Int))), x8, .no, .no, .no]) ⟨_, rfl⟩ ?_ ?_
        · rintro r u ρ hr ⟨x8, rfl⟩
          rw [List.getElem?_map] at hr
          obtain ⟨row, hrow, rfl⟩ : ∃ row, rows[r]? = some row ∧ u = iU row := by
            cases e : rows[r]? with
            | none => rw [e] at hr; cases hr
            | some row => rw [e] at hr; exact ⟨row, rfl, (Option.some.inj hr).symm⟩
          have hrl := (List.getElem?_eq_some_iff.mp hrow).1
          obtain ⟨e, he⟩ : ∃ e, es[r]? = some e := ⟨_, List.getElem?_eq_getElem (by omega)⟩
          obtain ⟨vs, hvs, T1, T2, T3⟩ := hE r row e hrow he
          have hz2 : (es.take r).length < sizeLine := by rw [List.length_take]; show _ < 2 ^ 24; omega
          trivial
          refine wp_pos e1 ?_
          trivial
          refine wp_lcN (fun t acc ρ => acc = (vs.take t).map PyData.int ∧ ρ = [.sh (shU fx ac), .sh (.tuple ws), .sh (.list (rows.map iU)), .ow (.list (js.map fun (j : Nat) => .int (j : Int))), .sh (.int (i : Int)), .ow (.list (tabs.take i)), .sh (aU p), .ow (.list ((es.take r).map fun (j : Nat) => .int (j : Int))), .sh (iU row), .no, .no, .no]) ⟨rfl, rfl⟩ ?_ ?_
          · rintro t acc u ρ ht2 ha ⟨rfl, rfl⟩
            obtain ⟨w, a, hw2, ha2, rfl⟩ := zip_inv ht2
            have hwl := (List.getElem?_eq_some_iff.mp hw2).1
            obtain ⟨v, hv⟩ : ∃ v, vs[t]? = some v := ⟨_, List.getElem?_eq_getElem (by omega)⟩
            obtain ⟨n, cs, ts, tt, rfl, htt, hg⟩ := T3 t w a v hw2 ha2 hv
            trivial
            refine ⟨tt, atI_at (by omega) (by rw [Int.toNat_natCast]; exact htt), ?_⟩
            dsimp only
            rw [hg]
            trivial
            rw [take_snoc hv, List.map_append]
            rfl
          · rintro zs ρ' hz3 ⟨rfl, rfl⟩
            rw [zipU_len, List.length_map, T1, Nat.min_self, ← T2, List.take_length]
            trivial
            rw [show gIndex (.list (rows.map iU)) (PyData.tuple (vs.map PyData.int)) = some (.int (e : Nat)) from index_row nd hvs]
            trivial
            rw [take_snoc he, List.map_append]
            exact ⟨hz2, _, rfl⟩
        · rintro ρ' ⟨x8, rfl⟩
          rw [List.length_map, ← le, List.take_length]
          trivial
          rw [take_snoc ht]
          exact ⟨hz, _, _, _, _, rfl⟩
      · refine wp_loopN (fun r ρ => ∃ (x8 : En), ρ = [.sh (shU fx ac), .sh (.tuple ws), .sh (.list (rows.map iU)), .ow (.list (js.map fun (j : Nat) => .int (j : Int))), .sh (.int (i : Int)), .ow (.list (tabs.take i)), .sh (aU p), .ow (.list ((ess.take r).map jU)), x8, .no, .no, .no]) ⟨_, rfl⟩ ?_ ?_
        · rintro r u ρ hr ⟨x8, rfl⟩
          rw [List.getElem?_map] at hr
          obtain ⟨row, hrow, rfl⟩ : ∃ row, rows[r]? = some row ∧ u = iU row := by
            cases e : rows[r]? with
            | none => rw [e] at hr; cases hr
            | some row => rw [e] at hr; exact ⟨row, rfl, (Option.some.inj hr).symm⟩
          have hrl := (List.getElem?_eq_some_iff.mp hrow).1
          obtain ⟨es, he⟩ : ∃ es, ess[r]? = some es := ⟨_, List.getElem?_eq_getElem (by omega)⟩
          obtain ⟨lee, hE2⟩ := hE r row es hrow he
          have hz2 : (ess.take r).length < sizeLine := by rw [List.length_take]; show _ < 2 ^ 24; omega
          trivial
          refine wp_neg (by omega) ?_
          trivial
          refine wp_lcN (fun r2 acc ρ => acc = ((es.take r2).map fun (j : Nat) => PyData.int (j : Int)) ∧ ρ = [.sh (shU fx ac), .sh (.tuple ws), .sh (.list (rows.map iU)), .ow (.list (js.map fun (j : Nat) => .int (j : Int))), .sh (.int (i : Int)), .ow (.list (tabs.take i)), .sh (aU p), .ow (.list ((ess.take r).map jU)), .sh (iU row), .no, .no, .no]) ⟨rfl, rfl⟩ ?_ ?_
          · rintro r2 acc u ρ hr2 ha ⟨rfl, rfl⟩
            rw [List.getElem?_map] at hr2
            obtain ⟨row2, hrow2, rfl⟩ : ∃ row, rows[r2]? = some row ∧ u = iU row := by
              cases e : rows[r2]? with
              | none => rw [e] at hr2; cases hr2
              | some row => rw [e] at hr2; exact ⟨row, rfl, (Option.some.inj hr2).symm⟩
            have hrl2 := (List.getElem?_eq_some_iff.mp hrow2).1
            obtain ⟨e, he2⟩ : ∃ e, es[r2]? = some e := ⟨_, List.getElem?_eq_getElem (by omega)⟩
            obtain ⟨vs, hvs, T⟩ := hE2 r2 row2 e hrow2 he2
            trivial
            refine wp_both hl T.1 T.2.1 T.2.2.1 T.2.2.2 ?_
            trivial
            rw [index_row nd hvs]
            trivial
            rw [take_snoc he2, List.map_append]
            rfl
          · rintro zs ρ' hz3 ⟨rfl, rfl⟩
            rw [List.length_map, ← lee, List.take_length]
            trivial
            rw [take_snoc he, List.map_append]
            exact ⟨hz2, _, rfl⟩
        · rintro ρ' ⟨x8, rfl⟩
          rw [List.length_map, ← le, List.take_length]
          trivial
          rw [take_snoc ht]
          exact ⟨hz, _, _, _, _, rfl⟩
    · rintro ρ' ⟨x4, x6, x7, x8, rfl⟩
      rw [enumU_len, List.length_map, ← hA.lt, List.take_length]
      trivial
      exact ⟨by decide, k⟩
end G
namespace G
open PySem PySem.Spec PyProof.Rows L2
/-- the worlds and how many things they have -/
def WW (fx : List U) (ac : List (List Nat × Int)) (ws : List U) (ns : List Nat) : Prop := F2 (fun w n => n ≤ 4 ∧ ∃ cs ts, w = wU n cs ts ∧ Wld fx ac n cs ts) ws ns
theorem ww_of {fx : List U} {ac : List (List Nat × Int)} : ∀ {ws : List U}, (∀ w ∈ ws, AWld fx ac w) → ∃ ns, WW fx ac ws ns
  | [], _ => ⟨[], .nil⟩
  | w :: ws, h => by
    obtain ⟨ns, hn⟩ := ww_of fun x hx => h x (List.mem_cons_of_mem _ hx)
    obtain ⟨n, cs, ts, h4, e, hW⟩ := h w (List.mem_cons_self ..)
    exact ⟨n :: ns, .cons ⟨h4, cs, ts, e, hW⟩ hn⟩
theorem WW.wn {fx : List U} {ac : List (List Nat × Int)} {ws : List U} {ns : List Nat} (h : WW fx ac ws ns) : WN ws ns := by
  induction h with
  | nil => exact .nil
  | cons r t ih =>
    obtain ⟨h4, cs, ts, e, _⟩ := r
    exact .cons ⟨h4, cs, ts, e⟩ ih
theorem rowAt_ex {fx : List U} {ac : List (List Nat × Int)} {at_ : Nat} (hat : at_ < fx.length) : ∀ {ws : List U} {ns : List Nat}, WW fx ac ws ns → ∃ row, RowAt ws at_ row ∧ F2 (fun (t : Int) (n : Nat) => 0 ≤ t ∧ t < n) row ns
  | _, _, .nil => ⟨[], ⟨rfl, (by intro i w v h; cases h)⟩, .nil⟩
  | _, _, .cons (a := w) (b := n) ⟨h4, cs, ts, e, hW⟩ t => by
    obtain ⟨row, hr, hf⟩ := rowAt_ex hat t
    have hc : cs[at_]? = some (cs[at_]'(by rw [hW.lc]; exact hat)) := List.getElem?_eq_getElem _
    have hg := hW.rg _ (List.mem_of_getElem? hc)
    refine ⟨_ :: row, ⟨by rw [List.length_cons, List.length_cons, hr.1], fun i x v hx hv => ?_⟩, .cons hg hf⟩
    cases i with
    | zero =>
      cases hx
      cases hv
      exact ⟨n, cs, ts, e, hc⟩
    | succ i => exact hr.2 i x v hx hv
end G
namespace G
open PySem PySem.Spec PyProof.Rows L2
theorem tell1_ex {fx : List U} {ac : List (List Nat × Int)} {kk : Nat} {p : List Nat × Int} (hp : ac[kk]? = some p) (h1 : p.2 = 1) : ∀ {ws : List U} {ns : List Nat} {row : List Int}, WW fx ac ws ns → F2 (fun (t : Int) (n : Nat) => 0 ≤ t ∧ t < n) row ns → ∃ vs, Tell1 ws kk row vs ∧ F2 (fun (t : Int) (n : Nat) => 0 ≤ t ∧ t < n) vs ns
  | _, _, _, .nil, .nil => ⟨[], ⟨rfl, rfl, (by intro i w a v h; cases h)⟩, .nil⟩
  | _, _, _, .cons (a := w) (b := n) ⟨h4, cs, ts, e, hW⟩ t, .cons (a := a0) ha t2 => by
    obtain ⟨vs, ⟨l1, l2, hT⟩, hf⟩ := tell1_ex hp h1 t t2
    obtain ⟨tb, htb, hTab⟩ := paired_at' hW.tb hp
    rcases hTab with ⟨_, tab, rfl, hl, hr⟩ | ⟨e2, _⟩
    · obtain ⟨v, hv⟩ : ∃ v, tab[a0.toNat]? = some v := ⟨_, List.getElem?_eq_getElem (by omega)⟩
      refine ⟨v :: vs, ⟨by rw [List.length_cons, List.length_cons, l1], by rw [List.length_cons, List.length_cons, l2], fun i x a y hx hxa hy => ?_⟩, .cons (hr _ (List.mem_of_getElem? hv)) hf⟩
      cases i with
      | zero =>
        cases hx
        cases hxa
        cases hy
        exact ⟨n, cs, ts, iU tab, e, htb, by rw [gIx_tuple]; exact atI_at ha.1 (by rw [List.getElem?_map, hv]; rfl)⟩
      | succ i => exact hT i x a y hx hxa hy
    · omega
theorem tell2_ex {fx : List U} {ac : List (List Nat × Int)} {kk : Nat} {p : List Nat × Int} (hp : ac[kk]? = some p) (h1 : p.2 = 2) : ∀ {ws : List U} {ns : List Nat} {row row2 : List Int}, WW fx ac ws ns → F2 (fun (t : Int) (n : Nat) => 0 ≤ t ∧ t < n) row ns → F2 (fun (t : Int) (n : Nat) => 0 ≤ t ∧ t < n) row2 ns → ∃ vs, Tell2 ws kk row row2 vs ∧ F2 (fun (t : Int) (n : Nat) => 0 ≤ t ∧ t < n) vs ns
  | _, _, _, _, .nil, .nil, .nil => ⟨[], ⟨rfl, rfl, rfl, (by intro i w a b v h; cases h)⟩, .nil⟩
  | _, _, _, _, .cons (a := w) (b := n) ⟨h4, cs, ts, e, hW⟩ t, .cons (a := a0) ha t2, .cons (a := b0) hb t3 => by
    obtain ⟨vs, ⟨l1, l3, l2, hT⟩, hf⟩ := tell2_ex hp h1 t t2 t3
    obtain ⟨tb, htb, hTab⟩ := paired_at' hW.tb hp
    rcases hTab with ⟨e2, _⟩ | ⟨_, rs, rfl, hl, hr⟩
    · omega
    · obtain ⟨tr, htr⟩ : ∃ tr, rs[a0.toNat]? = some tr := ⟨_, List.getElem?_eq_getElem (by omega)⟩
      obtain ⟨ll, hrr⟩ := hr tr (List.mem_of_getElem? htr)
      obtain ⟨v, hv⟩ : ∃ v, tr[b0.toNat]? = some v := ⟨_, List.getElem?_eq_getElem (by omega)⟩
      refine ⟨v :: vs, ⟨by rw [List.length_cons, List.length_cons, l1], by rw [List.length_cons, List.length_cons, l3], by rw [List.length_cons, List.length_cons, l2], fun i x a b y hx hxa hxb hy => ?_⟩, .cons (hrr _ (List.mem_of_getElem? hv)) hf⟩
      cases i with
      | zero =>
        cases hx
        cases hxa
        cases hxb
        cases hy
        exact ⟨n, cs, ts, .tuple (rs.map iU), iU tr, e, htb, by rw [gIx_tuple]; exact atI_at ha.1 (by rw [List.getElem?_map, htr]; rfl), by rw [gIx_tuple]; exact atI_at hb.1 (by rw [List.getElem?_map, hv]; rfl)⟩
      | succ i => exact hT i x a b y hx hxa hxb hy
end G
namespace G
open PySem PySem.Spec PyProof.Rows L2
theorem list_choice {α : Type} {P : Nat → α → Prop} : ∀ (n : Nat), (∀ i, i < n → ∃ x, P i x) → ∃ xs : List α, xs.length = n ∧ ∀ (i : Nat) (x : α), xs[i]? = some x → P i x
  | 0, _ => ⟨[], rfl, (by intro i x h; cases h)⟩
  | n + 1, h => by
    obtain ⟨xs, hl, hx⟩ := list_choice n fun i hi => h i (by omega)
    obtain ⟨y, hy⟩ := h n (by omega)
    refine ⟨xs ++ [y], by rw [List.length_append, List.length_singleton, hl], fun i x hi => ?_⟩
    by_cases c : i < n
    · rw [List.getElem?_append_left (by omega)] at hi
      exact hx i x hi
    · have hb := (List.getElem?_eq_some_iff.mp hi).1
      rw [List.length_append, List.length_singleton] at hb
      have e : i = n := by omega
      subst e
      rw [List.getElem?_append_right (by omega), hl, Nat.sub_self] at hi
      cases hi
      exact hy
theorem range_of : ∀ {ns : List Nat} {r : List Int}, r ∈ rowsOf ns → F2 (fun (t : Int) (n : Nat) => 0 ≤ t ∧ t < n) r ns := by
  have gen : ∀ (ns ms : List Nat) (rows : List (List Int)), (∀ r ∈ rows, F2 (fun (t : Int) (n : Nat) => 0 ≤ t ∧ t < n) r ms) → ∀ r ∈ ns.foldl step1 rows, F2 (fun (t : Int) (n : Nat) => 0 ≤ t ∧ t < n) r (ms ++ ns) := by
    intro ns
    induction ns with
    | nil => intro ms rows h r hr; rw [List.append_nil]; exact h r hr
    | cons n ns ih =>
      intro ms rows h r hr
      have q := ih (ms ++ [n]) (step1 rows n) (fun r hr => ?_) r hr
      · rw [List.append_assoc] at q
        exact q
      · obtain ⟨r0, h0, t, ht, e⟩ := mem_step1.mp hr
        rw [e]
        exact paired_snoc (h r0 h0) ⟨by omega, by omega⟩
  intro ns r hr
  exact gen ns [] [[]] (fun r hr => by rw [List.mem_singleton.mp hr]; exact .nil) r hr
theorem place_of {rows : List (List Int)} {r : List Int} (h : r ∈ rows) : ∃ j : Nat, rows[j]? = some r := List.mem_iff_getElem?.mp h
theorem answer_ex {fx : List U} {ac : List (List Nat × Int)} {ws : List U} {ns : List Nat} (hS : Shp fx ac) (h : WW fx ac ws ns) : ∃ js tabs, Answer ws (rowsOf ns) fx.length ac js tabs := by
  obtain ⟨js, hj, hjs⟩ := list_choice (P := fun at_ (j : Nat) => ∃ row, (rowsOf ns)[j]? = some row ∧ RowAt ws at_ row) fx.length fun at_ ha => by
    obtain ⟨row, hr, hf⟩ := rowAt_ex ha h
    obtain ⟨j, hj⟩ := place_of (mem_rowsOf hf)
    exact ⟨j, row, hj, hr⟩
  obtain ⟨tabs, ht, htabs⟩ := list_choice (P := fun kk (t : U) => ∀ p, ac[kk]? = some p → Tbl ws (rowsOf ns) kk p t) ac.length fun kk hk => by
    obtain ⟨p, hp⟩ : ∃ p, ac[kk]? = some p := ⟨_, List.getElem?_eq_getElem hk⟩
    rcases hS.re p (List.mem_of_getElem? hp) with h1 | h2
    · obtain ⟨es, he, hes⟩ := list_choice (P := fun r (e : Nat) => ∀ row, (rowsOf ns)[r]? = some row → ∃ vs, (rowsOf ns)[e]? = some vs ∧ Tell1 ws kk row vs) (rowsOf ns).length fun r hr => by
        obtain ⟨row, hrow⟩ : ∃ row, (rowsOf ns)[r]? = some row := ⟨_, List.getElem?_eq_getElem hr⟩
        obtain ⟨vs, hT, hf⟩ := tell1_ex hp h1 h (range_of (List.mem_of_getElem? hrow))
        obtain ⟨e, he⟩ := place_of (mem_rowsOf hf)
        exact ⟨e, fun row2 h2 => by rw [hrow] at h2; cases h2; exact ⟨vs, he, hT⟩⟩
      exact ⟨jU es, fun p2 hp2 => by rw [hp] at hp2; cases hp2; exact .inl ⟨h1, es, rfl, he, fun r row e hrow hee => hes r e hee row hrow⟩⟩
    · obtain ⟨ess, he, hess⟩ := list_choice (P := fun r (es : List Nat) => ∀ row, (rowsOf ns)[r]? = some row → es.length = (rowsOf ns).length ∧ ∀ (r2 : Nat) (row2 : List Int) (e : Nat), (rowsOf ns)[r2]? = some row2 → es[r2]? = some e → ∃ vs, (rowsOf ns)[e]? = some vs ∧ Tell2 ws kk row row2 vs) (rowsOf ns).length fun r hr => by
        obtain ⟨row, hrow⟩ : ∃ row, (rowsOf ns)[r]? = some row := ⟨_, List.getElem?_eq_getElem hr⟩
        obtain ⟨es, hel, hes⟩ := list_choice (P := fun r2 (e : Nat) => ∀ row2, (rowsOf ns)[r2]? = some row2 → ∃ vs, (rowsOf ns)[e]? = some vs ∧ Tell2 ws kk row row2 vs) (rowsOf ns).length fun r2 hr2 => by
          obtain ⟨row2, hrow2⟩ : ∃ row, (rowsOf ns)[r2]? = some row := ⟨_, List.getElem?_eq_getElem hr2⟩
          obtain ⟨vs, hT, hf⟩ := tell2_ex hp h2 h (range_of (List.mem_of_getElem? hrow)) (range_of (List.mem_of_getElem? hrow2))
          obtain ⟨e, he⟩ := place_of (mem_rowsOf hf)
          exact ⟨e, fun row3 h3 => by rw [hrow2] at h3; cases h3; exact ⟨vs, he, hT⟩⟩
        exact ⟨es, fun row3 h3 => by rw [hrow] at h3; cases h3; exact ⟨hel, fun r2 row2 e hr2 hee => hes r2 e hee row2 hr2⟩⟩
      exact ⟨.tuple (ess.map jU), fun p2 hp2 => by rw [hp] at hp2; cases hp2; exact .inr ⟨h2, ess, rfl, he, fun r row es hrow hee => hess r es hee row hrow⟩⟩
  exact ⟨js, tabs, hj, fun at_ j hj => hjs at_ j hj, ht, fun kk p t hp hk => htabs kk t hk p hp⟩
end G
namespace G
open PySem PySem.Spec PyProof.Rows L2
theorem self_jU (n : Nat) (js : List Nat) : Self (n + 2) (jU js) := self_tup fun u hu => by
  obtain ⟨j, _, rfl⟩ := List.mem_map.mp hu
  exact self_int n _
theorem self_ans {ws : List U} {rows : List (List Int)} {m : Nat} {ac : List (List Nat × Int)} {js : List Nat} {tabs : List U} (hA : Answer ws rows m ac js tabs) : Self 20 (ansU rows js tabs) := by
  have ht : ∀ t ∈ tabs, Self 18 t := by
    intro t ht
    obtain ⟨kk, hk⟩ := List.mem_iff_getElem?.mp ht
    have hl := (List.getElem?_eq_some_iff.mp hk).1
    obtain ⟨p, hp⟩ : ∃ p, ac[kk]? = some p := ⟨_, List.getElem?_eq_getElem (by rw [← hA.lt]; exact hl)⟩
    rcases hA.tb kk p t hp hk with ⟨_, es, rfl, _⟩ | ⟨_, ess, rfl, _⟩
    · exact self_jU 16 es
    · refine self_tup (n := 17) fun u hu => ?_
      obtain ⟨es, _, rfl⟩ := List.mem_map.mp hu
      exact self_jU 15 es
  refine self_tup (n := 19) fun u hu => ?_
  simp only [List.mem_cons, List.not_mem_nil, or_false] at hu
  rcases hu with rfl | rfl | rfl
  · exact self_int 18 _
  · exact self_jU 17 js
  · exact self_tup (n := 18) ht
end G
namespace G
open PySem PySem.Spec PyProof.Rows L2
theorem rows_one (n : Nat) : rowsOf [n] = (List.range n).map fun (t : Nat) => [(t : Int)] := by
  show step1 [[]] n = _
  unfold step1
  simp
theorem row_one {n j : Nat} {row : List Int} (h : (rowsOf [n])[j]? = some row) : j < n ∧ row = [(j : Int)] := by
  rw [rows_one, List.getElem?_map] at h
  cases e : (List.range n)[j]? with
  | none => rw [e] at h; cases h
  | some t =>
    rw [e] at h
    obtain ⟨h1, h2⟩ := List.getElem?_eq_some_iff.mp e
    rw [List.length_range] at h1
    rw [List.getElem_range] at h2
    subst h2
    exact ⟨h1, (Option.some.inj h).symm⟩
theorem rows_one_len (n : Nat) : (rowsOf [n]).length = n := by rw [rows_one, List.length_map, List.length_range]
theorem wU_inj {n n' : Nat} {cs cs' : List Int} {ts ts' : List U} (h : wU n cs ts = wU n' cs' ts') : cs = cs' ∧ ts = ts' := by
  injection h with h
  injection h with _ h
  injection h with h1 h2
  injection h2 with h2 _
  injection h2 with h2
  exact ⟨iU_inj h1, h2⟩
theorem things_one {n : Nat} {cs : List Int} {ts : List U} {m : Nat} {ac : List (List Nat × Int)} {js : List Nat} {tabs : List U} (hA : Answer [wU n cs ts] (rowsOf [n]) m ac js tabs) (hc : cs.length = m) : (js.map fun (j : Nat) => (j : Int)) = cs := by
  refine List.ext_getElem (by rw [List.length_map, hA.lj, hc]) fun i h1 h2 => ?_
  rw [List.getElem_map]
  rw [List.length_map] at h1
  have hj : js[i]? = some js[i] := List.getElem?_eq_getElem h1
  obtain ⟨row, hr, _, hat⟩ := hA.th i js[i] hj
  obtain ⟨_, rfl⟩ := row_one hr
  obtain ⟨n', cs', ts', e, hcs⟩ := hat 0 _ _ rfl rfl
  obtain ⟨rfl, _⟩ := wU_inj e
  have := (List.getElem?_eq_some_iff.mp hcs).2
  exact this.symm
end G
namespace G
open PySem PySem.Spec PyProof.Rows L2
theorem row_at (n r : Nat) (h : r < n) : (rowsOf [n])[r]? = some [(r : Int)] := by
  rw [rows_one, List.getElem?_map, List.getElem?_range h]
  rfl
theorem gIx_at {tab : List Int} {r : Nat} {e : Nat} (h : r < tab.length) (hg : gIx (iU tab) (.int (r : Int)) = some (.int (e : Int))) : (e : Int) = tab[r] := by
  have q : atI (tab.map PyData.int) (r : Int) = some (.int tab[r]) := atI_at (by omega) (by rw [Int.toNat_natCast, List.getElem?_map, List.getElem?_eq_getElem h]; rfl)
  have hg' : atI (tab.map PyData.int) (r : Int) = some (.int (e : Int)) := hg
  rw [q] at hg'
  injection hg' with h1
  injection h1 with h1
  exact h1.symm
theorem jU_eq {es : List Nat} {tab : List Int} (hl : es.length = tab.length) (h : ∀ (r e : Nat), es[r]? = some e → ∀ h : r < tab.length, (e : Int) = tab[r]) : jU es = iU tab := by
  show PyData.tuple (es.map fun (j : Nat) => PyData.int (j : Int)) = PyData.tuple (tab.map PyData.int)
  congr 1
  refine List.ext_getElem (by rw [List.length_map, List.length_map, hl]) fun i h1 h2 => ?_
  rw [List.length_map] at h1
  rw [List.getElem_map, List.getElem_map, h i es[i] (List.getElem?_eq_getElem h1) (by omega)]
theorem table1_one {n : Nat} {cs : List Int} {ts : List U} {kk : Nat} {p : List Nat × Int} {es : List Nat} {tab : List Int} (htb : ts[kk]? = some (iU tab)) (hl : tab.length = n) (le : es.length = (rowsOf [n]).length)
    (hE : ∀ (r : Nat) (row : List Int) (e : Nat), (rowsOf [n])[r]? = some row → es[r]? = some e → ∃ vs, (rowsOf [n])[e]? = some vs ∧ Tell1 [wU n cs ts] kk row vs) : jU es = iU tab := by
  rw [rows_one_len] at le
  refine jU_eq (by omega) fun r e he hr => ?_
  obtain ⟨vs, hvs, _, _, hT⟩ := hE r _ e (row_at n r (by omega)) he
  obtain ⟨_, rfl⟩ := row_one hvs
  obtain ⟨n', cs', ts', t, ew, ht, hg⟩ := hT 0 _ _ _ rfl rfl rfl
  obtain ⟨rfl, rfl⟩ := wU_inj ew
  rw [htb] at ht
  cases ht
  exact gIx_at hr hg
end G
namespace G
open PySem PySem.Spec PyProof.Rows L2
theorem table2_one {n : Nat} {cs : List Int} {ts : List U} {kk : Nat} {ess : List (List Nat)} {rs : List (List Int)} (htb : ts[kk]? = some (.tuple (rs.map iU))) (hl : rs.length = n) (hrl : ∀ x ∈ rs, x.length = n) (le : ess.length = (rowsOf [n]).length)
    (hE : ∀ (r : Nat) (row : List Int) (es : List Nat), (rowsOf [n])[r]? = some row → ess[r]? = some es → es.length = (rowsOf [n]).length ∧
    ∀ (r2 : Nat) (row2 : List Int) (e : Nat), (rowsOf [n])[r2]? = some row2 → es[r2]? = some e → ∃ vs, (rowsOf [n])[e]? = some vs ∧ Tell2 [wU n cs ts] kk row row2 vs) : ess.map jU = rs.map iU := by
  rw [rows_one_len] at le hE
  refine List.ext_getElem (by rw [List.length_map, List.length_map, le, hl]) fun i h1 h2 => ?_
  rw [List.length_map] at h1 h2
  rw [List.getElem_map, List.getElem_map]
  have he : ess[i]? = some ess[i] := List.getElem?_eq_getElem h1
  have hrs : rs[i]? = some rs[i] := List.getElem?_eq_getElem h2
  obtain ⟨lee, hE2⟩ := hE i _ ess[i] (row_at n i (by omega)) he
  have hri := hrl rs[i] (List.mem_of_getElem? hrs)
  refine jU_eq (by omega) fun r e hee hr => ?_
  obtain ⟨vs, hvs, _, _, _, hT⟩ := hE2 r _ e (row_at n r (by omega)) hee
  obtain ⟨_, rfl⟩ := row_one hvs
  obtain ⟨n', cs', ts', t, tr, ew, ht, hg, hg2⟩ := hT 0 _ _ _ _ rfl rfl rfl rfl
  obtain ⟨rfl, rfl⟩ := wU_inj ew
  rw [htb] at ht
  cases ht
  have q : atI (rs.map iU) (i : Int) = some (iU rs[i]) := atI_at (by omega) (by rw [Int.toNat_natCast, List.getElem?_map, hrs]; rfl)
  have hg' : atI (rs.map iU) (i : Int) = some tr := hg
  rw [q] at hg'
  cases hg'
  exact gIx_at hr hg2
theorem tables_one {fx : List U} {n : Nat} {cs : List Int} {ts : List U} {m : Nat} {ac : List (List Nat × Int)} {js : List Nat} {tabs : List U} (hW : Wld fx ac n cs ts) (hA : Answer [wU n cs ts] (rowsOf [n]) m ac js tabs) : tabs = ts := by
  have lt := paired_len hW.tb
  have hlt := hA.lt
  refine List.ext_getElem (by omega) fun i h1 h2 => ?_
  obtain ⟨p, hp⟩ : ∃ p, ac[i]? = some p := ⟨_, List.getElem?_eq_getElem (by omega)⟩
  obtain ⟨t, ht, hTab⟩ := paired_at' hW.tb hp
  have e2 := (List.getElem?_eq_some_iff.mp ht).2
  rw [e2]
  have hT := hA.tb i p tabs[i] hp (List.getElem?_eq_getElem h1)
  rcases hT with ⟨h1p, es, e, le, hE⟩ | ⟨h2p, ess, e, le, hE⟩
  · rcases hTab with ⟨_, tab, rfl, hl, _⟩ | ⟨h3, _⟩
    · rw [e]; exact table1_one (p := p) ht hl le hE
    · omega
  · rcases hTab with ⟨h3, _⟩ | ⟨_, rs, rfl, hl, hr⟩
    · omega
    · rw [e, table2_one ht hl (fun x hx => (hr x hx).1) le hE]
theorem one_world {fx : List U} {n : Nat} {cs : List Int} {ts : List U} {ac : List (List Nat × Int)} {js : List Nat} {tabs : List U} (hW : Wld fx ac n cs ts) (hA : Answer [wU n cs ts] (rowsOf [n]) fx.length ac js tabs) : ansU (rowsOf [n]) js tabs = wU n cs ts := by
  have e1 := things_one hA hW.lc
  have e2 := tables_one hW hA
  have e3 : jU js = iU cs := by
    show PyData.tuple (js.map fun (j : Nat) => PyData.int (j : Int)) = PyData.tuple (cs.map PyData.int)
    rw [← e1, List.map_map]
    rfl
  show PyData.tuple [.int ((rowsOf [n]).length : Nat), jU js, .tuple tabs] = _
  rw [rows_one_len, e2, e3]
end G
namespace G
open PySem PySem.Spec PyProof.Rows L2
mutual
theorem eqv_self : ∀ d : U, d.canLay0 = true → PyData.eqv d d = true
  | .none, _ => rfl
  | .bool b, _ => by show (b == b) = true; exact beq_self_eq_true _
  | .int i, _ => by show (i == i) = true; exact beq_self_eq_true _
  | .str x, _ => by show (x == x) = true; exact beq_self_eq_true _
  | .list xs, h => by show PyData.eqvAll xs xs = true; exact eqvAll_self xs h
  | .tuple xs, h => by show PyData.eqvAll xs xs = true; exact eqvAll_self xs h
  | .dict _, h => by cases h
theorem eqvAll_self : ∀ ds : List U, PyData.canLayAll0 ds = true → PyData.eqvAll ds ds = true
  | [], _ => rfl
  | d :: ds, h => by
    have h' : (PyData.canLay0 d && PyData.canLayAll0 ds) = true := h
    rw [Bool.and_eq_true] at h'
    show (PyData.eqv d d && PyData.eqvAll ds ds) = true
    rw [eqv_self d h'.1, eqvAll_self ds h'.2]
    rfl
end
theorem lay_all {xs : List U} (h : ∀ x ∈ xs, x.canLay0 = true) : PyData.canLayAll0 xs = true := by
  induction xs with
  | nil => rfl
  | cons x xs ih =>
    show (PyData.canLay0 x && PyData.canLayAll0 xs) = true
    rw [h x (List.mem_cons_self ..), ih fun y hy => h y (List.mem_cons_of_mem _ hy)]
    rfl
theorem dep_all {xs : List U} {k : Nat} (h : ∀ x ∈ xs, x.depth ≤ k) : PyData.depthAll xs ≤ k := by
  induction xs with
  | nil => exact Nat.zero_le _
  | cons x xs ih =>
    show max (PyData.depth x) (PyData.depthAll xs) ≤ k
    have h1 := h x (List.mem_cons_self ..)
    have h2 := ih fun y hy => h y (List.mem_cons_of_mem _ hy)
    omega
theorem ne_world {fx : List U} {n : Nat} {cs : List Int} {ts : List U} {ac : List (List Nat × Int)} (hW : Wld fx ac n cs ts) : gNe (wU n cs ts) (wU n cs ts) = some (.bool false) := by
  have tab : ∀ t ∈ ts, t.canLay0 = true ∧ t.depth ≤ 2 := by
    intro t ht
    obtain ⟨i, hi⟩ := List.mem_iff_getElem?.mp ht
    have lt := paired_len hW.tb
    have hl := (List.getElem?_eq_some_iff.mp hi).1
    obtain ⟨p, hp⟩ : ∃ p, ac[i]? = some p := ⟨_, List.getElem?_eq_getElem (by omega)⟩
    obtain ⟨t', ht', hT⟩ := paired_at' hW.tb hp
    rw [hi] at ht'
    cases ht'
    rcases hT with ⟨_, tab, rfl, _⟩ | ⟨_, rs, rfl, _⟩
    · exact ⟨lay_ints tab, by show PyData.depthAll (tab.map PyData.int) + 1 ≤ 2; rw [dep_ints]; decide⟩
    · exact ⟨lay_rows rs, by show PyData.depthAll (rs.map iU) + 1 ≤ 2; have := dep_rows rs; omega⟩
  have l1 : PyData.canLayAll0 ts = true := lay_all fun t ht => (tab t ht).1
  have d1 : PyData.depthAll ts ≤ 2 := dep_all fun t ht => (tab t ht).2
  have lay : (wU n cs ts).canLay0 = true := by
    show (PyData.canLay0 (.int (n : Int)) && (PyData.canLayAll0 (cs.map PyData.int) && (PyData.canLayAll0 ts && true))) = true
    rw [lay_ints, l1]
    rfl
  have sh : SeqAt.shaped (wU n cs ts) = true := by
    show ((wU n cs ts).canLay0 && decide (max (PyData.depth (.int (n : Int))) (max (PyData.depthAll (cs.map PyData.int) + 1) (max (PyData.depthAll ts + 1) 0)) + 1 ≤ 64)) = true
    have d0 : PyData.depth (.int (n : Int)) = 0 := rfl
    rw [lay, dep_ints, d0, decide_eq_true (by omega)]
    rfl
  show ((if SeqAt.shaped (wU n cs ts) = true ∧ SeqAt.shaped (wU n cs ts) = true then some (PyData.eqv (wU n cs ts) (wU n cs ts)) else none).bind fun b => some (PyData.bool !b)) = _
  rw [if_pos ⟨sh, sh⟩, eqv_self _ lay]
  rfl
end G
namespace G
open PySem PySem.Spec PyProof.Rows L2
theorem law_plain : ∀ ns : List Int, OkIn ns → ∃ us, m_law [.list (ns.map .int)] = some (.bool true, us) := by
  intro ns hns
  have hn := hns.1
  suffices h : wp (m_law [.list (ns.map .int)]) (fun p => p.1 = .bool true) by
    obtain ⟨⟨u, us⟩, e, q⟩ := h
    exact ⟨us, by rw [e, show u = .bool true from q]⟩
  unfold m_law
  refine wp_def ?_
  unfold b_law
  trivial
  refine wp_loopN (fun i ρ => ∃ (x1 x2 x3 x4 : En), ρ = [.sh (.list (ns.map .int)), x1, x2, x3, x4]) ⟨_, _, _, _, rfl⟩ ?_ ?_
  · rintro i u ρ hu ⟨x1, x2, x3, x4, rfl⟩
    obtain ⟨hi, rfl⟩ := rangeU_get hu
    have h0 : 0 ≤ (1 : Int) + (i : Int) := by omega
    generalize (1 : Int) + (i : Int) = I at h0 ⊢
    trivial
    refine wp_feed hn h0 fun f => ?_
    trivial
    refine wp_shape fun fx ac f1 hS => ?_
    trivial
    refine wp_worlds hS fun ws f2 hl1 hl3 hw => ?_
    obtain ⟨ms, hWW⟩ := ww_of hw
    obtain ⟨js, tabs, hA⟩ := answer_ex hS hWW
    trivial
    refine wp_product hS hWW.wn hl3 hA ?_
    trivial
    refine wp_due hS hWW.wn hl3 hA ?_
    trivial
    refine self_ans hA _ ?_
    trivial
    match ws, hl1, hl3, hw, hWW with
    | w :: rest, _, _, hw, hWW =>
      obtain ⟨n, cs, ts, h4, rfl, hW⟩ := hw w (List.mem_cons_self ..)
      rw [cutU_pre (by decide)]
      have e1 : (wU n cs ts :: rest).take (1 : Int).toNat = [wU n cs ts] := rfl
      rw [e1]
      have hWW1 : WW fx ac [wU n cs ts] [n] := .cons ⟨h4, cs, ts, rfl, hW⟩ .nil
      obtain ⟨js1, tabs1, hA1⟩ := answer_ex hS hWW1
      refine wp_product hS hWW1.wn (by simp) hA1 ?_
      rw [one_world hW hA1]
      trivial
      rw [ne_world hW]
      trivial
      exact ⟨_, _, _, _, rfl⟩
  · rintro ρ' ⟨x1, x2, x3, x4, rfl⟩
    trivial
end G
open PySem PySem.W PyProof.Rows in
set_option maxRecDepth 100000 in
set_option maxHeartbeats 0 in
theorem PySem.Challenge.cw_shapefree_k62_products_holds : PySem.Challenge.rw_shapefree_k62_products.Holds := by
  w_on; o_law; k_head; (case hw => w_witness2)
  k_fill
  refine G.walk (l := PySem.Challenge.rw_shapefree_k62_products) rfl rfl (fun w h Y => PySem.W.kIn_of Y) ?F
  case F =>
    intro w mg fa h KX Gm hmg
    refine' G.all_mk KX Gm hmg G.law_plain ?a0 ?l0 ?c0 ?k0 ?a1 ?l1 ?c1 ?k1 ?a2 ?l2 ?c2 ?k2 ?a3 ?l3 ?c3 ?k3 ?a4 ?l4 ?c4 ?k4 ?a5 ?l5 ?c5 ?k5 ?a6 ?l6 ?c6 ?k6 ?a7 ?l7 ?c7 ?k7 ?a8 ?l8 ?c8 ?k8 ?a9 ?l9 ?c9 ?k9 ?a10 ?l10 ?c10 ?k10 ?a11 ?l11 ?c11 ?k11 ?a12 ?l12 ?c12 ?k12 ?a13 ?l13 ?c13 ?k13 ?a14 ?l14 ?c14 ?k14 ?z_all ?z_bool ?z_enumerate ?z_int ?z_isinstance ?z_len ?z_range ?z_tuple ?z_zip
    (case a0 => k_is)
    (case l0 => k_is)
    (case c0 => k_is)
    (case k0 => k_is)
    (case a1 => k_is)
    (case l1 => k_is)
    (case c1 => k_is)
    (case k1 => k_is)
    (case a2 => k_is)
    (case l2 => k_is)
    (case c2 => k_is)
    (case k2 => k_is)
    (case a3 => k_is)
    (case l3 => k_is)
    (case c3 => k_is)
    (case k3 => k_is)
    (case a4 => k_is)
    (case l4 => k_is)
    (case c4 => k_is)
    (case k4 => k_is)
    (case a5 => k_is)
    (case l5 => k_is)
    (case c5 => k_is)
    (case k5 => k_is)
    (case a6 => k_is)
    (case l6 => k_is)
    (case c6 => k_is)
    (case k6 => k_is)
    (case a7 => k_is)
    (case l7 => k_is)
    (case c7 => k_is)
    (case k7 => k_is)
    (case a8 => k_is)
    (case l8 => k_is)
    (case c8 => k_is)
    (case k8 => k_is)
    (case a9 => k_is)
    (case l9 => k_is)
    (case c9 => k_is)
    (case k9 => k_is)
    (case a10 => k_is)
    (case l10 => k_is)
    (case c10 => k_is)
    (case k10 => k_is)
    (case a11 => k_is)
    (case l11 => k_is)
    (case c11 => k_is)
    (case k11 => k_is)
    (case a12 => k_is)
    (case l12 => k_is)
    (case c12 => k_is)
    (case k12 => k_is)
    (case a13 => k_is)
    (case l13 => k_is)
    (case c13 => k_is)
    (case k13 => k_is)
    (case a14 => k_is)
    (case l14 => k_is)
    (case c14 => k_is)
    (case k14 => k_is)
    (case z_all => k_is)
    (case z_bool => k_is)
    (case z_enumerate => k_is)
    (case z_int => k_is)
    (case z_isinstance => k_is)
    (case z_len => k_is)
    (case z_range => k_is)
    (case z_tuple => k_is)
    (case z_zip => k_is)
#print axioms PySem.Challenge.cw_shapefree_k62_products_holds
