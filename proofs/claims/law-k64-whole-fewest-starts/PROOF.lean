import PyProof.Rows.All
import Wide.All
import OpenK.AllK
import Wide.FinOn
import HandS.ForMost
import HandS.TupAny
import HandS.Deep
import HandS.IsInst
import HandS.Style
import HandS.TupSets
import KE.KDictKeyed
import KE.SortData
import KE.KDictSum
import KE.KDictList
import HandS.ExcValue
import KE.DataCmp
import PySem.Challenge.RW_twobesides_k64_whole_fewest_starts
import KE.DatumOrd
set_option Elab.async false
set_option linter.all false
set_option maxRecDepth 100000
set_option maxHeartbeats 4000000
/-! The fewest starts that tell scripts apart: a heap-free layer of data over the hand layer, one promise for each def, plain mathematics, the theorem. -/
namespace DL
/-! The data layer: what a reading does, told by data and slots alone, no heap in sight. -/
section DL1
open PySem PySem.Spec PyProof.Rows L2

structure Ct where
  P : Program
  w : World
  K : PySem.W.Frag

/-! ### data as keys -/
mutual
def nk : PyData → NestedKey
  | .none => .none
  | .bool b => .num (if b then 1 else 0)
  | .int i => .num i
  | .str x => .text x
  | .tuple ds => .tup (nks ds)
  | .list _ => .none
  | .dict _ => .none
def nks : List PyData → List NestedKey
  | [] => []
  | d :: ds => nk d :: nks ds
end
mutual
def keyB : PyData → Bool
  | .none => true
  | .bool _ => true
  | .int _ => true
  | .str _ => true
  | .tuple ds => keyBs ds
  | .list _ => false
  | .dict _ => false
def keyBs : List PyData → Bool
  | [] => true
  | d :: ds => keyB d && keyBs ds
end
def keyOk (d : PyData) : Bool := keyB d && decide ((nk d).depth ≤ 8)

/-- what is true of a dict's object: the keys' tuples stand at told places -/
def DctPhi (C : Ct) (a : Addr) (es : List (NestedKey × Addr × V)) (h : Heap) : Prop :=
  (a == sysModules) = false ∧ es.length ≤ sizeLine ∧ (es.map (·.1)).Nodup ∧
  ∃ xs : List (NestedKey × Addr × Value), Paired (fun (e : NestedKey × Addr × V) (x : NestedKey × Addr × Value) => e.1 = x.1 ∧ e.2.1 = x.2.1 ∧ RelV e.2.2 x.2.2) es xs ∧
    ∃ o ds ep, h.get? a = some o ∧ o.ExactDict ∧ o.data = .dict ds ep ∧ ds.toList = xs.map (entryOfKey (nestedKind C.P C.w))
def dctO (C : Ct) (a : Addr) (es : List (NestedKey × Addr × V)) : HO := .ext (DctPhi C a es)

/-! ### data in the abstract heap -/
mutual
inductive Dq (C : Ct) (G : Hp) : V → PyData → Prop
  | non : Dq C G .non .none
  | bl (b : Bool) : Dq C G (.bl b) (.bool b)
  | int (i : Int) : Dq C G (.int i) (.int i)
  | str (x : Str) : Dq C G (.str x) (.str x)
  | lst {a : Addr} {xs : List V} {ds : List PyData} : G a = some (.lst xs) → DqAll C G xs ds → Dq C G (.ref a) (.list ds)
  | tup {a : Addr} {xs : List V} {ds : List PyData} : G a = some (.tup xs) → DqAll C G xs ds → Dq C G (.ref a) (.tuple ds)
  | dct {a : Addr} {es : List (NestedKey × Addr × V)} {kvs : List (PyData × PyData)} : G a = some (dctO C a es) → DqKv C G es kvs → Dq C G (.ref a) (.dict kvs)
inductive DqAll (C : Ct) (G : Hp) : List V → List PyData → Prop
  | nil : DqAll C G [] []
  | cons {v : V} {vs : List V} {d : PyData} {ds : List PyData} : Dq C G v d → DqAll C G vs ds → DqAll C G (v :: vs) (d :: ds)
inductive DqKv (C : Ct) (G : Hp) : List (NestedKey × Addr × V) → List (PyData × PyData) → Prop
  | nil : DqKv C G [] []
  | cons {k : NestedKey} {b : Addr} {v : V} {kd vd : PyData} {es : List (NestedKey × Addr × V)} {kvs : List (PyData × PyData)} : Dq C G (.ref b) kd → keyOk kd = true → nk kd = k → Dq C G v vd → DqKv C G es kvs → DqKv C G ((k, b, v) :: es) ((kd, vd) :: kvs)
end
section
variable {C : Ct} {G G' : Hp}
mutual
theorem Dq.mono (e : ∀ a o, G a = some o → G' a = some o) : ∀ {v : V} {d : PyData}, Dq C G v d → Dq C G' v d
  | _, _, .non => .non
  | _, _, .bl b => .bl b
  | _, _, .int i => .int i
  | _, _, .str x => .str x
  | _, _, .lst h r => .lst (e _ _ h) (DqAll.mono e r)
  | _, _, .tup h r => .tup (e _ _ h) (DqAll.mono e r)
  | _, _, .dct h r => .dct (e _ _ h) (DqKv.mono e r)
theorem DqAll.mono (e : ∀ a o, G a = some o → G' a = some o) : ∀ {vs : List V} {ds : List PyData}, DqAll C G vs ds → DqAll C G' vs ds
  | _, _, .nil => .nil
  | _, _, .cons h r => .cons (Dq.mono e h) (DqAll.mono e r)
theorem DqKv.mono (e : ∀ a o, G a = some o → G' a = some o) : ∀ {es : List (NestedKey × Addr × V)} {kvs : List (PyData × PyData)}, DqKv C G es kvs → DqKv C G' es kvs
  | _, _, .nil => .nil
  | _, _, .cons h1 h2 h3 h4 r => .cons (Dq.mono e h1) h2 h3 (Dq.mono e h4) (DqKv.mono e r)
end
theorem DqAll.length : ∀ {vs : List V} {ds : List PyData}, DqAll C G vs ds → vs.length = ds.length
  | _, _, .nil => rfl
  | _, _, .cons _ r => by rw [List.length_cons, List.length_cons, DqAll.length r]
theorem DqAll.append : ∀ {vs ws : List V} {ds es : List PyData}, DqAll C G vs ds → DqAll C G ws es → DqAll C G (vs ++ ws) (ds ++ es)
  | _, _, _, _, .nil, s => s
  | _, _, _, _, .cons h r, s => .cons h (DqAll.append r s)
theorem DqAll.get : ∀ {vs : List V} {ds : List PyData} {i : Nat} {d : PyData}, DqAll C G vs ds → ds[i]? = some d → ∃ v, vs[i]? = some v ∧ Dq C G v d
  | _, _, i, d, .nil, e => by simp at e
  | _, _, 0, d, .cons h r, e => by
    simp at e
    subst e
    exact ⟨_, rfl, h⟩
  | _, _, i + 1, d, .cons h r, e => by
    obtain ⟨v, h1, h2⟩ := DqAll.get (i := i) r (by simpa using e)
    exact ⟨v, by simpa using h1, h2⟩
theorem DqAll.getV : ∀ {vs : List V} {ds : List PyData} {i : Nat} {v : V}, DqAll C G vs ds → vs[i]? = some v → ∃ d, ds[i]? = some d ∧ Dq C G v d
  | _, _, i, d, .nil, e => by simp at e
  | _, _, 0, d, .cons h r, e => by
    simp at e
    subst e
    exact ⟨_, rfl, h⟩
  | _, _, i + 1, d, .cons h r, e => by
    obtain ⟨v, h1, h2⟩ := DqAll.getV (i := i) r (by simpa using e)
    exact ⟨v, by simpa using h1, h2⟩
theorem DqAll.drop : ∀ {vs : List V} {ds : List PyData} (n : Nat), DqAll C G vs ds → DqAll C G (vs.drop n) (ds.drop n)
  | _, _, 0, r => r
  | _, _, _ + 1, .nil => .nil
  | _, _, n + 1, .cons _ r => DqAll.drop n r
theorem DqKv.length : ∀ {es : List (NestedKey × Addr × V)} {kvs : List (PyData × PyData)}, DqKv C G es kvs → es.length = kvs.length
  | _, _, .nil => rfl
  | _, _, .cons _ _ _ _ r => by rw [List.length_cons, List.length_cons, DqKv.length r]
end

/-! no dict within -/
mutual
def nodict : PyData → Bool
  | .none => true
  | .bool _ => true
  | .int _ => true
  | .str _ => true
  | .tuple ds => nodicts ds
  | .list ds => nodicts ds
  | .dict _ => false
def nodicts : List PyData → Bool
  | [] => true
  | d :: ds => nodict d && nodicts ds
end
section
variable {C : Ct} {G H : Hp}
mutual
theorem Dq.dp (e : ∀ a o, G a = some o → H a = some o) : ∀ {v : V} {d : PyData}, Dq C G v d → nodict d = true → Dp C.K H v d
  | _, _, .non, _ => .non
  | _, _, .bl b, _ => .bl b
  | _, _, .int i, _ => .int i
  | _, _, .str x, _ => .str x
  | _, _, .lst h r, n => .lst (SqL.of (e _ _ h)) (DqAll.dp e r (by simpa [nodict] using n))
  | _, _, .tup h r, n => .tup (SqT.of (e _ _ h)) (DqAll.dp e r (by simpa [nodict] using n))
  | _, _, .dct h r, n => by simp [nodict] at n
theorem DqAll.dp (e : ∀ a o, G a = some o → H a = some o) : ∀ {vs : List V} {ds : List PyData}, DqAll C G vs ds → nodicts ds = true → DpAll C.K H vs ds
  | _, _, .nil, _ => .nil
  | _, _, .cons h r, n => by
    rw [nodicts, Bool.and_eq_true] at n
    exact .cons (Dq.dp e h n.1) (DqAll.dp e r n.2)
end
end

/-! ### two heaps: what is data (G, within H), what is tracked (H); the cup -/
structure Wd (c : Option Addr) (G H : Hp) : Prop where
  ex : ∀ a o, G a = some o → H a = some o
  cup : ∀ a, c = some a → G a = none ∧ ∃ x y : Int, H a = some (.lst [.int x, .int y]) ∧ 0 ≤ y ∧ y < 2 ^ 40
structure Stp (c : Option Addr) (G H G' H' : Hp) : Prop where
  wd : Wd c G' H'
  gg : ∀ a o, G a = some o → G' a = some o
  hh : ∀ a o, H a = some o → c ≠ some a → H' a = some o
  fr : ∀ a o, G' a = some o → G a = some o ∨ H a = none
section
variable {c : Option Addr} {G H G1 H1 G2 H2 : Hp}
theorem Stp.refl (w : Wd c G H) : Stp c G H G H := ⟨w, fun _ _ h => h, fun _ _ h _ => h, fun _ _ h => .inl h⟩
theorem Stp.trk (s : Stp c G H G1 H1) (w : Wd c G H) {a : Addr} (h : H1 a = none) : H a = none := by
  cases q : H a with
  | none => rfl
  | some o =>
    by_cases e : c = some a
    · obtain ⟨_, x, y, h2, _⟩ := s.wd.cup a e
      rw [h] at h2
      cases h2
    · have := s.hh a o q e
      rw [h] at this
      cases this
theorem Stp.trans (w : Wd c G H) (s : Stp c G H G1 H1) (t : Stp c G1 H1 G2 H2) : Stp c G H G2 H2 where
  wd := t.wd
  gg := fun a o h => t.gg a o (s.gg a o h)
  hh := fun a o h n => t.hh a o (s.hh a o h n) n
  fr := fun a o h => by
    rcases t.fr a o h with h | h
    · exact s.fr a o h
    · exact .inr (s.trk w h)
/-- a new object that is data -/
theorem Stp.new {p : Addr} {o : HO} (w : Wd c G H) (n : H p = none) : Stp c G H (upd G p o) (upd H p o) := by
  have ng : G p = none := by
    cases q : G p with
    | none => rfl
    | some u =>
      have := w.ex p u q
      rw [n] at this
      cases this
  refine ⟨⟨fun a u h => ?_, fun a e => ?_⟩, fun a u h => ?_, fun a u h _ => ?_, fun a u h => ?_⟩
  · by_cases q : a = p
    · subst q
      rw [upd_same] at h ⊢
      exact h
    · rw [upd_ne q] at h ⊢
      exact w.ex a u h
  · obtain ⟨h1, x, y, h2, h3⟩ := w.cup a e
    have q : a ≠ p := fun z => by
      rw [z, n] at h2
      cases h2
    rw [upd_ne q, upd_ne q]
    exact ⟨h1, x, y, h2, h3⟩
  · rw [upd_ne (ne_of_none h ng)]
    exact h
  · rw [upd_ne (ne_of_none h n)]
    exact h
  · by_cases q : a = p
    · subst q
      exact .inr n
    · rw [upd_ne q] at h
      exact .inl h
/-- a new object that is not data (yet) -/
theorem Stp.raw {p : Addr} {o : HO} (w : Wd c G H) (n : H p = none) : Stp c G H G (upd H p o) := by
  refine ⟨⟨fun a u h => ?_, fun a e => ?_⟩, fun a u h => h, fun a u h _ => ?_, fun a u h => .inl h⟩
  · rw [upd_ne (ne_of_none (w.ex a u h) n)]
    exact w.ex a u h
  · obtain ⟨h1, x, y, h2, h3⟩ := w.cup a e
    have q : a ≠ p := fun z => by
      rw [z, n] at h2
      cases h2
    rw [upd_ne q]
    exact ⟨h1, x, y, h2, h3⟩
  · rw [upd_ne (ne_of_none h n)]
    exact h
end

/-! ### slots -/
inductive Sl
  | un
  | d (x : PyData)
  | cup
  | raw (v : V)
def SlOk (C : Ct) (c : Option Addr) (G : Hp) : Option V → Sl → Prop
  | _, .un => True
  | s, .d x => ∃ v, s = some v ∧ Dq C G v x
  | s, .cup => ∃ a, c = some a ∧ s = some (.ref a)
  | s, .raw v => s = some v
abbrev En (C : Ct) (c : Option Addr) (G : Hp) : L2.St → List Sl → Prop := Paired (SlOk C c G)
section
variable {C : Ct} {c : Option Addr} {G G' : Hp}
theorem SlOk.mono (e : ∀ a o, G a = some o → G' a = some o) {s : Option V} {x : Sl} (h : SlOk C c G s x) : SlOk C c G' s x := by
  cases x with
  | un => trivial
  | d x =>
    obtain ⟨v, h1, h2⟩ := h
    exact ⟨v, h1, h2.mono e⟩
  | cup => exact h
  | raw v => exact h
theorem En.mono (e : ∀ a o, G a = some o → G' a = some o) : ∀ {σ : L2.St} {Γ : List Sl}, En C c G σ Γ → En C c G' σ Γ
  | _, _, .nil => .nil
  | _, _, .cons h r => .cons (SlOk.mono e h) (En.mono e r)
theorem En.get : ∀ {σ : L2.St} {Γ : List Sl} {i : Nat} {x : PyData}, En C c G σ Γ → Γ[i]? = some (.d x) → ∃ v, σ[i]? = some (some v) ∧ Dq C G v x
  | _, _, i, x, .nil, e => by simp at e
  | _, _, 0, x, .cons h r, e => by
    simp at e
    subst e
    obtain ⟨v, h1, h2⟩ := h
    exact ⟨v, by simp [h1], h2⟩
  | _, _, i + 1, x, .cons h r, e => by
    obtain ⟨v, h1, h2⟩ := En.get (i := i) r (by simpa using e)
    exact ⟨v, by simpa using h1, h2⟩
theorem En.getCup : ∀ {σ : L2.St} {Γ : List Sl} {i : Nat}, En C c G σ Γ → Γ[i]? = some .cup → ∃ a, c = some a ∧ σ[i]? = some (some (.ref a))
  | _, _, i, .nil, e => by simp at e
  | _, _, 0, .cons h r, e => by
    simp at e
    subst e
    obtain ⟨v, h1, h2⟩ := h
    exact ⟨v, h1, by simp [h2]⟩
  | _, _, i + 1, .cons h r, e => by
    obtain ⟨v, h1, h2⟩ := En.getCup (i := i) r (by simpa using e)
    exact ⟨v, h1, by simpa using h2⟩
theorem En.getRaw : ∀ {σ : L2.St} {Γ : List Sl} {i : Nat} {v : V}, En C c G σ Γ → Γ[i]? = some (.raw v) → σ[i]? = some (some v)
  | _, _, i, _, .nil, e => by simp at e
  | _, _, 0, v, .cons h r, e => by
    simp at e
    subst e
    have h : _ = some v := h
    simp [h]
  | _, _, i + 1, _, .cons h r, e => by
    have h1 := En.getRaw (i := i) r (by simpa using e)
    simpa using h1
theorem En.set {s : Option V} {x : Sl} (h : SlOk C c G s x) : ∀ {σ : L2.St} {Γ : List Sl} (i : Nat), En C c G σ Γ → En C c G (σ.set i s) (Γ.set i x)
  | _, _, _, .nil => .nil
  | _, _, 0, .cons _ r => .cons h r
  | _, _, i + 1, .cons q r => .cons q (En.set h i r)
def wipeG (Γ : List Sl) : List Nat → List Sl
  | [] => Γ
  | v :: vs => (wipeG Γ vs).set v .un
theorem En.wipe {σ : L2.St} {Γ : List Sl} (h : En C c G σ Γ) : ∀ vs : List Nat, En C c G (wipe σ vs) (wipeG Γ vs)
  | [] => h
  | v :: vs => En.set (x := .un) trivial v (En.wipe h vs)
theorem wipe_get {σ : L2.St} {k : Nat} : ∀ {vs : List Nat}, k ∉ vs → (wipe σ vs)[k]? = σ[k]?
  | [], _ => rfl
  | v :: vs, h => by
    rw [List.mem_cons, not_or] at h
    show ((wipe σ vs).set v none)[k]? = σ[k]?
    rw [List.getElem?_set_ne (fun e => h.1 e.symm), wipe_get h.2]
theorem wipe_in {σ : L2.St} {k : Nat} : ∀ {vs : List Nat}, k ∈ vs → k < σ.length → (wipe σ vs)[k]? = some none
  | v :: vs, h, hk => by
    show ((wipe σ vs).set v none)[k]? = some none
    by_cases e : v = k
    · subst e
      rw [List.getElem?_set_self (by rw [wipe_length]; exact hk)]
    · rw [List.getElem?_set_ne e]
      rcases List.mem_cons.mp h with h | h
      · exact absurd h.symm e
      · exact wipe_in h hk
theorem wipe_eq {σ τ : L2.St} {vs : List Nat} (hl : σ.length = τ.length) (h : ∀ k, k ∉ vs → σ[k]? = τ[k]?) : wipe σ vs = wipe τ vs := by
  apply List.ext_getElem?
  intro k
  by_cases hk : k ∈ vs
  · by_cases hl2 : k < σ.length
    · rw [wipe_in hk hl2, wipe_in hk (by omega)]
    · rw [List.getElem?_eq_none (by rw [wipe_length]; omega), List.getElem?_eq_none (by rw [wipe_length]; omega)]
  · rw [wipe_get hk, wipe_get hk, h k hk]
end

/-! ### what is asked of expressions, tests, arguments, targets, walks, statements -/
abbrev PK := PyData → Prop
def WE (C : Ct) (c : Option Addr) (te : TE) (Γ : List Sl) (Φ : PK) : Prop :=
  ∀ (G H : Hp) (σ : L2.St) (Q : VK), Wd c G H → En C c G σ Γ → (∀ d v G' H', Φ d → Stp c G H G' H' → Dq C G' v d → Q v H') → te σ H Q
def WT (C : Ct) (c : Option Addr) (tt : TT) (Γ : List Sl) (Φ : Bool → Prop) : Prop :=
  ∀ (G H : Hp) (σ : L2.St) (Q : Bool → Hp → Prop), Wd c G H → En C c G σ Γ → (∀ b G' H', Φ b → Stp c G H G' H' → Q b H') → tt σ H Q
def WA (C : Ct) (c : Option Addr) (ta : TA) (Γ : List Sl) (Φ : List PyData → Prop) : Prop :=
  ∀ (G H : Hp) (σ : L2.St) (Q : List V → Hp → Prop), Wd c G H → En C c G σ Γ → (∀ ds vs G' H', Φ ds → Stp c G H G' H' → DqAll C G' vs ds → Q vs H') → ta σ H Q
def WB (C : Ct) (c : Option Addr) (ta : TA) (Γ : List Sl) (Φ : List Sl → Prop) : Prop :=
  ∀ (G H : Hp) (σ : L2.St) (Q : List V → Hp → Prop), Wd c G H → En C c G σ Γ → (∀ ss vs G' H', Φ ss → Stp c G H G' H' → En C c G' (vs.map some) ss → Q vs H') → ta σ H Q
def WG (C : Ct) (c : Option Addr) (js : List Nat) (g : TG) (d : PyData) (Γ : List Sl) (Ψ : List Sl → Prop) : Prop :=
  ∀ (G H : Hp) (σ : L2.St) (v : V) (Q : L2.St → Hp → Prop), Wd c G H → En C c G σ Γ → Dq C G v d →
    (∀ Γ' σ', Ψ Γ' → En C c G σ' Γ' → σ'.length = σ.length → (∀ k, k ∉ js → σ'[k]? = σ[k]?) → Q σ' H) → g v σ H Q
def WGs (C : Ct) (c : Option Addr) (js : List Nat) (g : TGs) (ds : List PyData) (Γ : List Sl) (Ψ : List Sl → Prop) : Prop :=
  ∀ (G H : Hp) (σ : L2.St) (vs : List V) (Q : L2.St → Hp → Prop), Wd c G H → En C c G σ Γ → DqAll C G vs ds →
    (∀ Γ' σ', Ψ Γ' → En C c G σ' Γ' → σ'.length = σ.length → (∀ k, k ∉ js → σ'[k]? = σ[k]?) → Q σ' H) → g vs σ H Q
def ItOk (C : Ct) (G : Hp) (J : It) (ds : List PyData) : Prop :=
  ∀ (i : Nat) (H : Hp), (∀ a o, G a = some o → H a = some o) →
    (∀ d, ds[i]? = some d → J.go i H ∧ ∀ x H', J.yld i H x H' → H' = H ∧ Dq C G x d) ∧ (ds.length ≤ i → J.stop i H)
def WI (C : Ct) (c : Option Addr) (wi : TI) (Γ : List Sl) (Φ : List PyData → Prop) : Prop :=
  ∀ (G H : Hp) (σ : L2.St) (R : It → Hp → Prop), Wd c G H → En C c G σ Γ → (∀ ds J G' H', Φ ds → Stp c G H G' H' → ItOk C G' J ds → R J H') → wi σ H R
inductive Out
  | nx (Γ : List Sl)
  | rt (d : PyData)
  | bk (Γ : List Sl)
  | ct (Γ : List Sl)
def OutOk (C : Ct) (c : Option Addr) (D : Ends) (G H : Hp) : Out → Prop
  | .nx Γ => ∀ σ G' H', Stp c G H G' H' → En C c G' σ Γ → D.nx σ H'
  | .rt d => ∀ v G' H', Stp c G H G' H' → Dq C G' v d → D.rt v H'
  | .bk Γ => ∀ σ G' H', Stp c G H G' H' → En C c G' σ Γ → D.bk σ H'
  | .ct Γ => ∀ σ G' H', Stp c G H G' H' → En C c G' σ Γ → D.ct σ H'
def WS (C : Ct) (c : Option Addr) (ts : TS) (Γ : List Sl) (Ψ : Out → Prop) : Prop :=
  ∀ (G H : Hp) (σ : L2.St) (D : Ends), Wd c G H → En C c G σ Γ → (∀ o, Ψ o → OutOk C c D G H o) → ts D σ H

/-! ### the rules of operations by data -/
abbrev T1 := PyData → PK → Prop
abbrev T2 := PyData → PyData → PK → Prop
abbrev Tn := List PyData → PK → Prop
/-- the end of an operation: what is wanted of a datum comes true of its value -/
def Fin (C : Ct) (c : Option Addr) (G H : Hp) (Φ : PK) (Q : VK) : Prop := ∀ z v G' H', Φ z → Stp c G H G' H' → Dq C G' v z → Q v H'
def rT1 (C : Ct) (T : T1) : V → Hp → VK → Prop := fun x H Q => ∃ c G d Φ, Wd c G H ∧ Dq C G x d ∧ T d Φ ∧ Fin C c G H Φ Q
def rT2 (C : Ct) (T : T2) : R2 := fun x y H Q => ∃ c G d e Φ, Wd c G H ∧ Dq C G x d ∧ Dq C G y e ∧ T d e Φ ∧ Fin C c G H Φ Q
def rTn (C : Ct) (T : Tn) : List V → Hp → VK → Prop := fun xs H Q => ∃ c G ds Φ, Wd c G H ∧ DqAll C G xs ds ∧ T ds Φ ∧ Fin C c G H Φ Q
/-- a def's promise, by data -/
def spD (C : Ct) (W : List Sl → PK → Prop) : Sp := fun vs H Q _ => ∃ c G Γ Φ, Wd c G H ∧ En C c G (vs.map some) Γ ∧ W Γ Φ ∧ Fin C c G H Φ Q

section
variable {C : Ct} {c : Option Addr} {Γ : List Sl} {Φ : PK} {ta tb te : TE} {tt tu : TT} {tA : TA}
theorem Fin.back {G H G1 H1 : Hp} {Q : VK} (w : Wd c G H) (s : Stp c G H G1 H1) (q : ∀ d v G' H', Φ d → Stp c G H G' H' → Dq C G' v d → Q v H') : Fin C c G1 H1 Φ Q :=
  fun z v G' H' hz t r => q z v G' H' hz (Stp.trans w s t) r
theorem Fin.val {G H : Hp} {Q : VK} {z : PyData} {v : V} (w : Wd c G H) (q : Fin C c G H Φ Q) (hz : Φ z) (r : Dq C G v z) : Q v H := q z v G H hz (Stp.refl w) r
theorem Fin.bool {G H : Hp} {Q : VK} {b : Bool} (w : Wd c G H) (q : Fin C c G H Φ Q) (hz : Φ (.bool b)) : Q (.bl b) H := q.val w hz (.bl b)
theorem Fin.int {G H : Hp} {Q : VK} {b : Int} (w : Wd c G H) (q : Fin C c G H Φ Q) (hz : Φ (.int b)) : Q (.int b) H := q.val w hz (.int b)
theorem Fin.lst {G H : Hp} {Q : VK} {p : Addr} {xs : List V} {ds : List PyData} (w : Wd c G H) (q : Fin C c G H Φ Q) (hz : Φ (.list ds)) (n : H p = none) (r : DqAll C G xs ds) : Q (.ref p) (upd H p (.lst xs)) := by
  have s := Stp.new (o := .lst xs) w n
  exact q _ _ _ _ hz s (.lst upd_same (r.mono s.gg))
theorem Fin.tup {G H : Hp} {Q : VK} {p : Addr} {xs : List V} {ds : List PyData} (w : Wd c G H) (q : Fin C c G H Φ Q) (hz : Φ (.tuple ds)) (n : H p = none) (r : DqAll C G xs ds) : Q (.ref p) (upd H p (.tup xs)) := by
  have s := Stp.new (o := .tup xs) w n
  exact q _ _ _ _ hz s (.tup upd_same (r.mono s.gg))

theorem WE.mono {Φ' : PK} (h : WE C c te Γ Φ) (k : ∀ d, Φ d → Φ' d) : WE C c te Γ Φ' := fun G H σ Q w en q => h G H σ Q w en fun d v G' H' hd => q d v G' H' (k d hd)
theorem WT.mono {Φ Φ' : Bool → Prop} (h : WT C c tt Γ Φ) (k : ∀ d, Φ d → Φ' d) : WT C c tt Γ Φ' := fun G H σ Q w en q => h G H σ Q w en fun d G' H' hd => q d G' H' (k d hd)

/-! expressions -/
theorem we_var {i : Nat} {x : PyData} (h : Γ[i]? = some (.d x)) (q : Φ x) : WE C c (tVar i) Γ Φ := fun G H σ Q w en k => by
  obtain ⟨v, h1, h2⟩ := en.get h
  exact ⟨v, h1, k x v G H q (Stp.refl w) h2⟩
theorem we_int {i : Int} (q : Φ (.int i)) : WE C c (tC (.int i)) Γ Φ := fun G H σ Q w en k => k _ _ G H q (Stp.refl w) (.int i)
theorem we_str {i : Str} (q : Φ (.str i)) : WE C c (tC (.str i)) Γ Φ := fun G H σ Q w en k => k _ _ G H q (Stp.refl w) (.str i)
theorem we_bl {i : Bool} (q : Φ (.bool i)) : WE C c (tC (.bl i)) Γ Φ := fun G H σ Q w en k => k _ _ G H q (Stp.refl w) (.bl i)
theorem we_non (q : Φ .none) : WE C c (tC .non) Γ Φ := fun G H σ Q w en k => k _ _ G H q (Stp.refl w) .non
theorem we_op {T : T2} (h : WE C c ta Γ fun x => WE C c tb Γ fun y => T x y Φ) : WE C c (tOp (rT2 C T) ta tb) Γ Φ := fun G H σ Q w en q =>
  h G H σ _ w en fun d v G1 H1 h1 s1 r1 => h1 G1 H1 σ _ s1.wd (en.mono s1.gg) fun e u G2 H2 h2 s2 r2 =>
    ⟨c, G2, d, e, Φ, s2.wd, r1.mono s2.gg, r2, h2, Fin.back w (Stp.trans w s1 s2) q⟩
theorem we_un {T : T1} (h : WE C c ta Γ fun x => T x Φ) : WE C c (tUn (rT1 C T) ta) Γ Φ := fun G H σ Q w en q =>
  h G H σ _ w en fun d v G1 H1 h1 s1 r1 => ⟨c, G1, d, Φ, s1.wd, r1, h1, Fin.back w s1 q⟩
theorem we_cb {T : Tn} (h : WA C c tA Γ fun xs => T xs Φ) : WE C c (tCB (rTn C T) tA) Γ Φ := fun G H σ Q w en q =>
  h G H σ _ w en fun ds vs G1 H1 h1 s1 r1 => ⟨c, G1, ds, Φ, s1.wd, r1, h1, Fin.back w s1 q⟩
theorem we_call {W : List Sl → PK → Prop} (h : WB C c tA Γ fun ss => W ss Φ) : WE C c (tCall (spD C W) [] E0 tA) Γ Φ := fun G H σ Q w en q =>
  h G H σ _ w en fun ss vs G1 H1 h1 s1 r1 => ⟨c, G1, ss, Φ, s1.wd, by rw [List.append_nil]; exact r1, h1, Fin.back w s1 q⟩
theorem we_tup (h : WA C c tA Γ fun xs => xs.length ≤ 10000 ∧ Φ (.tuple xs)) : WE C c (tTup tA) Γ Φ := fun G H σ Q w en q =>
  h G H σ _ w en fun ds vs G1 H1 h1 s1 r1 => ⟨Nat.le_trans (by rw [r1.length]; exact h1.1) (by decide : 10000 ≤ sizeLine), fun p hp => (Fin.back w s1 q).tup s1.wd h1.2 hp r1⟩
theorem we_lst (h : WA C c tA Γ fun xs => xs.length ≤ 10000 ∧ Φ (.list xs)) : WE C c (tLst tA) Γ Φ := fun G H σ Q w en q =>
  h G H σ _ w en fun ds vs G1 H1 h1 s1 r1 => ⟨Nat.le_trans (by rw [r1.length]; exact h1.1) (by decide : 10000 ≤ sizeLine), fun p hp => (Fin.back w s1 q).lst s1.wd h1.2 hp r1⟩
theorem we_if (h : WT C c tt Γ fun b => (b = true → WE C c ta Γ Φ) ∧ (b = false → WE C c tb Γ Φ)) : WE C c (tIf tt ta tb) Γ Φ := fun G H σ Q w en q =>
  h G H σ _ w en fun b G1 H1 h1 s1 => by
    cases b with
    | true => exact iteT (h1.1 rfl G1 H1 σ _ s1.wd (en.mono s1.gg) (Fin.back w s1 q))
    | false => exact iteF (h1.2 rfl G1 H1 σ _ s1.wd (en.mono s1.gg) (Fin.back w s1 q))
theorem we_andV (h : WE C c ta Γ fun x => ∃ b, x = .bool b ∧ (b = true → WE C c tb Γ Φ) ∧ (b = false → Φ (.bool false))) : WE C c (tAndV ta tb) Γ Φ := fun G H σ Q w en q =>
  h G H σ _ w en fun d v G1 H1 h1 s1 r1 => by
    obtain ⟨b, rfl, h2, h3⟩ := h1
    cases r1
    refine ⟨b, rfl, ?_⟩
    cases b with
    | true => exact iteT (h2 rfl G1 H1 σ _ s1.wd (en.mono s1.gg) (Fin.back w s1 q))
    | false => exact iteF ((Fin.back w s1 q).bool s1.wd (h3 rfl))
theorem we_orV (h : WE C c ta Γ fun x => ∃ b, x = .bool b ∧ (b = false → WE C c tb Γ Φ) ∧ (b = true → Φ (.bool true))) : WE C c (tOrV ta tb) Γ Φ := fun G H σ Q w en q =>
  h G H σ _ w en fun d v G1 H1 h1 s1 r1 => by
    obtain ⟨b, rfl, h2, h3⟩ := h1
    cases r1
    refine ⟨b, rfl, ?_⟩
    cases b with
    | true => exact iteT ((Fin.back w s1 q).bool s1.wd (h3 rfl))
    | false => exact iteF (h2 rfl G1 H1 σ _ s1.wd (en.mono s1.gg) (Fin.back w s1 q))
theorem we_notV (h : WE C c ta Γ fun x => ∃ b, x = .bool b ∧ Φ (.bool (!b))) : WE C c (tNotV ta) Γ Φ := fun G H σ Q w en q =>
  h G H σ _ w en fun d v G1 H1 h1 s1 r1 => by
    obtain ⟨b, rfl, h2⟩ := h1
    cases r1
    exact ⟨b, rfl, (Fin.back w s1 q).bool s1.wd h2⟩
theorem we_chain {T T' : T2} {tc : TE} (h : WE C c ta Γ fun x => WE C c tb Γ fun y => T x y fun z => ∃ b, z = .bool b ∧ (b = true → WE C c tc Γ fun u => T' y u Φ) ∧ (b = false → Φ (.bool false))) :
    WE C c (tChain (rT2 C T) (rT2 C T') ta tb tc) Γ Φ := fun G H σ Q w en q =>
  h G H σ _ w en fun d v G1 H1 h1 s1 r1 => h1 G1 H1 σ _ s1.wd (en.mono s1.gg) fun e u G2 H2 h2 s2 r2 => by
    have s12 := Stp.trans w s1 s2
    refine ⟨c, G2, d, e, _, s2.wd, r1.mono s2.gg, r2, h2, fun z v' G3 H3 hz s3 r3 => ?_⟩
    obtain ⟨b, rfl, h4, h5⟩ := hz
    have s13 := Stp.trans w s12 s3
    cases r3
    refine ⟨b, rfl, ?_⟩
    cases b with
    | true => exact iteT (h4 rfl G3 H3 σ _ s3.wd (en.mono s13.gg) fun e' u' G4 H4 h6 s4 r4 => ⟨c, G4, e, e', Φ, s4.wd, r2.mono (fun a o x => s4.gg a o (s3.gg a o x)), r4, h6, Fin.back w (Stp.trans w s13 s4) q⟩)
    | false => exact iteF ((Fin.back w s13 q).bool s3.wd (h5 rfl))
/-! tests -/
variable {Φb : Bool → Prop}
theorem wt_test (h : WE C c te Γ fun x => ∃ b, x = .bool b ∧ Φb b) : WT C c (tTest te) Γ Φb := fun G H σ Q w en q =>
  h G H σ _ w en fun d v G1 H1 h1 s1 r1 => by
    obtain ⟨b, rfl, h2⟩ := h1
    cases r1
    exact ⟨b, rfl, q b G1 H1 h2 s1⟩
theorem wt_B (h : WE C c te Γ fun x => ∃ b, x = .bool b ∧ Φb b) : WT C c (tB te) Γ Φb := fun G H σ Q w en q =>
  h G H σ _ w en fun d v G1 H1 h1 s1 r1 => by
    obtain ⟨b, rfl, h2⟩ := h1
    cases r1
    exact ⟨b, rfl, q b G1 H1 h2 s1⟩
theorem wt_yes (h : Φb true) : WT C c tYes Γ Φb := fun G H σ Q w en q => q true G H h (Stp.refl w)
theorem wt_and (h : WT C c tt Γ fun b => (b = true → WT C c tu Γ Φb) ∧ (b = false → Φb false)) : WT C c (tAnd tt tu) Γ Φb := fun G H σ Q w en q =>
  h G H σ _ w en fun b G1 H1 h1 s1 => by
    cases b with
    | true => exact iteT (h1.1 rfl G1 H1 σ _ s1.wd (en.mono s1.gg) fun b G2 H2 h2 s2 => q b G2 H2 h2 (Stp.trans w s1 s2))
    | false => exact iteF (q false G1 H1 (h1.2 rfl) s1)
theorem wt_or (h : WT C c tt Γ fun b => (b = false → WT C c tu Γ Φb) ∧ (b = true → Φb true)) : WT C c (tOr tt tu) Γ Φb := fun G H σ Q w en q =>
  h G H σ _ w en fun b G1 H1 h1 s1 => by
    cases b with
    | true => exact iteT (q true G1 H1 (h1.2 rfl) s1)
    | false => exact iteF (h1.1 rfl G1 H1 σ _ s1.wd (en.mono s1.gg) fun b G2 H2 h2 s2 => q b G2 H2 h2 (Stp.trans w s1 s2))
theorem wt_not (h : WT C c tt Γ fun b => Φb (!b)) : WT C c (tNot tt) Γ Φb := fun G H σ Q w en q =>
  h G H σ _ w en fun b G1 H1 h1 s1 => q (!b) G1 H1 h1 s1
/-! arguments -/
theorem wa_nil {Φ : List PyData → Prop} (h : Φ []) : WA C c tNil Γ Φ := fun G H σ Q w en q => q [] [] G H h (Stp.refl w) .nil
theorem wa_cons {Φ : List PyData → Prop} (h : WE C c te Γ fun x => WA C c tA Γ fun xs => Φ (x :: xs)) : WA C c (tCons te tA) Γ Φ := fun G H σ Q w en q =>
  h G H σ _ w en fun d v G1 H1 h1 s1 r1 => h1 G1 H1 σ _ s1.wd (en.mono s1.gg) fun ds vs G2 H2 h2 s2 r2 => q _ _ G2 H2 h2 (Stp.trans w s1 s2) (.cons (r1.mono s2.gg) r2)
theorem wb_nil {Φ : List Sl → Prop} (h : Φ []) : WB C c tNil Γ Φ := fun G H σ Q w en q => q [] [] G H h (Stp.refl w) .nil
theorem wb_cons {Φ : List Sl → Prop} (h : WE C c te Γ fun x => WB C c tA Γ fun xs => Φ (.d x :: xs)) : WB C c (tCons te tA) Γ Φ := fun G H σ Q w en q =>
  h G H σ _ w en fun d v G1 H1 h1 s1 r1 => h1 G1 H1 σ _ s1.wd (en.mono s1.gg) fun ds vs G2 H2 h2 s2 r2 => q _ _ G2 H2 h2 (Stp.trans w s1 s2) (.cons ⟨v, rfl, r1.mono s2.gg⟩ r2)
theorem wb_cup {Φ : List Sl → Prop} {i : Nat} (hi : Γ[i]? = some .cup) (h : WB C c tA Γ fun xs => Φ (.cup :: xs)) : WB C c (tCons (tVar i) tA) Γ Φ := fun G H σ Q w en q => by
  obtain ⟨a, h1, h2⟩ := en.getCup hi
  exact ⟨_, h2, h G H σ _ w en fun ds vs G2 H2 h2 s2 r2 => q _ _ G2 H2 h2 s2 (.cons ⟨a, h1, rfl⟩ r2)⟩
/-! targets -/
theorem wg_name {i : Nat} {js : List Nat} {d : PyData} {Ψ : List Sl → Prop} (hj : i ∈ js) (h : Ψ (Γ.set i (.d d))) : WG C c js (gName i) d Γ Ψ := fun G H σ v Q w en r q =>
  q _ _ h (En.set (x := .d d) ⟨v, rfl, r⟩ i en) (by simp) fun k hk => List.getElem?_set_ne (fun e => hk (by rw [← e]; exact hj))
theorem wgs_nil {js : List Nat} {Ψ : List Sl → Prop} (h : Ψ Γ) : WGs C c js gNil [] Γ Ψ := fun G H σ vs Q w en r q => by
  cases r
  exact ⟨rfl, q Γ σ h en rfl fun _ _ => rfl⟩
theorem wgs_cons {js : List Nat} {d : PyData} {ds : List PyData} {g : TG} {gs : TGs} {Ψ : List Sl → Prop} (h : WG C c js g d Γ fun Γ' => WGs C c js gs ds Γ' Ψ) : WGs C c js (gCons g gs) (d :: ds) Γ Ψ := fun G H σ vs Q w en r q => by
  cases r with
  | cons r1 r2 =>
    exact ⟨_, _, rfl, h G H σ _ _ w en r1 fun Γ' σ' h1 en' hl hk => h1 G H σ' _ _ w en' r2 fun Γ2 σ2 h2 en2 hl2 hk2 => q Γ2 σ2 h2 en2 (hl2.trans hl) fun k n => (hk2 k n).trans (hk k n)⟩
theorem wg_tup {js : List Nat} {n : Nat} {ds : List PyData} {gs : TGs} {Ψ : List Sl → Prop} (hn : ds.length = n) (h : WGs C c js gs ds Γ Ψ) : WG C c js (gTup C.K n gs) (.tuple ds) Γ Ψ := fun G H σ v Q w en r q => by
  cases r with
  | tup r1 r2 => exact ⟨_, _, rfl, SqT.of (w.ex _ _ r1), by rw [r2.length]; exact hn, h G H σ _ Q w en r2 q⟩
/-! walks -/
theorem wi_list {K : PySem.W.Frag} {Ψ : List PyData → Prop} (h : WE C c te Γ fun x => ∃ ds, x = .list ds ∧ Ψ ds) : WI C c (iList K te) Γ Ψ := fun G H σ R w en q =>
  h G H σ _ w en fun d v G1 H1 h1 s1 r1 => by
    obtain ⟨ds, rfl, h2⟩ := h1
    cases r1 with
    | @lst a xs _ r1 r2 =>
      refine ⟨a, rfl, ⟨xs, SqL.of (s1.wd.ex _ _ r1)⟩, q ds _ G1 H1 h2 s1 fun i H' e => ⟨fun d hd => ?_, fun hl => ⟨xs, SqL.of (e _ _ r1), by rw [r2.length]; exact hl⟩⟩⟩
      obtain ⟨v, hv, rv⟩ := r2.get hd
      refine ⟨⟨xs, v, SqL.of (e _ _ r1), hv⟩, fun x H2 y => ?_⟩
      obtain ⟨rfl, y⟩ := y
      have := y xs (SqL.of (e _ _ r1))
      rw [hv] at this
      cases this
      exact ⟨rfl, rv⟩
theorem wi_tup {K : PySem.W.Frag} {Ψ : List PyData → Prop} (h : WE C c te Γ fun x => ∃ ds, x = .tuple ds ∧ Ψ ds) : WI C c (iTup K te) Γ Ψ := fun G H σ R w en q =>
  h G H σ _ w en fun d v G1 H1 h1 s1 r1 => by
    obtain ⟨ds, rfl, h2⟩ := h1
    cases r1 with
    | @tup a xs _ r1 r2 =>
      refine ⟨a, rfl, ⟨xs, SqT.of (s1.wd.ex _ _ r1)⟩, q ds _ G1 H1 h2 s1 fun i H' e => ⟨fun d hd => ?_, fun hl => ⟨xs, SqT.of (e _ _ r1), by rw [r2.length]; exact hl⟩⟩⟩
      obtain ⟨v, hv, rv⟩ := r2.get hd
      refine ⟨⟨xs, v, SqT.of (e _ _ r1), hv⟩, fun x H2 y => ?_⟩
      obtain ⟨rfl, y⟩ := y
      have := y xs (SqT.of (e _ _ r1))
      rw [hv] at this
      cases this
      exact ⟨rfl, rv⟩
def rng (lo : Int) (n : Nat) : List PyData := (List.range n).map fun (k : Nat) => PyData.int (lo + (k : Int))
theorem itOk_rng {G : Hp} {lo : Int} {n : Nat} : ItOk C G (Itr lo n) (rng lo n) := fun i H' e => by
  have hlen : (rng lo n).length = n := by simp [rng]
  refine ⟨fun d hd => ?_, fun hl => by rw [hlen] at hl; exact hl⟩
  have hi : i < n := by
    have := (List.getElem?_eq_some_iff.mp hd).1
    rw [hlen] at this
    exact this
  refine ⟨hi, fun x H2 y => ?_⟩
  obtain ⟨e1, e2⟩ := y
  subst e1 e2
  have hd' : d = .int (lo + (i : Int)) := by
    unfold rng at hd
    rw [List.getElem?_map, List.getElem?_range hi] at hd
    exact (Option.some.inj hd).symm
  subst hd'
  exact ⟨rfl, .int _⟩
theorem wi_rng1 {Ψ : List PyData → Prop} (h : WE C c te Γ fun x => ∃ j : Int, x = .int j ∧ -1000 ≤ j ∧ j ≤ 100000 ∧ Ψ (rng 0 j.toNat)) : WI C c (iRng1 (tCons te tNil)) Γ Ψ := fun G H σ R w en q =>
  h G H σ _ w en fun d v G1 H1 h1 s1 r1 => by
    obtain ⟨j, rfl, h2, h3, h4⟩ := h1
    cases r1
    exact ⟨j, rfl, by omega, by omega, q _ _ G1 H1 h4 s1 itOk_rng⟩
theorem wi_rng2 {Ψ : List PyData → Prop} (h : WE C c ta Γ fun x => WE C c tb Γ fun y => ∃ i j : Int, x = .int i ∧ y = .int j ∧ -1000 ≤ i ∧ i ≤ 100000 ∧ -1000 ≤ j ∧ j ≤ 100000 ∧ Ψ (rng i (j - i).toNat)) : WI C c (iRng2 (tCons ta (tCons tb tNil))) Γ Ψ := fun G H σ R w en q =>
  h G H σ _ w en fun d v G1 H1 h1 s1 r1 => h1 G1 H1 σ _ s1.wd (en.mono s1.gg) fun e u G2 H2 h2 s2 r2 => by
    obtain ⟨i, j, rfl, rfl, h3, h4, h5, h6, h7⟩ := h2
    cases r1
    cases r2
    exact ⟨i, j, rfl, ⟨by omega, by omega, by omega, by omega⟩, q _ _ G2 H2 h7 (Stp.trans w s1 s2) itOk_rng⟩
end
end DL1

/-! Statements, loops, comprehensions by data. -/
section DL2
open PySem PySem.Spec PyProof.Rows L2
section
variable {C : Ct} {c : Option Addr} {Γ : List Sl} {Φ : PK} {ta tb te : TE} {tt tu : TT} {tA : TA} {ts tu' : TS} {Ψ : Out → Prop}
theorem OutOk.go {D : Ends} {G H G1 H1 : Hp} (w : Wd c G H) (s : Stp c G H G1 H1) : ∀ {o : Out}, OutOk C c D G H o → OutOk C c D G1 H1 o
  | .nx _, q => fun σ G' H' t en => q σ G' H' (Stp.trans w s t) en
  | .rt _, q => fun v G' H' t r => q v G' H' (Stp.trans w s t) r
  | .bk _, q => fun σ G' H' t en => q σ G' H' (Stp.trans w s t) en
  | .ct _, q => fun σ G' H' t en => q σ G' H' (Stp.trans w s t) en
theorem WS.mono {Ψ' : Out → Prop} (h : WS C c ts Γ Ψ) (k : ∀ o, Ψ o → Ψ' o) : WS C c ts Γ Ψ' := fun G H σ D w en q => h G H σ D w en fun o ho => q o (k o ho)
/-- what is wanted behind the first of two statements -/
def seqP (k : List Sl → Prop) (Ψ : Out → Prop) : Out → Prop
  | .nx Γ => k Γ
  | o => Ψ o
theorem ws_seq (h : WS C c ts Γ (seqP (fun Γ' => WS C c tu' Γ' Ψ) Ψ)) : WS C c (tSeq ts tu') Γ Ψ := fun G H σ D w en q =>
  h G H σ { D with nx := tu' D } w en fun o ho => by
    cases o with
    | nx Γ' => exact fun σ' G' H' s en' => ho G' H' σ' D s.wd en' fun o' ho' => OutOk.go w s (q o' ho')
    | rt d => exact q (.rt d) ho
    | bk Γ' => exact q (.bk Γ') ho
    | ct Γ' => exact q (.ct Γ') ho
theorem ws_next (h : Ψ (.nx Γ)) : WS C c tNext Γ Ψ := fun G H σ D w en q => q _ h σ G H (Stp.refl w) en
theorem ws_asg {i : Nat} (h : WE C c te Γ fun x => Ψ (.nx (Γ.set i (.d x)))) : WS C c (tAsg te (gName i)) Γ Ψ := fun G H σ D w en q =>
  h G H σ _ w en fun d v G1 H1 h1 s1 r1 => q _ h1 _ G1 H1 s1 (En.set (x := .d d) ⟨v, rfl, r1⟩ i (en.mono s1.gg))
/-- a target of any form -/
theorem ws_asgG {g : TG} (js : List Nat) (h : WE C c te Γ fun x => WG C c js g x Γ fun Γ' => Ψ (.nx Γ')) : WS C c (tAsg te g) Γ Ψ := fun G H σ D w en q =>
  h G H σ _ w en fun d v G1 H1 h1 s1 r1 => h1 G1 H1 σ v _ s1.wd (en.mono s1.gg) r1 fun Γ' σ' hΨ en' _ _ => q _ hΨ _ G1 H1 s1 en'
theorem ws_par {i j : Nat} (h : WE C c ta Γ fun x => WE C c tb Γ fun y => Ψ (.nx ((Γ.set i (.d x)).set j (.d y)))) : WS C c (tPar i j (tCons ta (tCons tb tNil))) Γ Ψ := fun G H σ D w en q =>
  h G H σ _ w en fun d v G1 H1 h1 s1 r1 => h1 G1 H1 σ _ s1.wd (en.mono s1.gg) fun e u G2 H2 h2 s2 r2 =>
    ⟨v, u, rfl, q _ h2 _ G2 H2 (Stp.trans w s1 s2) (En.set (x := .d e) ⟨u, rfl, r2⟩ j (En.set (x := .d d) ⟨v, rfl, r1.mono s2.gg⟩ i (en.mono (Stp.trans w s1 s2).gg)))⟩
theorem ws_ret (h : WE C c te Γ fun x => Ψ (.rt x)) : WS C c (tRet te) Γ Ψ := fun G H σ D w en q =>
  h G H σ _ w en fun d v G1 H1 h1 s1 r1 => q _ h1 v G1 H1 s1 r1
theorem ws_retN (h : Ψ (.rt .none)) : WS C c tRetN Γ Ψ := fun G H σ D w en q => q _ h .non G H (Stp.refl w) .non
theorem ws_drop (h : WE C c te Γ fun _ => Ψ (.nx Γ)) : WS C c (tDrop te) Γ Ψ := fun G H σ D w en q =>
  h G H σ _ w en fun d v G1 H1 h1 s1 r1 => q _ h1 σ G1 H1 s1 (en.mono s1.gg)
theorem ws_if (h : WT C c tt Γ fun b => (b = true → WS C c ts Γ Ψ) ∧ (b = false → WS C c tu' Γ Ψ)) : WS C c (tIfS tt ts tu') Γ Ψ := fun G H σ D w en q =>
  h G H σ _ w en fun b G1 H1 h1 s1 => by
    cases b with
    | true => exact iteT (h1.1 rfl G1 H1 σ D s1.wd (en.mono s1.gg) fun o ho => OutOk.go w s1 (q o ho))
    | false => exact iteF (h1.2 rfl G1 H1 σ D s1.wd (en.mono s1.gg) fun o ho => OutOk.go w s1 (q o ho))
/-- an if whose test fails: what stands in it does not matter -/
theorem ws_ifno (h : WT C c tt Γ fun b => b = false ∧ WS C c tu' Γ Ψ) : WS C c (tIfS tt ts tu') Γ Ψ := fun G H σ D w en q =>
  h G H σ _ w en fun b G1 H1 h1 s1 => by
    obtain ⟨rfl, h2⟩ := h1
    exact iteF (h2 G1 H1 σ D s1.wd (en.mono s1.gg) fun o ho => OutOk.go w s1 (q o ho))

/-- what is wanted at a turn's end -/
def loopP (I : List Sl → Prop) (Ψ : Out → Prop) : Out → Prop
  | .nx Γ => I Γ
  | .ct Γ => I Γ
  | .bk Γ => Ψ (.nx Γ)
  | .rt d => Ψ (.rt d)
theorem ws_for {wi : TI} {g : TG} {tb : TS} (js : List Nat)
    (h : WI C c wi Γ fun ds => ∃ I : Nat → List Sl → Prop, I 0 Γ ∧ (∀ i d Γ', ds[i]? = some d → I i Γ' → WG C c js g d Γ' fun Γ2 => WS C c tb Γ2 (loopP (I (i + 1)) Ψ)) ∧ ∀ Γ', I ds.length Γ' → Ψ (.nx Γ')) :
    WS C c (tFor wi g tb) Γ Ψ := fun G H σ D w en q => h G H σ _ w en fun ds J G1 H1 h1 s1 hJ => by
  obtain ⟨I, h0, hs, hd⟩ := h1
  refine ⟨fun i m σ' H' => m = ds.length - i ∧ i ≤ ds.length ∧ ∃ G' Γ', Stp c G1 H1 G' H' ∧ En C c G' σ' Γ' ∧ I i Γ', ⟨ds.length, rfl, Nat.zero_le _, G1, Γ, Stp.refl s1.wd, en.mono s1.gg, h0⟩, ?_⟩
  rintro i m σ' H' ⟨rfl, hi, G', Γ', s2, en', hI⟩
  obtain ⟨hg, hst⟩ := hJ i H' fun a o x => s2.wd.ex a o (s2.gg a o x)
  by_cases hlt : i < ds.length
  · obtain ⟨go, yld⟩ := hg ds[i] (List.getElem?_eq_getElem hlt)
    refine .inr ⟨go, fun σ3 H3 => ∃ G3 Γ3, Stp c G1 H1 G3 H3 ∧ En C c G3 σ3 Γ3 ∧ I (i + 1) Γ3, fun σ3 H3 hN => ⟨ds.length - (i + 1), by omega, rfl, hlt, hN⟩, fun x H3 y => ?_⟩
    obtain ⟨rfl, r⟩ := yld x H3 y
    refine hs i _ Γ' (List.getElem?_eq_getElem hlt) hI G' H3 σ' x _ s2.wd en' (r.mono s2.gg) fun Γ2 σ2 hW en2 _ _ => ?_
    refine hW G' H3 σ2 _ s2.wd en2 fun o ho => ?_
    cases o with
    | nx Γ3 => exact fun σ3 G3 H4 s3 en3 => ⟨G3, Γ3, Stp.trans s1.wd s2 s3, en3, ho⟩
    | ct Γ3 => exact fun σ3 G3 H4 s3 en3 => ⟨G3, Γ3, Stp.trans s1.wd s2 s3, en3, ho⟩
    | bk Γ3 => exact fun σ3 G3 H4 s3 en3 => q _ ho σ3 G3 H4 (Stp.trans w s1 (Stp.trans s1.wd s2 s3)) en3
    | rt d => exact fun v G3 H4 s3 r3 => q _ ho v G3 H4 (Stp.trans w s1 (Stp.trans s1.wd s2 s3)) r3
  · have e : i = ds.length := by omega
    subst e
    exact .inl ⟨hst (Nat.le_refl _), q _ (hd Γ' hI) σ' G' H' (Stp.trans w s1 s2) en'⟩
theorem ws_while {t : TT} {tb : TS} (I : Nat → List Sl → Prop) (m0 : Nat) (h0 : I m0 Γ)
    (hs : ∀ m Γ', I m Γ' → WT C c t Γ' fun b => (b = true → WS C c tb Γ' (loopP (fun Γ2 => ∃ m', m' < m ∧ I m' Γ2) Ψ)) ∧ (b = false → Ψ (.nx Γ'))) : WS C c (tWhile t tb) Γ Ψ := fun G H σ D w en q => by
  refine ⟨fun m σ' H' => ∃ G' Γ', Stp c G H G' H' ∧ En C c G' σ' Γ' ∧ I m Γ', ⟨m0, G, Γ, Stp.refl w, en, h0⟩, ?_⟩
  rintro m σ' H' ⟨G', Γ', s1, en', hI⟩
  refine hs m Γ' hI G' H' σ' _ s1.wd en' fun b G2 H2 hb s2 => ?_
  have s12 := Stp.trans w s1 s2
  cases b with
  | true =>
    refine iteT ⟨fun σ3 H3 => ∃ m', m' < m ∧ ∃ G3 Γ3, Stp c G H G3 H3 ∧ En C c G3 σ3 Γ3 ∧ I m' Γ3, fun σ3 H3 hN => hN, ?_⟩
    refine hb.1 rfl G2 H2 σ' _ s2.wd (en'.mono s2.gg) fun o ho => ?_
    cases o with
    | nx Γ3 => exact fun σ3 G3 H4 s3 en3 => let ⟨m', h1, h2⟩ := ho; ⟨m', h1, G3, Γ3, Stp.trans w s12 s3, en3, h2⟩
    | ct Γ3 => exact fun σ3 G3 H4 s3 en3 => let ⟨m', h1, h2⟩ := ho; ⟨m', h1, G3, Γ3, Stp.trans w s12 s3, en3, h2⟩
    | bk Γ3 => exact fun σ3 G3 H4 s3 en3 => q _ ho σ3 G3 H4 (Stp.trans w s12 s3) en3
    | rt d => exact fun v G3 H4 s3 r3 => q _ ho v G3 H4 (Stp.trans w s12 s3) r3
  | false => exact iteF (q _ (hb.2 rfl) σ' G2 H2 s12 (en'.mono s2.gg))

/-- [elt for target in iter if ..]: I by the turn and what is made so far -/
theorem we_lc {wi : TI} {g : TG} {vs : List Nat}
    (h : WI C c wi Γ fun ds => ds.length ≤ 10000 ∧ ∃ I : Nat → List PyData → Prop, I 0 [] ∧
      (∀ i d acc, ds[i]? = some d → I i acc → WG C c vs g d (wipeG Γ vs) fun Γ2 => WT C c tt Γ2 fun b => (b = true → WE C c te Γ2 fun y => I (i + 1) (acc ++ [y])) ∧ (b = false → I (i + 1) acc)) ∧
      ∀ acc, I ds.length acc → Φ (.list acc)) :
    WE C c (tLc wi g tt te vs) Γ Φ := fun G H σ Q w en q => h G H σ _ w en fun ds J G1 H1 h1 s1 hJ => by
  obtain ⟨hz, I, h0, hs, hd⟩ := h1
  intro D hD
  have sD : Stp c G1 H1 G1 (upd H1 D (.lst [])) := Stp.raw s1.wd hD
  refine ⟨fun i m H' => m = ds.length - i ∧ i ≤ ds.length ∧ ∃ G' acc xs, Stp c G1 H1 G' H' ∧ G' D = none ∧ H' D = some (.lst xs) ∧ DqAll C G' xs acc ∧ acc.length ≤ i ∧ I i acc,
    ⟨ds.length, rfl, Nat.zero_le _, G1, [], [], sD, ?_, upd_same, .nil, Nat.le_refl _, h0⟩, ?_⟩
  · cases z : G1 D with
    | none => rfl
    | some o =>
      have := s1.wd.ex D o z
      rw [hD] at this
      cases this
  rintro i m H' ⟨rfl, hi, G', acc, xs, s2, gD, hDl, rx, hlen, hI⟩
  obtain ⟨hg, hst⟩ := hJ i H' fun a o x => s2.wd.ex a o (s2.gg a o x)
  have cD : c ≠ some D := fun e => by
    obtain ⟨_, x, y, h2, _⟩ := s1.wd.cup D e
    rw [hD] at h2
    cases h2
  by_cases hlt : i < ds.length
  · obtain ⟨go, yld⟩ := hg ds[i] (List.getElem?_eq_getElem hlt)
    refine .inr ⟨go, fun H3 => ∃ G3 acc3 xs3, Stp c G1 H1 G3 H3 ∧ G3 D = none ∧ H3 D = some (.lst xs3) ∧ DqAll C G3 xs3 acc3 ∧ acc3.length ≤ i + 1 ∧ I (i + 1) acc3, fun H3 hN => ⟨ds.length - (i + 1), by omega, rfl, hlt, hN⟩, fun x H3 y => ?_⟩
    obtain ⟨rfl, r⟩ := yld x H3 y
    have enw : En C c G' (wipe σ vs) (wipeG Γ vs) := En.wipe (en.mono fun a o z => s2.gg a o (s1.gg a o z)) vs
    refine hs i _ acc (List.getElem?_eq_getElem hlt) hI G' H3 _ x _ s2.wd enw (r.mono s2.gg) fun Γ2 σ2 hW en2 hl2 hk2 => ?_
    refine ⟨wipe_eq (hl2.trans (wipe_length _ _)) fun k hk => (hk2 k hk).trans (wipe_get hk), ?_⟩
    refine hW G' H3 σ2 _ s2.wd en2 fun b G4 H4 hb s4 => ?_
    have h4D : H4 D = some (.lst xs) := s4.hh D _ hDl cD
    have g4D : G4 D = none := by
      cases z : G4 D with
      | none => rfl
      | some o =>
        rcases s4.fr D o z with z | z
        · rw [gD] at z
          cases z
        · rw [hDl] at z
          cases z
    have s24 := Stp.trans s1.wd s2 s4
    cases b with
    | true =>
      refine iteT (hb.1 rfl G4 H4 σ2 _ s4.wd (en2.mono s4.gg) fun z v G5 H5 hz5 s5 r5 => ?_)
      have h5D : H5 D = some (.lst xs) := s5.hh D _ h4D cD
      have g5D : G5 D = none := by
        cases z : G5 D with
        | none => rfl
        | some o =>
          rcases s5.fr D o z with z | z
          · rw [g4D] at z
            cases z
          · rw [h4D] at z
            cases z
      have s25 := Stp.trans s1.wd s24 s5
      have rx5 : DqAll C G5 xs acc := rx.mono fun a o z => s5.gg a o (s4.gg a o z)
      refine ⟨xs, h5D, ?_, G5, acc ++ [z], xs ++ [v], ?_, g5D, upd_same, rx5.append (.cons r5 .nil), ?_, hz5⟩
      · rw [rx.length]
        exact Nat.lt_of_le_of_lt (Nat.le_trans hlen (Nat.le_trans hi hz)) (by decide : 10000 < sizeLine)
      · refine ⟨⟨fun a o z => ?_, fun a e => ?_⟩, s25.gg, fun a o z n => ?_, s25.fr⟩
        · have ne : a ≠ D := fun e => by
            rw [e, g5D] at z
            cases z
          rw [upd_ne ne]
          exact s25.wd.ex a o z
        · have ne : a ≠ D := fun e2 => cD (by rw [← e2]; exact e)
          rw [upd_ne ne]
          exact s25.wd.cup a e
        · have ne : a ≠ D := fun e => by
            rw [e, hD] at z
            cases z
          rw [upd_ne ne]
          exact s25.hh a o z n
      · rw [List.length_append]
        simp only [List.length_cons, List.length_nil]
        omega
    | false => exact iteF ⟨G4, acc, xs, s24, g4D, h4D, rx.mono s4.gg, by omega, hb.2 rfl⟩
  · have e : i = ds.length := by omega
    subst e
    refine .inl ⟨hst (Nat.le_refl _), ?_⟩
    -- the list becomes data
    have s3 : Stp c G1 H1 (upd G' D (.lst xs)) H' := by
      refine ⟨⟨fun a o z => ?_, fun a e => ?_⟩, fun a o z => ?_, s2.hh, fun a o z => ?_⟩
      · by_cases e : a = D
        · subst e
          rw [upd_same] at z
          rw [hDl]
          exact z
        · rw [upd_ne e] at z
          exact s2.wd.ex a o z
      · have ne : a ≠ D := fun e2 => cD (by rw [← e2]; exact e)
        rw [upd_ne ne]
        exact s2.wd.cup a e
      · rw [upd_ne (ne_of_none (s2.gg a o z) gD)]
        exact s2.gg a o z
      · by_cases e : a = D
        · subst e
          exact .inr hD
        · rw [upd_ne e] at z
          exact s2.fr a o z
    refine q _ _ _ _ (hd acc hI) (Stp.trans w s1 s3) (.lst upd_same (rx.mono fun a o z => ?_))
    rw [upd_ne (ne_of_none z gD)]
    exact z
/-- each item gives one -/
theorem we_lcMap {wi : TI} {g : TG} {vs : List Nat} (f : PyData → PyData)
    (h : WI C c wi Γ fun ds => ds.length ≤ 10000 ∧ (∀ d ∈ ds, WG C c vs g d (wipeG Γ vs) fun Γ2 => WE C c te Γ2 fun y => y = f d) ∧ Φ (.list (ds.map f))) :
    WE C c (tLc wi g tYes te vs) Γ Φ := we_lc fun G H σ R w en q => h G H σ R w en fun ds J G1 H1 h1 s1 hJ => q ds J G1 H1 ⟨h1.1, fun i acc => acc = (ds.take i).map f, rfl, fun i d acc hd ha => by
      subst ha
      intro G2 H2 σ2 v Q2 w2 en2 r2 k2
      refine h1.2.1 d (List.mem_of_getElem? hd) G2 H2 σ2 v Q2 w2 en2 r2 fun Γ' σ' hW en' hl hk => k2 Γ' σ' (wt_yes ⟨fun _ => WE.mono hW fun y hy => by
        show (ds.take i).map f ++ [y] = (ds.take (i + 1)).map f
        rw [hy, List.take_add_one, hd, List.map_append]
        rfl, fun z => nomatch z⟩) en' hl hk, fun acc ha => by
      have e : acc = ds.map f := by
        rw [ha, List.take_length]
      rw [e]
      exact h1.2.2⟩ s1 hJ
/-- each item gives one or none -/
theorem we_lcFil {wi : TI} {g : TG} {vs : List Nat} (p : PyData → Bool) (f : PyData → PyData)
    (h : WI C c wi Γ fun ds => ds.length ≤ 10000 ∧ (∀ d ∈ ds, WG C c vs g d (wipeG Γ vs) fun Γ2 => WT C c tt Γ2 fun b => b = p d ∧ (b = true → WE C c te Γ2 fun y => y = f d)) ∧ Φ (.list ((ds.filter p).map f))) :
    WE C c (tLc wi g tt te vs) Γ Φ := we_lc fun G H σ R w en q => h G H σ R w en fun ds J G1 H1 h1 s1 hJ => q ds J G1 H1 ⟨h1.1, fun i acc => acc = ((ds.take i).filter p).map f, rfl, fun i d acc hd ha => by
      subst ha
      intro G2 H2 σ2 v Q2 w2 en2 r2 k2
      refine h1.2.1 d (List.mem_of_getElem? hd) G2 H2 σ2 v Q2 w2 en2 r2 fun Γ' σ' hW en' hl hk => k2 Γ' σ' (WT.mono hW fun b hb => ⟨fun e => WE.mono (hb.2 e) fun y hy => ?_, fun e => ?_⟩) en' hl hk
      · show ((ds.take i).filter p).map f ++ [y] = ((ds.take (i + 1)).filter p).map f
        rw [hy, List.take_add_one, hd, List.filter_append, List.map_append]
        have e2 : p d = true := by rw [← hb.1, e]
        simp [e2]
      · show ((ds.take i).filter p).map f = ((ds.take (i + 1)).filter p).map f
        rw [List.take_add_one, hd, List.filter_append, List.map_append]
        have e2 : p d = false := by rw [← hb.1, e]
        simp [e2], fun acc ha => by
      have e : acc = (ds.filter p).map f := by
        rw [ha, List.take_length]
      rw [e]
      exact h1.2.2⟩ s1 hJ
end
end DL2

/-! The operations by data. -/
section DL3
open PySem PySem.Spec PyProof.Rows L2
abbrev ctOf (X : Cx) : Ct := ⟨X.prog, X.w, X.K⟩
section
variable {X : Cx}
/-! ### sums, differences, products -/
def addT : T2 := fun d e Φ => match d, e with
  | .int i, .int j => Φ (.int (i + j))
  | .list xs, .list ys => xs.length + ys.length ≤ 10000 ∧ Φ (.list (xs ++ ys))
  | .tuple xs, .tuple ys => xs.length + ys.length ≤ 10000 ∧ Φ (.tuple (xs ++ ys))
  | _, _ => False
theorem s10 {n : Nat} (h : n ≤ 10000) : n ≤ sizeLine := Nat.le_trans h (by decide : 10000 ≤ sizeLine)
theorem op_addQ : OpR X (binaryOp .Add) (rT2 (ctOf X) addT) := by
  rintro pins s σ H x y v u Q I rx ry ⟨c, G, d, e, Φ, w, rd, re, hT, q⟩
  cases rd with
  | int i =>
    cases re with
    | int j => exact op_add pins s σ H _ _ v u Q I rx ry ⟨i, j, rfl, rfl, q.int w hT⟩
    | _ => exact hT.elim
  | @lst a xs ds ha r1 =>
    cases re with
    | @lst b ys es hb r2 =>
      refine op_cat pins s σ H _ _ v u Q I rx ry ⟨a, b, xs, ys, rfl, rfl, w.ex _ _ ha, w.ex _ _ hb, ?_, fun p hp => q.lst w hT.2 hp (r1.append r2)⟩
      rw [r1.length, r2.length]
      exact s10 hT.1
    | _ => exact hT.elim
  | @tup a xs ds ha r1 =>
    cases re with
    | @tup b ys es hb r2 =>
      refine op_catA pins s σ H _ _ v u Q I rx ry ⟨a, b, xs, ys, rfl, rfl, SqT.of (w.ex _ _ ha), SqT.of (w.ex _ _ hb), ?_, fun z => ?_, fun _ z => ?_, fun _ _ p hp => q.tup w hT.2 hp (r1.append r2)⟩
      · rw [r1.length, r2.length]
        exact s10 hT.1
      · subst z
        cases r1
        exact q.val w hT.2 (.tup hb r2)
      · subst z
        cases r2
        have := hT.2
        rw [List.append_nil] at this
        exact q.val w this (.tup ha r1)
    | _ => exact hT.elim
  | _ => cases re <;> exact hT.elim
def intT (P : Int → Int → Prop) (g : Int → Int → PyData) : T2 := fun d e Φ => match d, e with
  | .int i, .int j => P i j ∧ Φ (g i j)
  | _, _ => False
theorem op_intQ {f : Value → Value → Sem Value} {P : Int → Int → Prop} {g : Int → Int → Int} (h : OpR X f (rI P fun i j => .int (g i j))) : OpR X f (rT2 (ctOf X) (intT P fun i j => .int (g i j))) := by
  rintro pins s σ H x y v u Q I rx ry ⟨c, G, d, e, Φ, w, rd, re, hT, q⟩
  cases rd with
  | int i =>
    cases re with
    | int j => exact h pins s σ H _ _ v u Q I rx ry ⟨i, j, rfl, rfl, hT.1, q.int w hT.2⟩
    | _ => exact hT.elim
  | _ => cases re <;> exact hT.elim
theorem op_intB {f : Value → Value → Sem Value} {g : Int → Int → Bool} (h : OpR X f (rI0 fun i j => .bl (g i j))) : OpR X f (rT2 (ctOf X) (intT (fun _ _ => True) fun i j => .bool (g i j))) := by
  rintro pins s σ H x y v u Q I rx ry ⟨c, G, d, e, Φ, w, rd, re, hT, q⟩
  cases rd with
  | int i =>
    cases re with
    | int j => exact h pins s σ H _ _ v u Q I rx ry ⟨i, j, rfl, rfl, q.bool w hT.2⟩
    | _ => exact hT.elim
  | _ => cases re <;> exact hT.elim
abbrev subT : T2 := intT (fun _ _ => True) fun i j => .int (i - j)
theorem op_subQ : OpR X (binaryOp .Sub) (rT2 (ctOf X) subT) := by
  rintro pins s σ H x y v u Q I rx ry ⟨c, G, d, e, Φ, w, rd, re, hT, q⟩
  cases rd with
  | int i =>
    cases re with
    | int j => exact op_sub pins s σ H _ _ v u Q I rx ry ⟨i, j, rfl, rfl, q.int w hT.2⟩
    | _ => exact hT.elim
  | _ => cases re <;> exact hT.elim
abbrev mulT : T2 := intT CMul fun i j => .int (i * j)
theorem op_mulQ : OpR X (binaryOp .Mult) (rT2 (ctOf X) mulT) := op_intQ op_mul
abbrev divT : T2 := intT CDivN fun i j => .int (i.fdiv j)
theorem op_divQ : OpR X (binaryOp .FloorDiv) (rT2 (ctOf X) divT) := op_intQ op_fdivN
abbrev modT : T2 := intT (fun _ j => j ≠ 0) fun i j => .int (i.fmod j)
theorem op_modQ : OpR X (binaryOp .Mod) (rT2 (ctOf X) modT) := op_intQ op_modN
abbrev powT : T2 := intT CPow fun i j => .int (i ^ j.toNat)
theorem op_powQ : OpR X (binaryOp .Pow) (rT2 (ctOf X) powT) := op_intQ op_pow
abbrev ltT : T2 := intT (fun _ _ => True) fun i j => .bool (decide (i < j))
abbrev leT : T2 := intT (fun _ _ => True) fun i j => .bool (decide (i ≤ j))
abbrev gtT : T2 := intT (fun _ _ => True) fun i j => .bool (decide (j < i))
abbrev geT : T2 := intT (fun _ _ => True) fun i j => .bool (decide (j ≤ i))
theorem op_ltQ : OpR X (compareOp .Lt) (rT2 (ctOf X) ltT) := op_intB op_lt
theorem op_leQ : OpR X (compareOp .LtE) (rT2 (ctOf X) leT) := op_intB op_le
theorem op_gtQ : OpR X (compareOp .Gt) (rT2 (ctOf X) gtT) := op_intB op_gt
theorem op_geQ : OpR X (compareOp .GtE) (rT2 (ctOf X) geT) := op_intB op_ge
def negT : T1 := fun d Φ => match d with
  | .int i => Φ (.int (-i))
  | _ => False
theorem un_negQ : UnR X (unaryOp .USub) (rT1 (ctOf X) negT) := by
  rintro pins s σ H x v Q I rx ⟨c, G, d, Φ, w, rd, hT, q⟩
  cases rd with
  | int i => exact un_neg pins s σ H _ v Q I rx ⟨i, rfl, q.int w hT⟩
  | _ => exact hT.elim

/-! ### equality, in -/
def okD (d : PyData) : Bool := nodict d && SeqAt.shaped d
def eqT : T2 := fun d e Φ => (okD d = true ∧ okD e = true) ∧ Φ (.bool (PyData.eqv d e))
def neT : T2 := fun d e Φ => (okD d = true ∧ okD e = true) ∧ Φ (.bool (!PyData.eqv d e))
theorem okD_n {d : PyData} (h : okD d = true) : nodict d = true := (Bool.and_eq_true_iff.mp h).1
theorem okD_s {d : PyData} (h : okD d = true) : SeqAt.shaped d = true := (Bool.and_eq_true_iff.mp h).2
theorem op_eqQ (hu : X.A.units + 64 < cLine) : OpR X (compareOp .Eq) (rT2 (ctOf X) eqT) := by
  rintro pins s σ H x y v u Q I rx ry ⟨c, G, d, e, Φ, w, rd, re, ⟨⟨h1, h2⟩, h3⟩, q⟩
  exact op_eqD hu pins s σ H x y v u Q I rx ry ⟨d, e, rd.dp w.ex (okD_n h1), re.dp w.ex (okD_n h2), okD_s h1, okD_s h2, q.bool w h3⟩
theorem op_neQ (hu : X.A.units + 64 < cLine) : OpR X (compareOp .NotEq) (rT2 (ctOf X) neT) := by
  rintro pins s σ H x y v u Q I rx ry ⟨c, G, d, e, Φ, w, rd, re, ⟨⟨h1, h2⟩, h3⟩, q⟩
  exact op_neD hu pins s σ H x y v u Q I rx ry ⟨d, e, rd.dp w.ex (okD_n h1), re.dp w.ex (okD_n h2), okD_s h1, okD_s h2, q.bool w h3⟩
def inAny (ds : List PyData) (d : PyData) : Bool := ds.any fun z => PyData.eqv z d
def inT (neg : Bool) : T2 := fun d e Φ => match e with
  | .list ds => okD d = true ∧ okD (.list ds) = true ∧ Φ (.bool (if neg then !inAny ds d else inAny ds d))
  | .tuple ds => okD d = true ∧ okD (.tuple ds) = true ∧ Φ (.bool (if neg then !inAny ds d else inAny ds d))
  | _ => False
theorem okD_canLays {ds : List PyData} (h : okD (.tuple ds) = true) : PyData.canLayAll0 ds = true := by
  have := SeqAt.canLay_of_shaped (okD_s h)
  simpa [PyData.canLay0] using this
theorem op_inQ (hu : X.A.units + 65 < cLine) : OpR X (compareOp .In) (rT2 (ctOf X) (inT false)) := by
  rintro pins s σ H x y v u Q I rx ry ⟨c, G, d, e, Φ, w, rd, re, hT, q⟩
  cases re with
  | @lst b ys es hb r2 =>
    obtain ⟨h1, h2, h3⟩ := hT
    exact op_inD hu pins s σ H x _ v u Q I rx ry ⟨d, es, rd.dp w.ex (okD_n h1), (Dq.lst hb r2).dp w.ex (okD_n h2), okD_s h1, okD_s h2, q.bool w h3⟩
  | @tup b ys es hb r2 =>
    obtain ⟨h1, h2, h3⟩ := hT
    obtain ⟨as, q1⟩ := Dp.reads I d x v (rd.dp w.ex (okD_n h1)) rx
    obtain ⟨bs, q2⟩ := Dp.reads I (.tuple es) _ u ((Dq.tup hb r2).dp w.ex (okD_n h2)) ry
    exact SeqAt.in_tuple_reads q2 q1 (okD_canLays h2) (SeqAt.canLay_of_shaped (okD_s h1)) (room_in_shaped (okD_s h1) hu) ⟨.bl _, H, I, rfl, q.bool w h3⟩
  | _ => exact hT.elim
theorem op_notInQ (hu : X.A.units + 65 < cLine) : OpR X (compareOp .NotIn) (rT2 (ctOf X) (inT true)) := by
  rintro pins s σ H x y v u Q I rx ry ⟨c, G, d, e, Φ, w, rd, re, hT, q⟩
  cases re with
  | @lst b ys es hb r2 =>
    obtain ⟨h1, h2, h3⟩ := hT
    exact op_notInD hu pins s σ H x _ v u Q I rx ry ⟨d, es, rd.dp w.ex (okD_n h1), (Dq.lst hb r2).dp w.ex (okD_n h2), okD_s h1, okD_s h2, q.bool w h3⟩
  | @tup b ys es hb r2 =>
    obtain ⟨h1, h2, h3⟩ := hT
    obtain ⟨as, q1⟩ := Dp.reads I d x v (rd.dp w.ex (okD_n h1)) rx
    obtain ⟨bs, q2⟩ := Dp.reads I (.tuple es) _ u ((Dq.tup hb r2).dp w.ex (okD_n h2)) ry
    exact SeqAt.notIn_tuple_reads q2 q1 (okD_canLays h2) (SeqAt.canLay_of_shaped (okD_s h1)) (room_in_shaped (okD_s h1) hu) ⟨.bl _, H, I, rfl, q.bool w h3⟩
  | _ => exact hT.elim

/-! ### items -/
def ixT : T2 := fun d e Φ => match d, e with
  | .list ds, .int i => ∃ z, atI ds i = some z ∧ Φ z
  | .tuple ds, .int i => ∃ z, atI ds i = some z ∧ Φ z
  | _, _ => False
theorem atI_len {α β : Type} {xs : List α} {ys : List β} {i : Int} (hl : xs.length = ys.length) {y : β} (h : atI ys i = some y) : ∃ (j : Nat), ys[j]? = some y ∧ ∀ x, xs[j]? = some x → atI xs i = some x := by
  unfold atI at h ⊢
  rw [hl]
  cases e : ixN ys.length i with
  | none =>
    rw [e] at h
    cases h
  | some j =>
    rw [e] at h
    exact ⟨j, h, fun x hx => hx⟩
theorem ix_Q : IxR X (rT2 (ctOf X) ixT) := by
  rintro value slice pins s σ H x y v u Q I rx ry ⟨c, G, d, e, Φ, w, rd, re, hT, q⟩ hs
  cases rd with
  | @lst a xs ds ha r1 =>
    cases re with
    | int i =>
      obtain ⟨z, hz, hq⟩ := hT
      obtain ⟨j, h1, h2⟩ := atI_len r1.length hz
      obtain ⟨v', hv, rv⟩ := r1.get h1
      exact ix_list value slice pins s σ H _ _ v u Q I rx ry ⟨a, xs, i, v', rfl, rfl, SqL.of (w.ex _ _ ha), h2 _ hv, q.val w hq rv⟩ hs
    | _ => exact hT.elim
  | @tup a xs ds ha r1 =>
    cases re with
    | int i =>
      obtain ⟨z, hz, hq⟩ := hT
      obtain ⟨j, h1, h2⟩ := atI_len r1.length hz
      obtain ⟨v', hv, rv⟩ := r1.get h1
      exact ix_tup value slice pins s σ H _ _ v u Q I rx ry ⟨a, xs, i, v', rfl, rfl, SqT.of (w.ex _ _ ha), h2 _ hv, q.val w hq rv⟩ hs
    | _ => exact hT.elim
  | _ => cases re <;> exact hT.elim

/-! ### calls of built-ins -/
def lenT : Tn := fun ds Φ => match ds with
  | [.list xs] => Φ (.int xs.length)
  | [.tuple xs] => Φ (.int xs.length)
  | _ => False
theorem cr_lenQ : CallR X (.builtin "len") (rTn (ctOf X) lenT) := by
  rintro pins s σ H xs us Q I r ⟨c, G, ds, Φ, w, rd, hT, q⟩
  cases rd with
  | nil => exact hT.elim
  | cons r1 r2 =>
    cases r2 with
    | nil =>
      cases r1 with
      | @lst a ys ds ha ra => exact call_len_seq pins s σ H _ us Q I r ⟨a, ys, rfl, .inl (SqL.of (w.ex _ _ ha)), by rw [ra.length]; exact q.int w hT⟩
      | @tup a ys ds ha ra => exact call_len_seq pins s σ H _ us Q I r ⟨a, ys, rfl, .inr (SqT.of (w.ex _ _ ha)), by rw [ra.length]; exact q.int w hT⟩
      | _ => exact hT.elim
    | cons _ _ => cases r1 <;> exact hT.elim
def listT : Tn := fun ds Φ => match ds with
  | [.list xs] => Φ (.list xs)
  | [.tuple xs] => Φ (.list xs)
  | _ => False
theorem cr_listQ : CallR X (.type "list") (rTn (ctOf X) listT) := by
  rintro pins s σ H xs us Q I r ⟨c, G, ds, Φ, w, rd, hT, q⟩
  cases rd with
  | nil => exact hT.elim
  | cons r1 r2 =>
    cases r2 with
    | nil =>
      cases r1 with
      | @lst a ys ds ha ra => exact call_list_of pins s σ H _ us Q I r ⟨a, ys, rfl, .inl (SqL.of (w.ex _ _ ha)), fun l hl => q.lst w hT hl ra⟩
      | @tup a ys ds ha ra => exact call_list_of pins s σ H _ us Q I r ⟨a, ys, rfl, .inr (SqT.of (w.ex _ _ ha)), fun l hl => q.lst w hT hl ra⟩
      | _ => exact hT.elim
    | cons _ _ => cases r1 <;> exact hT.elim
def tupleT : Tn := fun ds Φ => match ds with
  | [.list xs] => Φ (.tuple xs)
  | [.tuple xs] => Φ (.tuple xs)
  | _ => False
theorem cr_tupleQ : CallR X (.type "tuple") (rTn (ctOf X) tupleT) := by
  rintro pins s σ H xs us Q I r ⟨c, G, ds, Φ, w, rd, hT, q⟩
  cases rd with
  | nil => exact hT.elim
  | cons r1 r2 =>
    cases r2 with
    | nil =>
      cases r1 with
      | @lst a ys ds ha ra => exact call_tuple_of pins s σ H _ us Q I r ⟨a, ys, rfl, .inl ⟨SqL.of (w.ex _ _ ha), fun l hl => q.tup w hT hl ra⟩⟩
      | @tup a ys ds ha ra => exact call_tuple_of pins s σ H _ us Q I r ⟨a, ys, rfl, .inr ⟨SqT.of (w.ex _ _ ha), q.val w hT (.tup ha ra)⟩⟩
      | _ => exact hT.elim
    | cons _ _ => cases r1 <;> exact hT.elim
/-- a list of truth values -/
def boolsOf : List PyData → Option (List Bool)
  | [] => some []
  | .bool b :: ds => (boolsOf ds).map (b :: ·)
  | _ => none
theorem boolsOf_vals {C : Ct} {G : Hp} : ∀ {vs : List V} {ds : List PyData} {bs : List Bool}, DqAll C G vs ds → boolsOf ds = some bs → vs = bs.map V.bl
  | _, _, bs, .nil, h => by
    cases h
    rfl
  | _, _, bs, .cons (d := d) h r, e => by
    cases h with
    | bl b =>
      unfold boolsOf at e
      cases e2 : boolsOf _ with
      | none =>
        rw [e2] at e
        cases e
      | some cs =>
        rw [e2] at e
        cases e
        rw [boolsOf_vals r e2]
        rfl
    | _ => cases e
def allT : Tn := fun ds Φ => match ds with
  | [.list xs] => ∃ bs, boolsOf xs = some bs ∧ Φ (.bool (bs.all id))
  | _ => False
theorem cr_allQ (hc : X.calm = true) : CallR X (.builtin "all") (rTn (ctOf X) allT) := by
  rintro pins s σ H xs us Q I r ⟨c, G, ds, Φ, w, rd, hT, q⟩
  cases rd with
  | nil => exact hT.elim
  | cons r1 r2 =>
    cases r2 with
    | nil =>
      cases r1 with
      | @lst a ys ds ha ra =>
        obtain ⟨bs, h1, h2⟩ := hT
        have e := boolsOf_vals ra h1
        subst e
        exact cr_all hc pins s σ H _ us Q I r ⟨a, bs, rfl, SqL.of (w.ex _ _ ha), q.bool w h2⟩
      | _ => exact hT.elim
    | cons _ _ => cases r1 <;> exact hT.elim
/-- a list of ints -/
def intsOf : List PyData → Option (List Int)
  | [] => some []
  | .int b :: ds => (intsOf ds).map (b :: ·)
  | _ => none
theorem intsOf_vals {C : Ct} {G : Hp} : ∀ {vs : List V} {ds : List PyData} {bs : List Int}, DqAll C G vs ds → intsOf ds = some bs → vs = bs.map V.int
  | _, _, bs, .nil, h => by
    cases h
    rfl
  | _, _, bs, .cons (d := d) h r, e => by
    cases h with
    | int b =>
      unfold intsOf at e
      cases e2 : intsOf _ with
      | none =>
        rw [e2] at e
        cases e
      | some cs =>
        rw [e2] at e
        cases e
        rw [intsOf_vals r e2]
        rfl
    | _ => cases e
def sumT : Tn := fun ds Φ => match ds with
  | [.list xs] => ∃ bs, intsOf xs = some bs ∧ Φ (.int bs.sum)
  | _ => False
theorem cr_sumQ (hc : X.calm = true) : CallR X (.builtin "sum") (rTn (ctOf X) sumT) := by
  rintro pins s σ H xs us Q I r ⟨c, G, ds, Φ, w, rd, hT, q⟩
  cases rd with
  | nil => exact hT.elim
  | cons r1 r2 =>
    cases r2 with
    | nil =>
      cases r1 with
      | @lst a ys ds ha ra =>
        obtain ⟨bs, h1, h2⟩ := hT
        have e := intsOf_vals ra h1
        subst e
        exact cr_sum hc pins s σ H _ us Q I r ⟨a, bs, rfl, SqL.of (w.ex _ _ ha), q.int w h2⟩
      | _ => exact hT.elim
    | cons _ _ => cases r1 <;> exact hT.elim
def onInts2 (T : Int → Int → Prop) : List PyData → Prop
  | [.int i, .int j] => T i j
  | _ => False
theorem two_ints {C : Ct} {G : Hp} {vs : List V} {ds : List PyData} (r : DqAll C G vs ds) {T : Int → Int → Prop} (h : onInts2 T ds) : ∃ i j, vs = [.int i, .int j] ∧ T i j := by
  cases r with
  | nil => exact h.elim
  | cons r1 r2 =>
    cases r2 with
    | nil => cases r1 <;> exact h.elim
    | cons r2 r3 =>
      cases r3 with
      | nil =>
        cases r1 with
        | int i =>
          cases r2 with
          | int j => exact ⟨i, j, rfl, h⟩
          | _ => exact h.elim
        | _ => cases r2 <;> exact h.elim
      | cons _ _ => cases r1 <;> cases r2 <;> exact h.elim
def minT : Tn := fun ds Φ => onInts2 (fun i j => Φ (.int (if j < i then j else i))) ds
def maxT : Tn := fun ds Φ => onInts2 (fun i j => Φ (.int (if j > i then j else i))) ds
theorem cr_minQ (hc : X.calm = true) : CallR X (.builtin "min") (rTn (ctOf X) minT) := by
  rintro pins s σ H xs us Q I r ⟨c, G, ds, Φ, w, rd, hT, q⟩
  obtain ⟨i, j, rfl, h⟩ := two_ints (T := fun i j => Φ (.int (if j < i then j else i))) rd hT
  exact call_min2 hc pins s σ H _ us Q I r ⟨i, j, rfl, q.int w h⟩
theorem cr_maxQ (hc : X.calm = true) : CallR X (.builtin "max") (rTn (ctOf X) maxT) := by
  rintro pins s σ H xs us Q I r ⟨c, G, ds, Φ, w, rd, hT, q⟩
  obtain ⟨i, j, rfl, h⟩ := two_ints (T := fun i j => Φ (.int (if j > i then j else i))) rd hT
  exact call_max2 hc pins s σ H _ us Q I r ⟨i, j, rfl, q.int w h⟩
def int1T : Tn := fun ds Φ => match ds with
  | [.int i] => Φ (.int i)
  | [.bool b] => Φ (.int (if b then 1 else 0))
  | _ => False
theorem cr_intQ : CallR X (.type "int") (rTn (ctOf X) int1T) := by
  rintro pins s σ H xs us Q I r ⟨c, G, ds, Φ, w, rd, hT, q⟩
  cases rd with
  | nil => exact hT.elim
  | cons r1 r2 =>
    cases r2 with
    | nil =>
      cases r1 with
      | int i => exact call_int1 pins s σ H _ us Q I r (.inl ⟨i, rfl, q.int w hT⟩)
      | bl b => exact call_int1 pins s σ H _ us Q I r (.inr ⟨b, rfl, q.int w hT⟩)
      | _ => exact hT.elim
    | cons _ _ => cases r1 <;> exact hT.elim
def absT : Tn := fun ds Φ => match ds with
  | [.int i] => Φ (.int (if i < 0 then -i else i))
  | _ => False
theorem cr_absQ : CallR X (.builtin "abs") (rTn (ctOf X) absT) := by
  rintro pins s σ H xs us Q I r ⟨c, G, ds, Φ, w, rd, hT, q⟩
  cases rd with
  | nil => exact hT.elim
  | cons r1 r2 =>
    cases r2 with
    | nil =>
      cases r1 with
      | int i => exact call_abs pins s σ H _ us Q I r ⟨i, rfl, q.int w hT⟩
      | _ => exact hT.elim
    | cons _ _ => cases r1 <;> exact hT.elim

/-! ### isinstance(x, T) -/
def tyD : PyData → String
  | .none => "NoneType"
  | .bool _ => "bool"
  | .int _ => "int"
  | .str _ => "str"
  | .list _ => "list"
  | .tuple _ => "tuple"
  | .dict _ => "dict"
theorem we_isi {C : Ct} {c : Option Addr} {Γ : List Sl} {Φ : PK} {te : TE} {T : String} (h : WE C c te Γ fun d => nodict d = true ∧ ∃ b, kitB (tyD d) T = some b ∧ Φ (.bool b)) :
    WE C c (tCB (rIsi C.K) (tCons te (tCons (tC (.ty T)) tNil))) Γ Φ := fun G H σ Q w en q =>
  h G H σ _ w en fun d v G1 H1 h1 s1 r1 => by
    obtain ⟨hn, b, hb, hq⟩ := h1
    refine ⟨v, .ty T, .type (tyD d), .type T, b, rfl, .ty T, ?_, kit_ty hb, q _ _ G1 H1 hq s1 (.bl b)⟩
    cases r1 with
    | non => exact .base .non
    | bl b => exact .base (.bl b)
    | int b => exact .base (.int b)
    | str b => exact .base (.str b)
    | lst ha _ => exact .base (.lst (s1.wd.ex _ _ ha))
    | tup ha _ => exact .base (.tup (s1.wd.ex _ _ ha))
    | dct _ _ => simp [nodict] at hn

/-! ### slices [a:] -/
theorem we_slT {C : Ct} {c : Option Addr} {Γ : List Sl} {Φ : PK} {te tl : TE} (h : WE C c te Γ fun x => WE C c tl Γ fun y => ∃ ds, x = .tuple ds ∧ y = .int 1 ∧ Φ (.tuple (ds.drop 1))) :
    WE C c (tSl (rSlA C.K) te (tPart tl) tNoPart) Γ Φ := fun G H σ Q w en q =>
  h G H σ _ w en fun d v G1 H1 h1 s1 r1 => h1 G1 H1 σ _ s1.wd (en.mono s1.gg) fun e u G2 H2 h2 s2 r2 => by
    obtain ⟨ds, rfl, rfl, hq⟩ := h2
    cases r2
    have rr := r1.mono s2.gg
    cases rr with
    | @tup a xs _ ha ra =>
      refine ⟨1, rfl, a, xs, rfl, SqT.of (s2.wd.ex _ _ ha), fun z => ?_, fun z p hp => ?_⟩
      · have hx : xs = [] := by
          have e1 : HT.sIx xs.length 0 (some 1) = min 1 xs.length := HT.sIx_nat xs.length 0 1
          have e2 := z.1
          rw [e1] at e2
          cases xs with
          | nil => rfl
          | cons x r =>
            rw [List.length_cons] at e2
            omega
        subst hx
        cases ra
        exact q _ _ G2 H2 hq (Stp.trans w s1 s2) (.tup ha .nil)
      · have e : cutV xs (some 1) none = xs.drop 1 := by
          unfold cutV
          rw [show HT.sIx xs.length 0 (some 1) = min 1 xs.length from HT.sIx_nat xs.length 0 1, HT.sIx_none]
          cases xs with
          | nil => rfl
          | cons x r =>
            rw [show min 1 (x :: r).length = 1 by
              rw [List.length_cons]
              omega]
            show (List.take ((x :: r).length - 1) r) = r
            rw [List.length_cons, Nat.add_sub_cancel]
            exact List.take_length
        rw [e]
        exact Fin.tup (C := C) (c := c) s2.wd (Fin.back w (Stp.trans w s1 s2) q) hq hp (ra.drop 1)
theorem we_slL {C : Ct} {c : Option Addr} {Γ : List Sl} {Φ : PK} {te tl : TE} (h : WE C c te Γ fun x => WE C c tl Γ fun y => ∃ ds, x = .list ds ∧ y = .int 1 ∧ Φ (.list (ds.drop 1))) :
    WE C c (tSl (rSlL C.K) te (tPart tl) tNoPart) Γ Φ := fun G H σ Q w en q =>
  h G H σ _ w en fun d v G1 H1 h1 s1 r1 => h1 G1 H1 σ _ s1.wd (en.mono s1.gg) fun e u G2 H2 h2 s2 r2 => by
    obtain ⟨ds, rfl, rfl, hq⟩ := h2
    cases r2
    have rr := r1.mono s2.gg
    cases rr with
    | @lst a xs _ ha ra =>
      refine ⟨1, rfl, a, xs, rfl, SqL.of (s2.wd.ex _ _ ha), fun p hp => ?_⟩
      have e : cutV xs (some 1) none = xs.drop 1 := by
        unfold cutV
        rw [show HT.sIx xs.length 0 (some 1) = min 1 xs.length from HT.sIx_nat xs.length 0 1, HT.sIx_none]
        cases xs with
        | nil => rfl
        | cons x r =>
          rw [show min 1 (x :: r).length = 1 by
            rw [List.length_cons]
            omega]
          show (List.take ((x :: r).length - 1) r) = r
          rw [List.length_cons, Nat.add_sub_cancel]
          exact List.take_length
      rw [e]
      exact Fin.lst (C := C) (c := c) s2.wd (Fin.back w (Stp.trans w s1 s2) q) hq hp (ra.drop 1)
end
end DL3

/-! Dicts whose keys are tuples, by data. -/
section DL4
open PySem PySem.Spec PyProof.Rows L2
section
variable {X : Cx} {pins : List (Addr × Obj)} {σ : L2.St} {G H : Hp} {s : Shared}
mutual
theorem Dq.key (I : Inv X pins σ H s) (e : ∀ a o, G a = some o → H a = some o) : ∀ (d : PyData) (v : V) (u : Value), Dq (ctOf X) G v d → keyB d = true → RelV v u → NestedIs s.heap (nk d) u
  | .none, _, _, h, _, r => by
    cases h
    cases r
    exact .none
  | .bool b, _, _, h, _, r => by
    cases h
    cases r
    exact .bool rfl
  | .int i, _, _, h, _, r => by
    cases h
    obtain ⟨t, rfl⟩ := r
    exact .int i t
  | .str x, _, _, h, _, r => by
    cases h
    obtain ⟨t, rfl⟩ := r
    exact .text x t
  | .tuple ds, _, _, h, k, r => by
    cases h with
    | tup ha hr =>
      cases r
      obtain ⟨its, rv, ⟨o, ho, hc, n, hd⟩, _⟩ := I.tuple (SqT.of (e _ _ ha))
      exact .tup ho hc hd (DqAll.keys I e ds _ its hr (by simpa [keyB] using k) rv)
  | .list _, _, _, _, k, _ => by simp [keyB] at k
  | .dict _, _, _, _, k, _ => by simp [keyB] at k
theorem DqAll.keys (I : Inv X pins σ H s) (e : ∀ a o, G a = some o → H a = some o) : ∀ (ds : List PyData) (vs : List V) (us : List Value), DqAll (ctOf X) G vs ds → keyBs ds = true → Vals vs us → NestedAll s.heap (nks ds) us
  | [], _, _, h, _, r => by
    cases h
    cases r
    exact .nil
  | d :: ds, _, _, h, k, r => by
    cases h with
    | cons h1 h2 =>
      cases r with
      | cons r1 r2 =>
        rw [keyBs, Bool.and_eq_true] at k
        exact .cons (Dq.key I e d _ _ h1 k.1 r1) (DqAll.keys I e ds _ _ h2 k.2 r2)
end
theorem keyOk_b {d : PyData} (h : keyOk d = true) : keyB d = true := (Bool.and_eq_true_iff.mp h).1
theorem Dq.keyIs (I : Inv X pins σ H s) (e : ∀ a o, G a = some o → H a = some o) {d : PyData} {b : Addr} (h : Dq (ctOf X) G (.ref b) d) (k : keyOk d = true) : (nestedKind X.prog X.w).is s.heap (nk d) b :=
  ⟨Dq.key I e d _ _ h (keyOk_b k) rfl, of_decide_eq_true (Bool.and_eq_true_iff.mp k).2⟩
/-- a key that may be used is a tuple, if its value is an object -/
theorem Dq.ref_of_key {C : Ct} {d : PyData} {v : V} (h : Dq C G v d) (t : ∃ ds, d = .tuple ds) : ∃ b, v = .ref b := by
  obtain ⟨ds, rfl⟩ := t
  cases h
  exact ⟨_, rfl⟩
theorem DqKv.isAll (I : Inv X pins σ H s) (e : ∀ a o, G a = some o → H a = some o) : ∀ {es : List (NestedKey × Addr × V)} {kvs : List (PyData × PyData)} {xs : List (NestedKey × Addr × Value)}, DqKv (ctOf X) G es kvs →
    Paired (fun (e : NestedKey × Addr × V) (x : NestedKey × Addr × Value) => e.1 = x.1 ∧ e.2.1 = x.2.1 ∧ RelV e.2.2 x.2.2) es xs → ∀ x ∈ xs, (nestedKind X.prog X.w).is s.heap x.1 x.2.1
  | _, _, _, .nil, .nil, x, hx => by cases hx
  | _, _, _, .cons h1 h2 h3 h4 r, .cons (b := y) q1 q2, x, hx => by
    rcases List.mem_cons.mp hx with rfl | hx
    · rw [← q1.1, ← q1.2.1]
      subst h3
      exact Dq.keyIs I e h1 h2
    · exact DqKv.isAll I e r q2 x hx
/-- the library's word for a dict that is data -/
theorem Dq.dict (I : Inv X pins σ H s) (e : ∀ a o, G a = some o → H a = some o) {a : Addr} {es : List (NestedKey × Addr × V)} {kvs : List (PyData × PyData)} (ha : G a = some (dctO (ctOf X) a es)) (hr : DqKv (ctOf X) G es kvs) :
    (a == sysModules) = false ∧ es.length ≤ sizeLine ∧ ∃ xs : List (NestedKey × Addr × Value), Paired (fun (e : NestedKey × Addr × V) (x : NestedKey × Addr × Value) => e.1 = x.1 ∧ e.2.1 = x.2.1 ∧ RelV e.2.2 x.2.2) es xs ∧ s.heap.DictOfH (nestedKind X.prog X.w) a xs := by
  have h : DctPhi (ctOf X) a es s.heap := (I.hok a _ (e a _ ha)).1
  obtain ⟨h1, h2, h3, xs, h4, o, ds, ep, h5, h6, h7, h8⟩ := h
  refine ⟨h1, h2, xs, h4, o, ds, ep, h5, h6, h7, h8, DqKv.isAll I e hr h4, ?_⟩
  have em : es.map (·.1) = xs.map (·.1) := by
    clear h2 h3 h8 hr ha
    induction h4 with
    | nil => rfl
    | cons q _ ih => rw [List.map_cons, List.map_cons, ih, q.1]
  rw [← em]
  exact h3
theorem dctO_new {C : Ct} {H : Hp} {h : Heap} {a : Addr} {es : List (NestedKey × Addr × V)} (R : DctPhi C a es h) : ObjOk C.P C.w H h a (dctO C a es) := by
  have ⟨h1, h2, h3, xs, h4, o, ds, ep, h5, h6⟩ := R
  refine ⟨R, ⟨o, h5⟩, fun g1 g2 p k => ?_⟩
  obtain ⟨h1, h2, h3, xs, h4, o, ds, ep, h5, h6⟩ := p
  exact ⟨h1, h2, h3, xs, h4, o, ds, ep, k o h5, h6⟩

/-! ### looking up -/
def lookK (kvs : List (PyData × PyData)) (k : PyData) : Option PyData := (kvs.find? fun p => decide (nk p.1 = nk k)).map (·.2)
theorem lookK_at {C : Ct} (k : PyData) : ∀ {es : List (NestedKey × Addr × V)} {kvs : List (PyData × PyData)} {xs : List (NestedKey × Addr × Value)}, DqKv C G es kvs →
    Paired (fun (e : NestedKey × Addr × V) (x : NestedKey × Addr × Value) => e.1 = x.1 ∧ e.2.1 = x.2.1 ∧ RelV e.2.2 x.2.2) es xs →
    (lookK kvs k = none ∧ atKey xs (nk k) = none) ∨ ∃ z v b u, lookK kvs k = some z ∧ atKey xs (nk k) = some (b, u) ∧ RelV v u ∧ Dq C G v z
  | _, _, _, .nil, .nil => .inl ⟨rfl, rfl⟩
  | _, _, _,   .cons (b := bb) (v := vv) (kd := kd) (vd := vd) (kvs := kvs) h1 h2 h3 h4 r, .cons (b := y) (l₂ := ys) q1 q2 => by
    have ih := lookK_at k r q2
    obtain ⟨y1, y2, y3⟩ := y
    obtain ⟨e1, e2, e3⟩ := q1
    simp only at e1 e2 e3
    subst e1 e2 h3
    by_cases hk : nk kd = nk k
    · refine .inr ⟨vd, vv, bb, y3, ?_, ?_, e3, h4⟩
      · unfold lookK
        rw [List.find?_cons_of_pos (by exact decide_eq_true hk)]
        rfl
      · unfold atKey
        rw [List.find?_cons_of_pos (by exact decide_eq_true hk)]
        rfl
    · have g1 : lookK ((kd, vd) :: kvs) k = lookK kvs k := by
        unfold lookK
        rw [List.find?_cons_of_neg (by rw [decide_eq_false hk]; exact Bool.false_ne_true)]
      have g2 : atKey ((nk kd, bb, y3) :: ys) (nk k) = atKey ys (nk k) := by
        unfold atKey
        rw [List.find?_cons_of_neg (by rw [decide_eq_false hk]; exact Bool.false_ne_true)]
      rw [g1, g2]
      exact ih
def getT : T2 := fun d k Φ => match d, k with
  | .dict kvs, .tuple ks => keyOk (.tuple ks) = true ∧ ∃ z, lookK kvs (.tuple ks) = some z ∧ Φ z
  | _, _ => False
theorem ix_dQ (hu : X.A.units + 64 < cLine) : IxR X (rT2 (ctOf X) getT) := by
  rintro value slice pins s σ H x y v u Q I rx ry ⟨c, G, d, e, Φ, w, rd, re, hT, q⟩ hs
  cases rd with
  | @dct a es kvs ha hr =>
    cases re with
    | @tup b xs ks hb hk =>
      obtain ⟨k1, z, hz, hq⟩ := hT
      cases rx
      cases ry
      obtain ⟨_, _, ys, h4, hm⟩ := Dq.dict I w.ex ha hr
      rcases lookK_at (.tuple ks) hr h4 with ⟨l, _⟩ | ⟨z', v', b', u', l, at', r', dq⟩
      · rw [hz] at l
        cases l
      · rw [hz] at l
        cases l
        refine subscriptTail_builtinR (x := u') hm.typeIs PySem.F.slot_dict_getitem.lookup (wpAny_getItem_heap (knd := nestedKind X.prog X.w) (show X.A.units + 1 + 8 < cLine by omega) (Dq.keyIs I w.ex (Dq.tup hb hk) k1) hm at' ⟨rfl, ?_⟩) hs
        exact ⟨v', H, I.tok _, r', q.val w hq dq⟩
    | _ => exact hT.elim
  | _ => cases re <;> exact hT.elim
def notInKT : T2 := fun k d Φ => match d, k with
  | .dict kvs, .tuple ks => keyOk (.tuple ks) = true ∧ Φ (.bool (!(lookK kvs (.tuple ks)).isSome))
  | _, _ => False
theorem op_notInKQ (hu : X.A.units + 64 < cLine) : OpR X (compareOp .NotIn) (rT2 (ctOf X) notInKT) := by
  rintro pins s σ H x y v u Q I rx ry ⟨c, G, e, d, Φ, w, re, rd, hT, q⟩
  cases rd with
  | @dct a es kvs ha hr =>
    cases re with
    | @tup b xs ks hb hk =>
      obtain ⟨k1, hq⟩ := hT
      cases rx
      cases ry
      obtain ⟨hS, _, ys, h4, hm⟩ := Dq.dict I w.ex ha hr
      show wpAny _ _ (do return Value.bool (!(← contains (.ref a) (.ref b)))) _ _ s
      refine wpAny_bind (wpAny_contains_heap (knd := nestedKind X.prog X.w) (show X.A.units + 1 + 8 < cLine by omega) (Dq.keyIs I w.ex (Dq.tup hb hk) k1) hS hm (wpAny_pure ⟨.bl _, H, I.tok _, rfl, ?_⟩))
      have e : (atKey ys (nk (.tuple ks))).isSome = (lookK kvs (.tuple ks)).isSome := by
        rcases lookK_at (.tuple ks) hr h4 with ⟨l1, l2⟩ | ⟨z', v', b', u', l1, l2, _, _⟩
        · rw [l1, l2]
          rfl
        · rw [l1, l2]
          rfl
      rw [e]
      exact q.bool w hq
    | _ => exact hT.elim
  | _ => cases re <;> exact hT.elim

/-! ### dict(pairs) -/
def pairsD : List PyData → Option (List (PyData × PyData))
  | [] => some []
  | .tuple [k, v] :: ds => (pairsD ds).map ((k, v) :: ·)
  | _ => none
def isTup : PyData → Bool
  | .tuple _ => true
  | _ => false
theorem pairs_open {G H : Hp} (I : Inv X pins σ H s) (e : ∀ a o, G a = some o → H a = some o) : ∀ {xs : List V} {ds : List PyData} {kvs : List (PyData × PyData)} {its : List Value}, DqAll (ctOf X) G xs ds → pairsD ds = some kvs → (∀ p ∈ kvs, keyOk p.1 = true ∧ isTup p.1 = true) → Vals xs its →
    ∃ (es : List (NestedKey × Addr × V)) (ys : List (NestedKey × Addr × Value)) (Ts : List Addr), DqKv (ctOf X) G es kvs ∧ Paired (fun (e : NestedKey × Addr × V) (x : NestedKey × Addr × Value) => e.1 = x.1 ∧ e.2.1 = x.2.1 ∧ RelV e.2.2 x.2.2) es ys ∧
      es.map (·.1) = kvs.map (fun p => nk p.1) ∧ Ts.length = ys.length ∧ its.length = ys.length ∧
      ∀ (j : Nat) (k : NestedKey) (b : Addr) (v : Value), ys[j]? = some (k, b, v) → ∃ T : Addr, Ts[j]? = some T ∧ its[j]? = some (Value.ref T) ∧ PairAt s.heap T (Value.ref b) v
  | _, _, _, _, .nil, h, _, r => by
    cases h
    cases r
    exact ⟨[], [], [], .nil, .nil, rfl, rfl, rfl, fun j k b v z => by simp at z⟩
  | _, _, _, _, .cons (d := d) h1 h2, h, hk, r => by
    cases r with
    | cons r1 r2 =>
      cases h1 with
      | @tup a xs' ds' ha hr =>
        cases hr with
        | nil => cases h
        | cons g1 g2 =>
          cases g2 with
          | nil => cases h
          | cons g2 g3 =>
            cases g3 with
            | cons _ _ => cases h
            | nil =>
              rename_i kv kd vv vd
              unfold pairsD at h
              cases hp : pairsD _ with
              | none =>
                rw [hp] at h
                cases h
              | some kvs' =>
                rw [hp] at h
                cases h
                obtain ⟨es, ys, Ts, i1, i2, i3, i4, i5, i6⟩ := pairs_open I e h2 hp (fun p hp => hk p (List.mem_cons_of_mem _ hp)) r2
                obtain ⟨k1, k2⟩ := hk (kd, vd) List.mem_cons_self
                cases r1
                obtain ⟨b, rfl⟩ : ∃ b, kv = V.ref b := by
                  cases g1 <;> first | exact ⟨_, rfl⟩ | (simp [isTup] at k2)
                obtain ⟨its', rv, ⟨o, ho, hc, n, hd⟩, _⟩ := I.tuple (SqT.of (e _ _ ha))
                cases rv with
                | cons q1 q2 =>
                  cases q2 with
                  | @cons _ v0 _ _ q2 q3 =>
                    cases q3
                    cases q1
                    refine ⟨(nk kd, b, vv) :: es, (nk kd, b, v0) :: ys, a :: Ts, .cons g1 k1 rfl g2 i1, .cons ⟨rfl, rfl, q2⟩ i2, by rw [List.map_cons, List.map_cons, i3], by rw [List.length_cons, List.length_cons, i4], by rw [List.length_cons, List.length_cons, i5], fun j k b' v z => ?_⟩
                    cases j with
                    | zero =>
                      simp only [List.getElem?_cons_zero, Option.some.injEq, Prod.mk.injEq] at z
                      obtain ⟨rfl, rfl, rfl⟩ := z
                      exact ⟨a, rfl, rfl, .inl ⟨o, ho, hc, n, hd⟩⟩
                    | succ j =>
                      obtain ⟨T, t1, t2, t3⟩ := i6 j k b' v (by simpa using z)
                      exact ⟨T, by simpa using t1, by simpa using t2, t3⟩
      | _ => cases h
def dictT : Tn := fun ds Φ => match ds with
  | [.list xs] => ∃ kvs, pairsD xs = some kvs ∧ (∀ p ∈ kvs, keyOk p.1 = true ∧ isTup p.1 = true) ∧ (kvs.map fun p => nk p.1).Nodup ∧ Φ (.dict kvs)
  | _ => False
theorem cr_dictQ (hc : X.calm = true) (hu : X.A.units + 64 < cLine) : CallR X (.type "dict") (rTn (ctOf X) dictT) := by
  rintro pins s σ H xs us Q I r ⟨c, G, ds, Φ, w, rd, hT, q⟩
  cases rd with
  | nil => exact hT.elim
  | cons r1 r2 =>
    cases r2 with
    | cons _ _ => cases r1 <;> exact hT.elim
    | nil =>
      cases r1 with
      | @lst a ys ds ha ra =>
        obtain ⟨kvs, h1, h2, h3, h4⟩ := hT
        rw [Vals.ref1 r]
        obtain ⟨its, rv, ⟨o, n, ho, hcl, hdd, hdat⟩, hz⟩ := I.list (SqL.of (w.ex _ _ ha))
        obtain ⟨es, zs, Ts, i1, i2, i3, i4, i5, i6⟩ := pairs_open I w.ex ra h1 h2 rv
        let ps : List (Value × Value) := zs.map fun x => (Value.ref x.2.1, x.2.2)
        have hps : ps.length = zs.length := by simp [ps]
        have key : ∀ (j : Nat) (k v : Value), ps[j]? = some (k, v) → ∃ b k', zs[j]? = some (k', b, v) ∧ k = .ref b := by
          intro j k v e
          simp only [ps, List.getElem?_map, Option.map_eq_some_iff, Prod.mk.injEq] at e
          obtain ⟨⟨k', b, v'⟩, e1, e2, e3⟩ := e
          exact ⟨b, k', by rw [e1, ← e3], e2.symm⟩
        have P := PairArg.list (prog := X.prog) (w := X.w) a its.toArray (fun j => (Ts[j]?).getD 0) ps
        have okA : PlainSeq "list" s.heap a its.toArray ∧ PairItems s.heap its.toArray (fun j => (Ts[j]?).getD 0) ps := by
          refine ⟨⟨o, n, ho, hcl, hdd, hdat⟩, by rw [List.size_toArray, hps, i5], fun j k v e => ?_⟩
          obtain ⟨b, k', e1, rfl⟩ := key j k v e
          obtain ⟨T, t1, t2, t3⟩ := i6 j k' b v e1
          have et : (Ts[j]?).getD 0 = T := by rw [t1]; rfl
          show its.toArray[j]? = some (Value.ref ((Ts[j]?).getD 0)) ∧ PairAt s.heap ((Ts[j]?).getD 0) (Value.ref b) v
          rw [et]
          exact ⟨by simpa using t2, t3⟩
        have isAll := DqKv.isAll I w.ex i1 i2
        have hnd : (zs.map (·.1)).Nodup := by
          have em : es.map (·.1) = zs.map (·.1) := by
            clear i1 i3 i4 i5 i6 P okA key hps isAll
            induction i2 with
            | nil => rfl
            | cons q _ ih => rw [List.map_cons, List.map_cons, ih, q.1]
          rw [← em, i3]
          exact h3
        have hzs : zs.length ≤ sizeLine := by
          have := rv.length
          omega
        refine call_dict_pairsH (knd := nestedKind X.prog X.w) (ps := zs) P (I.ok.hd hc) (show X.A.units + 1 + 1 + 8 < cLine by omega) okA ?_ (fun h' hk x hx => ?_) (by rw [hps]; exact hzs) fun h' tk hd' hk => ?_
        · refine ⟨hps.symm, fun j k v e => ?_⟩
          obtain ⟨b, k', e1, e2⟩ := key j k v e
          exact ⟨k', b, e1, e2⟩
        · exact nestedKind_stays.stays (fun b o vs n e _ => hk b o (Nat.ne_of_lt (Heap.lt_size e)) (fun z => nomatch z) e) (isAll x hx)
        · rw [storedAllH_nil_of_nodup zs hnd] at hd'
          obtain ⟨o', ds', ep', g1, g2, g3, g4, g5, g6⟩ := hd'
          have hm : (s.heap.objs.size == sysModules) = false := beq_eq_false_iff_ne.mpr (Nat.ne_of_gt I.big)
          have hes : es.length ≤ sizeLine := by
            rw [show es.length = zs.length from Paired.length i2]
            exact hzs
          have R : DctPhi (ctOf X) s.heap.objs.size es h' := ⟨hm, hes, by rw [i3]; exact h3, zs, i2, o', ds', ep', g1, g2, g3, g4⟩
          have hn := I.hok.fresh (a := s.heap.objs.size) (Nat.le_refl _)
          refine ⟨.ref s.heap.objs.size, upd H s.heap.objs.size (dctO (ctOf X) s.heap.objs.size es), I.laid (t' := tk) (fun b o e => hk b o (fun z => nomatch z) e) (Nat.le_refl _) (dctO_new R), rfl, ?_⟩
          have st := Stp.new (o := dctO (ctOf X) s.heap.objs.size es) w hn
          exact q _ _ _ _ h4 st (.dct upd_same (i1.mono st.gg))
      | _ => exact hT.elim
end
end DL4

/-! {} and {**a, **b}, by data. -/
section DL5
open PySem PySem.Spec PyProof.Rows L2
section
variable {prog : Program} {w : World} {A : Around} {E : Value → Shared → Prop} {s : Shared} {K : Type} [DecidableEq K] {knd : HeapKind prog w K}
theorem dictPut_new {d a : Addr} {xs : List (K × Addr × Value)} {k : K} {v : Value} {Q : Unit → Shared → Prop} (hu : knd.room A) (hkey : knd.is s.heap k a) (hm : s.heap.DictOfH knd d xs) (hnew : k ∉ xs.map (·.1))
    (hQ : ∀ h', h'.DictOfH knd d (xs ++ [(k, a, v)]) → Heap.SameBut d s.heap h' → Q () { s with heap := h' }) (hsz : xs.length ≤ sizeLine) :
    wpAny (model prog w) A (dictPut d (knd.hash k) (.ref a) v) Q E s := by
  obtain ⟨o, es, ep, ho, hc, hd, he, his, hn⟩ := hm
  unfold dictPut
  refine wpAny_bind (wpAny_dictFind_heap hu hkey ho hd he his hn ?_ ?_)
  · intro hno
    refine (wpAny_updateDictKeys (hz := by have e := size_of_entries he; omega) ho hd (hQ _ ⟨_, _, ep + 1, Heap.get?_update_self _ ho (Obj.isFreed_of_dict (Obj.data_mapDictKeys hd _)),
      hc.mapDictKeys _, Obj.data_mapDictKeys hd _, ?_, ?_, ?_⟩ (Heap.SameBut.update ..)))
    · simp [he, entryOfKey]
    · intro x hx
      rcases List.mem_append.mp hx with hx | hx
      · exact knd.keeps (his x hx) ho hd (Heap.SameBut.update ..)
      · simp only [List.mem_singleton] at hx
        subst hx
        exact knd.keeps hkey ho hd (Heap.SameBut.update ..)
    · rw [List.map_append, List.nodup_append]
      refine ⟨hn, by simp, ?_⟩
      intro x hx y hy
      simp only [List.map_cons, List.map_nil, List.mem_singleton] at hy
      subst hy
      exact fun e => hnew (e ▸ hx)
  · intro j p hj
    exfalso
    have : k ∈ xs.map (·.1) := List.mem_map.mpr ⟨(k, p), List.mem_of_getElem? hj, rfl⟩
    exact hnew this
theorem mergeMap {d o : Addr} {kvs more : List (K × Addr × Value)} {Q : Unit → Shared → Prop} (hu : knd.room A) (hdo : d ≠ o) (hoS : (o == sysModules) = false)
    (hd : s.heap.DictOfH knd d kvs) (ho : s.heap.DictOfH knd o more) (hty : ∀ x ∈ more, s.TypeIs (.ref x.2.1) "tuple") (hap : (more.map fun x => knd.hash x.1).Nodup) (hn : ((kvs ++ more).map (·.1)).Nodup)
    (hQ : ∀ h', h'.DictOfH knd d (kvs ++ more) → h'.DictOfH knd o more → Heap.SameBut d s.heap h' → Q () { s with heap := h' })
    (hsz : kvs.length + more.length ≤ sizeLine) :
    wpAny (model prog w) A (mergeMapping d (.ref o) false) Q E s := by
  obtain ⟨od, esd, epd, hod, hcd, hdd, hed, hisd, hnd⟩ := id hd
  obtain ⟨oo, eso, epo, hoo, hco, hdo', heo, hiso, hno⟩ := id ho
  unfold mergeMapping
  refine wpAny_bind (wpAny_isInstance ho.typeIs isSubtype_dict_dict ?_)
  rw [if_pos rfl]
  refine wpAny_bind (wpAny_specialOf ho.typeIs F.slot_dict_iter.lookup (wpAny_bind (wpAny_pure ?_)))
  simp only [beq_self_eq_true]
  rw [if_neg (by rw [hoS]; exact Bool.false_ne_true)]
  have hlen : eso.size = more.length := size_of_entries heo
  have loop : wpAny (model prog w) A (do
      let __do_lift ← dictEntries o
      have size : Nat := __do_lift.size
      let epoch ← dictEpoch o
      forIn (List.range size) PUnit.unit fun i __s => do
          let __do_lift ← dictEntries o
          match __do_lift[i]? with
            | some e => do
              holding [e.key, e.val] (dictPut d e.hash e.key e.val)
              let __do_lift ← dictEpoch o
              if (__do_lift != epoch) = true then do
                  (unsupported "dict.changed-during-merge" : Sem PUnit)
                  pure (ForInStep.yield PUnit.unit)
                else pure (ForInStep.yield PUnit.unit)
            | x => do
              (unsupported "dict.changed-during-merge" : Sem PUnit)
              pure (ForInStep.yield PUnit.unit)
      pure ()) Q E s := by
    refine wpAny_bind (wpAny_dictEntries hoo hdo' ?_)
    refine wpAny_bind (wpAny_dictEpoch hoo hdo' ?_)
    refine wpAny_bind ?_
    rw [List.range_eq_range']
    refine wpAny_forIn_list _
      (fun rest _ s' => ∃ h' i, s' = { s with heap := h' } ∧ rest = List.range' i (eso.size - i) ∧ i ≤ eso.size ∧ h'.DictOfH knd d (kvs ++ more.take i) ∧ h'.DictOfH knd o more ∧ h'.get? o = some oo ∧ Heap.SameBut d s.heap h')
      _ ?_ ?_ _ _ ⟨s.heap, 0, rfl, by simp, Nat.zero_le _, by simpa using hd, ho, hoo, Heap.SameBut.refl _ _⟩
    · rintro x rest b s' ⟨h', i, rfl, hr, hi, hd', ho', hoo', hs'⟩
      have hlt : i < eso.size := by
        rcases Nat.lt_or_ge i eso.size with h | h
        · exact h
        · rw [Nat.sub_eq_zero_of_le h] at hr; simp at hr
      obtain ⟨rfl, hrest⟩ : x = i ∧ rest = List.range' (i + 1) (eso.size - (i + 1)) := by
        have e : eso.size - i = (eso.size - (i + 1)) + 1 := by omega
        rw [e, List.range'_succ] at hr
        injection hr with h1 h2
        exact ⟨h1, h2⟩
      refine wpAny_bind (wpAny_dictEntries hoo' hdo' ?_)
      obtain ⟨⟨k, a, v⟩, hkv⟩ : ∃ kv, more[x]? = some kv := ⟨more[x]'(by rw [← hlen]; exact hlt), List.getElem?_eq_getElem _⟩
      rw [entry_at heo x, hkv]
      show wpAny _ _ (holding [.ref a, v] (dictPut d (knd.hash k) (.ref a) v) >>= _) _ _ _
      have htk : more.take (x + 1) = more.take x ++ [(k, a, v)] := by
        rw [List.take_add_one, hkv]
        rfl
      have hnew : k ∉ (kvs ++ more.take x).map (·.1) := by
        have h1 : ((kvs ++ more.take (x + 1)).map (·.1)).Nodup := by
          have h2 : (kvs ++ more.take (x + 1)).Sublist (kvs ++ more) := List.Sublist.append_left (List.take_sublist _ _) _
          exact hn.sublist (h2.map _)
        rw [htk, ← List.append_assoc, List.map_append, List.nodup_append] at h1
        intro hm
        exact h1.2.2 k hm k (by simp) rfl
      have hmx : (kvs ++ more.take x).length ≤ sizeLine := by
        rw [List.length_append, List.length_take]
        omega
      have hkey : knd.is h' k a := by
        obtain ⟨_, _, _, _, _, _, _, his', _⟩ := ho'
        exact his' (k, a, v) (List.mem_of_getElem? hkv)
      refine wpAny_bind (wpAny_holding (dictPut_new (s := { s with heap := h' }) hu hkey hd' hnew (fun h'' hd'' hs'' => ?_) hmx))
      have hoo'' : h''.get? o = some oo := (hs''.2 o (Ne.symm hdo)).trans hoo'
      refine wpAny_bind (wpAny_dictEpoch hoo'' hdo' ?_)
      rw [if_neg (by simp)]
      exact wpAny_pure ⟨h'', x + 1, rfl, hrest, hlt, by rw [htk, ← List.append_assoc]; exact hd'', ho'.notHere hd' hdo hs'', hoo'', hs'.trans hs''⟩
    · rintro b s' ⟨h', i, rfl, hr, hi, hd', ho', hoo', hs'⟩
      have hin : i = eso.size := by
        rcases Nat.lt_or_ge i eso.size with h | h
        · have e : eso.size - i = (eso.size - (i + 1)) + 1 := by omega
          rw [e, List.range'_succ] at hr; exact nomatch hr
        · exact Nat.le_antisymm hi h
      refine wpAny_pure (hQ h' ?_ ho' hs')
      rw [hin, hlen, List.take_length] at hd'; exact hd'
  refine wpAny_bind (wpAny_dictEntries hod hdd ?_)
  split
  · refine wpAny_bind (wpAny_dictEntries hoo hdo' ?_)
    refine wpAny_bind ?_
    rw [← Array.forIn_toList]
    refine wpAny_forIn_list _ (fun rest _ s' => s' = s ∧ ∀ e ∈ rest, KeyApart s eso e) _ ?_ ?_ _ _ ⟨rfl, keysApart heo hty hap⟩
    · rintro e rest b s' ⟨rfl, hall⟩
      have hrest : ∀ x ∈ rest, KeyApart s' eso x := fun x hx => hall x (List.mem_cons_of_mem _ hx)
      rcases hall e List.mem_cons_self with hv | ⟨a, hk, hT, h1⟩
      · have hk : ∀ a, e.key ≠ .ref a := fun a z => by
          rw [z] at hv
          cases hv
        split
        · rename_i a z
          exact absurd z (hk a)
        · exact wpAny_pure ⟨rfl, hrest⟩
      · rw [hk]
        refine wpAny_bind (wpAny_specialOf hT F.slot_tuple_eq.lookup ?_)
        refine wpAny_ite_split (fun _ => ?_) (fun _ => wpAny_pure ⟨rfl, hrest⟩)
        rw [if_neg (by omega)]
        exact wpAny_pure ⟨rfl, hrest⟩
    · rintro b s' ⟨rfl, _⟩
      exact loop
  · exact loop
end

section
variable {X : Cx} {pos : Pos} {a b : Expr} {ta tb : TE} {pins : List (Addr × Obj)} {σ : L2.St} {H : Hp} {s : Shared}
theorem tup_of_key {h : Heap} {k : PyData} {b : Addr} {prog : Program} {w : World} {s : Shared} (x : NestedIs s.heap (nk k) (.ref b)) (t : isTup k = true) : s.TypeIs (.ref b) "tuple" := by
  cases k with
  | tuple ds =>
    cases x with
    | tup h1 h2 _ _ => exact ⟨_, h1, h2⟩
  | _ => simp [isTup] at t
theorem DqKv.types (I : Inv X pins σ H s) : ∀ {es : List (NestedKey × Addr × V)} {kvs : List (PyData × PyData)} {xs : List (NestedKey × Addr × Value)}, DqKv (ctOf X) H es kvs → (∀ p ∈ kvs, isTup p.1 = true) →
    Paired (fun (e : NestedKey × Addr × V) (x : NestedKey × Addr × Value) => e.1 = x.1 ∧ e.2.1 = x.2.1 ∧ RelV e.2.2 x.2.2) es xs → ∀ x ∈ xs, s.TypeIs (.ref x.2.1) "tuple"
  | _, _, _, .nil, _, .nil, x, hx => by cases hx
  | _, _, _, .cons (kd := kd) (vd := vd) h1 h2 h3 h4 r, t, .cons (b := y) q1 q2, x, hx => by
    rcases List.mem_cons.mp hx with rfl | hx
    · rw [← q1.2.1]
      subst h3
      have := t (kd, vd) List.mem_cons_self
      cases h1 with
      | tup ha hr =>
        obtain ⟨its, rv, ⟨o, ho, hc, n, hd⟩, _⟩ := I.tuple (SqT.of ha)
        exact ⟨o, ho, hc⟩
      | _ => simp [isTup] at this
    · exact DqKv.types I r (fun p hp => t p (List.mem_cons_of_mem _ hp)) q2 x hx
theorem keys_map : ∀ {es : List (NestedKey × Addr × V)} {xs : List (NestedKey × Addr × Value)},
    Paired (fun (e : NestedKey × Addr × V) (x : NestedKey × Addr × Value) => e.1 = x.1 ∧ e.2.1 = x.2.1 ∧ RelV e.2.2 x.2.2) es xs → es.map (·.1) = xs.map (·.1)
  | _, _, .nil => rfl
  | _, _, .cons q r => by rw [List.map_cons, List.map_cons, keys_map r, q.1]
theorem Paired.app {α β : Type} {F : α → β → Prop} : ∀ {l₁ m₁ : List α} {l₂ m₂ : List β}, Paired F l₁ l₂ → Paired F m₁ m₂ → Paired F (l₁ ++ m₁) (l₂ ++ m₂)
  | _, _, _, _, .nil, s => s
  | _, _, _, _, .cons h t, s => .cons h (Paired.app t s)
def KeysGood (C : Ct) (kvs : List (PyData × PyData)) : Prop := (kvs.map fun p => (nk p.1).hash C.w).Nodup ∧ ∀ p ∈ kvs, isTup p.1 = true
theorem DqKv.hashes {C : Ct} {G : Hp} : ∀ {es : List (NestedKey × Addr × V)} {kvs : List (PyData × PyData)}, DqKv C G es kvs → es.map (fun e => e.1.hash C.w) = kvs.map fun p => (nk p.1).hash C.w
  | _, _, .nil => rfl
  | _, _, .cons _ _ h3 _ r => by rw [List.map_cons, List.map_cons, DqKv.hashes r, h3]
theorem DqKv.nks {C : Ct} {G : Hp} : ∀ {es : List (NestedKey × Addr × V)} {kvs : List (PyData × PyData)}, DqKv C G es kvs → es.map (·.1) = kvs.map fun p => nk p.1
  | _, _, .nil => rfl
  | _, _, .cons _ _ h3 _ r => by rw [List.map_cons, List.map_cons, DqKv.nks r, h3]
/-- **m, into the dict at p -/
theorem merge_step {E : Value → Shared → Prop} {Q : Unit → Shared → Prop} {p m : Addr} {es es' : List (NestedKey × Addr × V)} {kvs kvs' : List (PyData × PyData)} (hu : X.A.units + 64 < cLine) (I : Inv X pins σ H s)
    (hp : H p = some (dctO (ctOf X) p es)) (hk : DqKv (ctOf X) H es kvs) (hm : H m = some (dctO (ctOf X) m es')) (hk' : DqKv (ctOf X) H es' kvs') (ne : p ≠ m) (g : KeysGood (ctOf X) kvs')
    (nd : ((es ++ es').map (·.1)).Nodup) (sz : es.length + es'.length ≤ sizeLine) (h : ∀ s', Inv X pins σ (upd H p (dctO (ctOf X) p (es ++ es'))) s' → Q () s') :
    wpAny (model X.prog X.w) X.A (mergeMapping p (.ref m) false) Q E s := by
  obtain ⟨hS, _, xs, h4, hd⟩ := Dq.dict (G := H) I (fun _ _ z => z) hp hk
  obtain ⟨hS', _, xs', h4', hd'⟩ := Dq.dict (G := H) I (fun _ _ z => z) hm hk'
  have nd' : ((xs ++ xs').map (·.1)).Nodup := by
    rw [← keys_map (Paired.app h4 h4')]
    exact nd
  have hash' : (xs'.map fun x => (nestedKind X.prog X.w).hash x.1).Nodup := by
    have e : xs'.map (fun x => (nestedKind X.prog X.w).hash x.1) = kvs'.map fun p => (nk p.1).hash X.w := by
      rw [← DqKv.hashes (C := ctOf X) hk']
      have := congrArg (List.map fun k : NestedKey => k.hash X.w) (keys_map h4')
      rw [List.map_map, List.map_map] at this
      exact this.symm
    rw [e]
    exact g.1
  have l1 := Paired.length h4
  have l2 := Paired.length h4'
  refine mergeMap (knd := nestedKind X.prog X.w) (show X.A.units + 8 < cLine by omega) ne hS' hd hd' (DqKv.types I hk' g.2 h4') hash' nd' (fun h' hn _ sb => ?_) (by omega)
  obtain ⟨o, ds, ep, e1, e2, e3, e4, e5, e6⟩ := hn
  have R : DctPhi (ctOf X) p (es ++ es') h' := ⟨hS, by rw [List.length_append]; exact sz, nd, xs ++ xs', Paired.app h4 h4', o, ds, ep, e1, e2, e3, e4⟩
  exact h _ (I.write (t' := s.toks) (x := p) (e := p) (by rw [hp]; trivial) (.inl rfl) (fun b u nb eb => (sb.2 b nb).trans eb) ⟨o, e1⟩ (dctO_new R))
/-- {**a, **b} -/
def tDMerge (C : Ct) (ta tb : TE) : TE := fun σ H Q => ∀ p, H p = none → ta σ (upd H p (dctO C p [])) fun x H1 => ∃ a1 es1 kvs1, x = .ref a1 ∧ H1 a1 = some (dctO C a1 es1) ∧ DqKv C H1 es1 kvs1 ∧ H1 p = some (dctO C p []) ∧ p ≠ a1 ∧ KeysGood C kvs1 ∧
  (es1.map (·.1)).Nodup ∧ es1.length ≤ sizeLine ∧
  tb σ (upd H1 p (dctO C p es1)) fun y H2 => ∃ a2 es2 kvs2, y = .ref a2 ∧ H2 a2 = some (dctO C a2 es2) ∧ DqKv C H2 es2 kvs2 ∧ H2 p = some (dctO C p es1) ∧ DqKv C H2 es1 kvs1 ∧ p ≠ a2 ∧ KeysGood C kvs2 ∧ ((es1 ++ es2).map (·.1)).Nodup ∧
    es1.length + es2.length ≤ sizeLine ∧ Q (.ref p) (upd H2 p (dctO C p (es1 ++ es2)))
theorem empty_dct (h : Heap) (hb : sysModules < h.objs.size) {C : Ct} : DctPhi C h.objs.size [] (h.push { cls := .type "dict", data := .dict #[] }) :=
  ⟨beq_eq_false_iff_ne.mpr (Ne.symm (Nat.ne_of_lt hb)), Nat.zero_le _, List.nodup_nil, [], .nil, _, #[], 0, Heap.get?_push_size _ rfl, ⟨rfl, rfl, rfl⟩, rfl, rfl⟩
theorem pe_dmerge (hu : X.A.units + 64 < cLine) (ha : PE X a ta) (hb : PE X b tb) : PE X (.Dict [none, none] [a, b] pos) (tDMerge (ctOf X) ta tb) := by
  refine ⟨fun pins s σ H Q I h => ?_⟩
  rw [arm_eval_Dict]
  refine wpAny_bind (wpAny_standAt ?_)
  show wpAny _ _ (dictDisplay [(none, do let x ← eval a X.env; standAt pos; pure x), (none, do let x ← eval b X.env; standAt pos; pure x)]) _ _ _
  unfold dictDisplay
  simp only [List.forIn_cons, List.forIn_nil]
  have hn : H s.heap.objs.size = none := I.hok.fresh (Nat.le_refl _)
  have I1 : Inv X pins σ (upd H s.heap.objs.size (dctO (ctOf X) s.heap.objs.size [])) { s with heap := s.heap.push { cls := .type "dict", data := .dict #[] } } :=
    I.laid (t' := s.toks) (fun _ _ q => Heap.get?_push_of_some _ q) (Nat.le_refl _) (dctO_new (empty_dct s.heap I.big))
  refine wpAny_bind (wpAny_bind (wpAny_bind (wpAny_pure ?_)))
  refine wpAny_bind (wpAny_alloc ?_)
  refine wpAny_bind (wpAny_holding (wpAny_bind (thn (ha.run pins _ σ _ _ I1 (h _ hn)) fun v s1 ⟨x, H1, I2, rx, a1, es1, kvs1, ex, e1, e2, e3, e4, e5, e6, e7, q1⟩ => wpAny_bind (wpAny_standAt (wpAny_pure ?_)))))
  subst ex
  cases rx
  refine wpAny_bind (wpAny_onRaise (wpAny_tryCatch (wpAny_onRaise (wpAny_holding (merge_step hu I2 e3 .nil e1 e2 e4 e5 e6 (by simpa using e7) fun s2 I3 => ?_)))))
  refine wpAny_pure ?_
  refine wpAny_bind (wpAny_bind ?_)
  refine wpAny_pure ?_
  refine wpAny_bind (wpAny_pure ?_)
  refine wpAny_bind (wpAny_holding (wpAny_bind (thn (hb.run pins _ σ _ _ I3 q1) fun v s3 ⟨y, H2, I4, ry, a2, es2, kvs2, ey, f1, f2, f3, f4, f5, f6, f7, f8, q2⟩ => wpAny_bind (wpAny_standAt (wpAny_pure ?_)))))
  subst ey
  cases ry
  refine wpAny_bind (wpAny_onRaise (wpAny_tryCatch (wpAny_onRaise (wpAny_holding (merge_step hu I4 f3 f4 f1 f2 f5 f6 f7 f8 fun s4 I5 => ?_)))))
  refine wpAny_pure ?_
  refine wpAny_pure ?_
  refine wpAny_bind (wpAny_pure ?_)
  exact wpAny_pure ⟨V.ref s.heap.objs.size, _, I5, rfl, q2⟩
end
section
variable {C : Ct} {c : Option Addr} {Γ : List Sl} {Φ : PK} {ta tb : TE}
theorem we_dmerge (h : WE C c ta Γ fun x => ∃ kvs1, x = .dict kvs1 ∧ KeysGood C kvs1 ∧ kvs1.length ≤ 5000 ∧ WE C c tb Γ fun y => ∃ kvs2, y = .dict kvs2 ∧ KeysGood C kvs2 ∧ ((kvs1 ++ kvs2).map fun p => nk p.1).Nodup ∧ kvs1.length + kvs2.length ≤ 10000 ∧ Φ (.dict (kvs1 ++ kvs2))) :
    WE C c (tDMerge C ta tb) Γ Φ := fun G H σ Q w en q p hp => by
  have g0 : G p = none := by
    cases z : G p with
    | none => rfl
    | some o =>
      have := w.ex p o z
      rw [hp] at this
      cases this
  have s0 : Stp c G H G (upd H p (dctO C p [])) := Stp.raw w hp
  have cp : c ≠ some p := fun e => by
    obtain ⟨_, x, y, h2, _⟩ := w.cup p e
    rw [hp] at h2
    cases h2
  refine h G _ σ _ s0.wd en fun d v G1 H1 h1 s1 r1 => ?_
  obtain ⟨kvs1, rfl, k1, l1, h1⟩ := h1
  have hide : ∀ {Ga Ha Gb Hb : Hp} {o : HO}, Stp c Ga Ha Gb Hb → Ga p = none → Ha p = some o → Gb p = none := by
    intro Ga Ha Gb Hb o st z1 z2
    cases z : Gb p with
    | none => rfl
    | some o =>
      rcases st.fr p o z with z | z
      · rw [z1] at z
        cases z
      · rw [z2] at z
        cases z
  cases r1 with
  | @dct a1 es1 _ d1 d2 =>
    have p1 : H1 p = some (dctO C p []) := s1.hh p _ upd_same cp
    have g1 : G1 p = none := hide s1 g0 upd_same
    -- the heap with the first merged
    have w1 : Wd c G1 (upd H1 p (dctO C p es1)) := by
      refine ⟨fun a o z => ?_, fun a e => ?_⟩
      · have ne : a ≠ p := fun e => by
          rw [e, g1] at z
          cases z
        rw [upd_ne ne]
        exact s1.wd.ex a o z
      · have ne : a ≠ p := fun e2 => cp (by rw [← e2]; exact e)
        rw [upd_ne ne]
        exact s1.wd.cup a e
    have ne1 : p ≠ a1 := fun e => by
      rw [← e, g1] at d1
      cases d1
    have le1 := DqKv.length d2
    refine ⟨a1, es1, kvs1, rfl, s1.wd.ex _ _ d1, d2.mono s1.wd.ex, p1, ne1, k1, ?_, Nat.le_trans (by omega) (by decide : 5000 ≤ sizeLine), ?_⟩
    · rw [DqKv.nks d2]
      refine nodup_of_map (f := fun k : NestedKey => k.hash C.w) ?_
      rw [List.map_map]
      exact k1.1
    · refine h1 G1 _ σ _ w1 (en.mono fun a o z => s1.gg a o z) fun d v G2 H2 h2 s2 r2 => ?_
      obtain ⟨kvs2, rfl, k2, nd, l2, hq⟩ := h2
      cases r2 with
      | @dct a2 es2 _ f1 f2 =>
        have p2 : H2 p = some (dctO C p es1) := s2.hh p _ upd_same cp
        have g2 : G2 p = none := hide s2 g1 upd_same
        have ne2 : p ≠ a2 := fun e => by
          rw [← e, g2] at f1
          cases f1
        have le2 := DqKv.length f2
        have d22 : DqKv C G2 es1 kvs1 := d2.mono s2.gg
        refine ⟨a2, es2, kvs2, rfl, s2.wd.ex _ _ f1, f2.mono s2.wd.ex, p2, d22.mono s2.wd.ex, ne2, k2, ?_, Nat.le_trans (by omega) (by decide : 10000 ≤ sizeLine), ?_⟩
        · rw [List.map_append, DqKv.nks d2, DqKv.nks f2, ← List.map_append]
          exact nd
        · -- the dict becomes data
          have app : ∀ {G' : Hp} {e1 e2 : List (NestedKey × Addr × V)} {m1 m2 : List (PyData × PyData)}, DqKv C G' e1 m1 → DqKv C G' e2 m2 → DqKv C G' (e1 ++ e2) (m1 ++ m2) := by
            intro G' e1 e2 m1 m2 x y
            induction e1 generalizing m1 with
            | nil =>
              cases x
              exact y
            | cons e r ih =>
              cases x with
              | cons x1 x2 x3 x4 x5 => exact .cons x1 x2 x3 x4 (ih x5)
          have kk := app d22 f2
          refine q _ _ (upd G2 p (dctO C p (es1 ++ es2))) _ hq ?_ (.dct upd_same (kk.mono fun a o z => by rw [upd_ne (ne_of_none z g2)]; exact z))
          refine ⟨⟨fun a o z => ?_, fun a e => ?_⟩, fun a o z => ?_, fun a o z n => ?_, fun a o z => ?_⟩
          · by_cases e : a = p
            · subst e
              rw [upd_same] at z ⊢
              exact z
            · rw [upd_ne e] at z ⊢
              exact s2.wd.ex a o z
          · have ne : a ≠ p := fun e2 => cp (by rw [← e2]; exact e)
            rw [upd_ne ne, upd_ne ne]
            exact s2.wd.cup a e
          · have z2 := s2.gg a o (s1.gg a o z)
            rw [upd_ne (ne_of_none z2 g2)]
            exact z2
          · have ne : a ≠ p := ne_of_none z hp
            rw [upd_ne ne]
            refine s2.hh a o ?_ n
            rw [upd_ne ne]
            refine s1.hh a o ?_ n
            rw [upd_ne ne]
            exact z
          · by_cases e : a = p
            · subst e
              exact .inr hp
            · rw [upd_ne e] at z
              rcases s2.fr a o z with z | z
              · rcases s1.fr a o z with z | z
                · exact .inl z
                · rw [upd_ne e] at z
                  exact .inr z
              · rw [upd_ne e] at z
                have := s1.trk s0.wd z
                rw [upd_ne e] at this
                exact .inr this
/-- {} -/
def tNewD (C : Ct) : TE := fun _ H Q => ∀ p, H p = none → Q (.ref p) (upd H p (dctO C p []))
theorem pe_newD {X : Cx} {pos : Pos} : PE X (.Dict [] [] pos) (tNewD (ctOf X)) := ⟨fun pins s σ H Q I h =>
  wpAny_Dict_empty ⟨.ref s.heap.objs.size, _, I.laid (a := s.heap.objs.size) (o := dctO (ctOf X) s.heap.objs.size []) (t' := s.toks) (fun _ _ q => Heap.get?_push_of_some _ q) (Nat.le_refl _) (dctO_new (empty_dct s.heap I.big)), rfl, h _ (I.hok.fresh (Nat.le_refl _))⟩⟩
theorem we_newD (h : Φ (.dict [])) : WE C c (tNewD C) Γ Φ := fun G H σ Q w en q p hp => by
  have s := Stp.new (o := dctO C p []) w hp
  exact q _ _ _ _ h s (.dct upd_same .nil)
end
end DL5

/-! sorted, by data. -/
section DL6
open PySem PySem.Spec PyProof.Rows L2
open PySem.W (AllAlike dataLe dataLt alike alikeAll EachIs SortsAt dataKind dataKind_some dataKind_inv looks_reads dataType dataType_alike sortVals sortVals_data Sortable keyToks)
section
variable {prog : Program} {w : World} {A : Around} {s : Shared}
open PySem.SeqAt in
theorem call_tuple_lt {E : Value → Shared → Prop} {Q : Value → Shared → Prop} {l b : Addr} {items items2 : Array Value} {e r : Nat → Bool} (hl : s.heap.IsTuple l items) (hb : s.heap.IsTuple b items2)
    (he : ∀ j (h1 : j < items.size) (h2 : j < items2.size), EqAt A.in1 s items[j] items2[j] (e j)) (hr : ∀ j (h1 : j < items.size) (h2 : j < items2.size), e j = false → RcLt A.in1 s items[j] items2[j] (r j))
    (h : Q (.bool (firstLt e r (decide (items.size < items2.size)) (List.range (min items.size items2.size)))) s) : wpAny (model prog w) A (call (.builtin "tuple.__lt__") [.ref l, .ref b]) Q E s := by
  obtain ⟨⟨cls, dd, data, sl⟩, ho, hc, n, hd⟩ := id hl
  obtain ⟨⟨cls2, dd2, data2, sl2⟩, ho2, hc2, n2, hd2⟩ := id hb
  simp only at hc hd hc2 hd2
  subst hc hd hc2 hd2
  exact call_meets PySem.F.slot_tuple_lt ⟨_, ho, rfl⟩ PySem.F.entry_tuple_lt (PySem.F.args_tuple_lt_2 _ _) (tuple_ltAt l b items items2 n n2 dd dd2 sl sl2 e r) ⟨ho, ho2, he, hr, h⟩
open PySem.SeqAt PySem.W in
/-- two tuples, by their own < -/
theorem oneLt_tup {xs ys : List PyData} {a b : Value} {as bs : List Addr} {E : Value → Shared → Prop} {Q : Bool → Shared → Prop} (ra : Reads s.heap a (.tuple xs) as) (rb : Reads s.heap b (.tuple ys) bs) (h : alike (.tuple xs) (.tuple ys) = true)
    (hu : A.units + min (PyData.depth (.tuple xs)) (PyData.depth (.tuple ys)) < cLine) (hq : Q (dataLt (.tuple xs) (.tuple ys)) s) : wpAny (model prog w) A (oneLt' true a b) Q E s := by
  have hal : alikeAll xs ys = true := by simpa [alike] using h
  cases ra with
  | @tuple l o vs n _ as₁ h1 h2 h3 h4 =>
    cases rb with
    | @tuple l' o' vs' n' _ bs₁ k1 k2 k3 k4 =>
      have n1 : vs.size = xs.length := by simpa using ReadsAll.length _ _ _ h4
      have n2 : vs'.size = ys.length := by simpa using ReadsAll.length _ _ _ k4
      rw [dataLt_tuple, ← firstLt_toks xs ys hal, ← n1, ← n2] at hq
      rw [oneLt'_eq]
      simp only [if_true]
      refine wpAny_bind (wpAny_cRoomFor (room_here hu) ?_)
      refine wpAny_bind (wpAny_callSpecialIfBound?_slot (T := "tuple") ⟨_, h1, h2⟩ PySem.F.slot_tuple_lt (call_tuple_lt (e := pairEq xs ys) (r := fun j => dataLt (xs.getD j .none) (ys.getD j .none)) ⟨_, h1, h2, _, h3⟩ ⟨_, k1, k2, _, k3⟩ (fun j j1 j2 => ?_) (fun j j1 j2 hj => ?_) ?_))
      · have := eqAt_alikeAll xs ys A.in1 s vs.toList vs'.toList _ _ h4 k4 hal (room_in hu) j (by simpa using j1) (by simpa using j2)
        simpa using this
      · have := rcLt_alikeAll xs ys A.in1 s vs.toList vs'.toList _ _ h4 k4 hal (room_in hu) j (by simpa using j1) (by simpa using j2) hj
        simpa using this
      · exact wpAny_truthy_bool hq
/-- tuples, the first of them empty -/
def HeadNil (ds : List PyData) : Prop := ∃ rest, ds = .tuple [] :: rest ∧ ∀ d, d ∈ rest → ∃ xs, d = .tuple xs
theorem mapM_any {M : Model} {E : Value → Shared → Prop} {α β : Type} {f : α → Sem β} (P : α → β → Prop) : ∀ (l : List α) {Q : List β → Shared → Prop}, (∀ v ∈ l, ∀ (Q' : β → Shared → Prop), (∀ r, P v r → Q' r s) → wpAny M A (f v) Q' E s) → (∀ rs, EachIs P l rs → Q rs s) → wpAny M A (l.mapM f) Q E s
  | [], _, _, h => by rw [List.mapM_nil]; exact wpAny_pure (h [] .nil)
  | x :: l, Q, hf, h => by
    rw [List.mapM_cons]
    exact wpAny_bind (hf x (.head _) _ fun r hr => wpAny_bind (mapM_any P l (Q := fun bs s' => wpAny M A (pure (r :: bs)) Q E s') (fun v hv => hf v (.tail _ hv)) fun rs hrs => wpAny_pure (h _ (.cons hr hrs))))
theorem kind_headNil {vs : List Value} {ds : List PyData} {E : Value → Shared → Prop} {Q : SortKind → Shared → Prop} (h2 : 2 ≤ vs.length) (e : EachIs (fun v d => ∃ as, Reads s.heap v d as) vs ds) (hn : HeadNil ds) (h : Q oneType' s) :
    wpAny (model prog w) A (keyKind' vs.toArray) Q E s := by
  obtain ⟨rest, rfl, ht⟩ := hn
  cases e with
  | @cons v₁ _ vr _ hv he =>
  obtain ⟨as, r1⟩ := hv
  have tupOf : ∀ v ∈ vr, ∃ xs as, Reads s.heap v (.tuple xs) as := by
    intro v hv
    obtain ⟨d, hd, as, r⟩ := he.left v hv
    obtain ⟨xs, rfl⟩ := ht d hd
    exact ⟨xs, as, r⟩
  have all : ∀ v ∈ v₁ :: vr, PySem.W.Looks (model prog w) s.heap (typeOf v) (.type "tuple") := by
    intro v hv
    rcases List.mem_cons.mp hv with rfl | hv
    · exact looks_reads r1
    · obtain ⟨xs, as, r⟩ := tupOf v hv
      exact looks_reads r
  rw [keyKind'_eq, List.mapM_toArray, map_eq_pure_bind]
  rw [List.mapM_cons]
  refine wpAny_bind (wpAny_bind (wpAny_bind ?_))
  rw [PySem.W.kas_first_eq]
  refine wpAny_bind ((all v₁ List.mem_cons_self).here ?_)
  rw [if_neg (by decide)]
  cases r1 with
  | @tuple l o xs n _ _ h1 h2' h3 h4 =>
    have hx : xs = #[] := by
      generalize hy : xs.toList = zs at h4
      cases h4
      exact Array.toList_eq_nil_iff.mp hy
    subst hx
    refine wpAny_bind (listItems_at h1 h3 (wpAny_pure ?_))
    refine wpAny_bind (mapM_any (fun _ _ => True) vr (fun v hv Q' hq => ?_) fun rs _ => wpAny_pure (wpAny_pure ?_))
    · obtain ⟨ys, as', r⟩ := tupOf v hv
      rw [PySem.W.kas_first_eq]
      refine wpAny_bind ((looks_reads r).here ?_)
      have hne : ¬ ((dataType (PyData.tuple ys) != Value.type "tuple") = true) := by simp [dataType]
      rw [if_neg hne]
      cases r with
      | tuple g1 g2 g3 g4 => exact wpAny_bind (listItems_at g1 g3 (wpAny_pure (hq _ trivial)))
    · have e0 : (#[] : Array Value)[0]? = none := rfl
      rw [e0]
      rw [if_neg (by simp), if_neg (by simp)]
      rw [oneTypeOnly'_eq, List.mapM_toArray, map_eq_pure_bind]
      refine wpAny_bind (wpAny_bind (wpAny_bind (PySem.W.kas_mapM (r := Value.type "tuple") _ (fun v hv Q' hq => (all v hv).here hq) (wpAny_pure ?_))))
      have hall : ((List.map (fun _ => Value.type "tuple") (Value.ref l :: vr)).toArray.all fun x => x == Value.type "tuple") = true := by
        simp only [List.all_toArray, List.all_map, List.all_eq_true]
        intro _ _
        first | rfl | decide
      have h0 : (List.map (fun _ => Value.type "tuple") (Value.ref l :: vr)).toArray[0]? = some (Value.type "tuple") := by simp
      rw [h0]
      simp only [hall, if_true]
      exact wpAny_pure (wpAny_pure h)
theorem sortsHeadNil {vs : List Value} {ds : List PyData} (e : EachIs (fun v d => ∃ as, Reads s.heap v d as) vs ds) (hal : AllAlike ds) (hn : HeadNil ds) (hu : ∀ d, d ∈ ds → A.units + d.depth < cLine) : SortsAt prog w A s (dataKind s.heap ds) vs := by
  refine ⟨fun v hv => ?_, oneType', ?_, fun h2 E Q hq => kind_headNil h2 e hn hq⟩
  · obtain ⟨d, hd, as, r⟩ := e.left v hv
    exact ⟨_, dataKind_some hal hd r⟩
  · intro E x y a b Q ha hb hq
    obtain ⟨d, as, hd, ra, rfl⟩ := dataKind_inv ha
    obtain ⟨d', as', hd', rb, rfl⟩ := dataKind_inv hb
    have tp : ∀ d, d ∈ ds → ∃ xs, d = .tuple xs := by
      obtain ⟨rest, rfl, ht⟩ := hn
      intro d hd
      rcases List.mem_cons.mp hd with rfl | hd
      · exact ⟨[], rfl⟩
      · exact ht d hd
    obtain ⟨xs, rfl⟩ := tp d hd
    obtain ⟨ys, rfl⟩ := tp d' hd'
    rw [keyLt'_oneType]
    exact oneLt_tup ra rb (hal _ hd _ hd') (Nat.lt_of_le_of_lt (Nat.add_le_add_left (Nat.min_le_left _ _) _) (hu _ hd)) hq
def SrtK (ds : List PyData) : Prop := Sortable ds ∨ HeadNil ds
theorem sortsK {vs : List Value} {ds : List PyData} (e : EachIs (fun v d => ∃ as, Reads s.heap v d as) vs ds) (hal : AllAlike ds) (hn : SrtK ds) (hu : ∀ d, d ∈ ds → A.units + d.depth < cLine) : SortsAt prog w A s (dataKind s.heap ds) vs := by
  rcases hn with h | h
  · exact SortsAt.data e hal h hu
  · exact sortsHeadNil e hal h hu
end
def SrtOk (ds : List PyData) : Prop := nodicts ds = true ∧ AllAlike ds ∧ SrtK ds ∧ ds.length ≤ 10000 ∧ ∀ d, d ∈ ds → d.depth ≤ 60
noncomputable def srt (ds : List PyData) : List PyData := ds.mergeSort (dataLe false fun d => d)
section
variable {X : Cx} {pins : List (Addr × Obj)} {σ : L2.St} {G H : Hp} {s : Shared}
theorem each_of_dq {G : Hp} (I : Inv X pins σ H s) (e : ∀ a o, G a = some o → H a = some o) : ∀ {vs : List V} {ds : List PyData} {us : List Value}, DqAll (ctOf X) G vs ds → Vals vs us → nodicts ds = true →
    EachIs (fun u d => ∃ v, RelV v u ∧ Dq (ctOf X) G v d) us ds ∧ EachIs (fun u d => ∃ as, Reads s.heap u d as) us ds
  | _, _, _, .nil, .nil, _ => ⟨.nil, .nil⟩
  | _, _, _, .cons h r, .cons g q, n => by
    rw [nodicts, Bool.and_eq_true] at n
    obtain ⟨i1, i2⟩ := each_of_dq I e r q n.2
    exact ⟨.cons ⟨_, g, h⟩ i1, .cons (Dp.reads I _ _ _ (h.dp e n.1) g) i2⟩
theorem each_back {C : Ct} {G : Hp} : ∀ {us : List Value} {ds : List PyData}, EachIs (fun u d => ∃ v, RelV v u ∧ Dq C G v d) us ds → ∃ vs, Vals vs us ∧ DqAll C G vs ds
  | _, _, .nil => ⟨[], .nil, .nil⟩
  | _, _, .cons ⟨v, h1, h2⟩ r => by
    obtain ⟨vs, i1, i2⟩ := each_back r
    exact ⟨v :: vs, .cons h1 i1, .cons h2 i2⟩
/-- sorted of what is collected -/
theorem sorted_coll {Q : VK} {c : Option Addr} {Φ : PK} {r : Addr} {vs : List V} {us : List Value} {ds : List PyData} (hu : X.A.units + 100 < cLine) (I : Inv X pins σ H s) (w : Wd c G H) (rd : DqAll (ctOf X) G vs ds) (rv : Vals vs us) (ok : SrtOk ds)
    (hcol : ∀ (R : List Value → Shared → Prop), (∀ h' tk, (∀ b o, s.heap.get? b = some o → h'.get? b = some o) → R us { s with heap := h', toks := tk }) → wpAny (model X.prog X.w) X.A.in1 (collect (.ref r)) R X.xe s)
    (hΦ : Φ (.list (srt ds))) (q : Fin (ctOf X) c G H Φ Q) :
    wpAny (model X.prog X.w) X.A (call (.builtin "sorted") [.ref r]) (EP X pins σ Q) X.xe s := by
  obtain ⟨n1, hal, hk, hlen, hdep⟩ := ok
  refine Calls.call_function_entry PyProof.Rows.kind_sorted PyProof.Rows.plain_sorted PyProof.Rows.entry_sorted (PyProof.Rows.args_sorted1 _) ?_
  unfold Builtin.«sorted»
  refine wpAny_bind (m := checkCount "sorted" 1 1 _) (wpAny_pure ?_)
  refine wpAny_bind (hcol _ fun h' tk hkeep => ?_)
  have hl : us.length = ds.length := by rw [← rv.length, rd.length]
  have hz : us.length ≤ sizeLine := by
    rw [hl]
    exact s10 hlen
  have I1 : Inv X pins σ H { s with heap := h', toks := tk } := I.kept hkeep
  refine wpAny_bind (wpAny_newList ?_ hz)
  show wpAny _ _ _ _ _ { s with heap := h'.push (seqObj "list" us.toArray 0), toks := tk }
  have hoL : (h'.push (seqObj "list" us.toArray 0)).get? h'.objs.size = some (seqObj "list" us.toArray 0) := Heap.get?_push_size _ rfl
  have hsort : ∀ b o, h'.get? b = some o → (PySem.W.sortingHeap (h'.push (seqObj "list" us.toArray 0)) h'.objs.size us).get? b = some o := fun b o e =>
    PySem.W.sortingHeap_old (Nat.ne_of_lt (Heap.lt_size e)) (Heap.get?_push_of_some _ e)
  obtain ⟨e1, e2⟩ := each_of_dq I1 w.ex rd rv n1
  have e2' : EachIs (fun u d => ∃ as, Reads (PySem.W.sortingHeap (h'.push (seqObj "list" us.toArray 0)) h'.objs.size us) u d as) us ds := e2.mono fun u d ⟨as, x⟩ => ⟨as, PyProof.Rows.Reads.keeps hsort x⟩
  have S : SortsAt X.prog X.w X.A.in1.in1 { s with heap := PySem.W.sortingHeap (h'.push (seqObj "list" us.toArray 0)) h'.objs.size us, toks := tk } (dataKind (PySem.W.sortingHeap (h'.push (seqObj "list" us.toArray 0)) h'.objs.size us) ds) us :=
    sortsK (s := { s with heap := PySem.W.sortingHeap (h'.push (seqObj "list" us.toArray 0)) h'.objs.size us, toks := tk }) e2' hal hk fun d hd => by
      have := hdep d hd
      show X.A.units + 1 + 1 + d.depth < cLine
      omega
  refine wpAny_bind (wpAny_holding (wpAny_call_entry PyProof.Rows.slot_list_sort ⟨_, hoL, rfl⟩ PyProof.Rows.entry_list_sort
    (PySem.W.list_sort_vals (s := { s with heap := h'.push (seqObj "list" us.toArray 0), toks := tk }) hoL S hz ⟨_, rfl, ?_⟩) (PyProof.Rows.args_list_sort _)))
  have hid : ds.map (fun d => d) = ds := List.map_id _
  have out := sortVals_data (bs := ds) (enc := fun d => d) (R := fun u d => ∃ v, RelV v u ∧ Dq (ctOf X) G v d) false e1 (h' := PySem.W.sortingHeap (h'.push (seqObj "list" us.toArray 0)) h'.objs.size us) e2' (by rw [hid]; exact hal)
  rw [hid] at out
  obtain ⟨ws, w1, w2⟩ := each_back out
  obtain ⟨e', he'⟩ := PyProof.Rows.sortedHeap_at (vs := us) (out := (sortVals (dataKind (PySem.W.sortingHeap (h'.push (seqObj "list" us.toArray 0)) h'.objs.size us) ds) false us us).toArray) hoL
  have hlen2 : ws.length ≤ sizeLine := by
    rw [w2.length, List.length_mergeSort]
    exact s10 hlen
  refine wpAny_pure ⟨_, rfl, .ref h'.objs.size, upd H h'.objs.size (.lst ws), I1.laid (t' := tk) (fun b u e => ?_) (Nat.le_refl _)
    (show ObjOk X.prog X.w _ _ _ (.lst ws) from ⟨hlen2, _, e', w1, he'⟩), rfl, q.lst w hΦ (I1.hok.fresh (Nat.le_refl _)) w2⟩
  have hb : b < h'.objs.size := Heap.lt_size e
  rw [PyProof.Rows.sortedHeap_old (Nat.ne_of_lt hb) (by rw [size_push']; exact Nat.lt_succ_of_lt hb)]
  exact Heap.get?_push_of_some _ e
def sortedT : Tn := fun ds Φ => match ds with
  | [.list xs] => SrtOk xs ∧ Φ (.list (srt xs))
  | [.tuple xs] => SrtOk xs ∧ Φ (.list (srt xs))
  | [.dict kvs] => SrtOk (kvs.map (·.1)) ∧ Φ (.list (srt (kvs.map (·.1))))
  | _ => False
theorem cr_sortedQ (hc : X.calm = true) (hu : X.A.units + 100 < cLine) : CallR X (.builtin "sorted") (rTn (ctOf X) sortedT) := by
  rintro pins s σ H xs us Q I r ⟨c, G, ds, Φ, w, rd, hT, q⟩
  cases rd with
  | nil => exact hT.elim
  | cons r1 r2 =>
    cases r2 with
    | cons _ _ => cases r1 <;> exact hT.elim
    | nil =>
      cases r1 with
      | @lst a ys ds ha ra =>
        rw [Vals.ref1 r]
        obtain ⟨its, rv, ⟨o, n, ho, hcl, hdd, hdat⟩, hz⟩ := I.list (SqL.of (w.ex _ _ ha))
        refine sorted_coll hu I w ra rv hT.1 (fun R hR => ?_) hT.2 q
        exact wpAny_collect_seq (T := "list") a (.inl rfl) ho hcl hdat (fun h' hk => by simpa using hR h' s.toks hk) (by
          have := rv.length
          rw [List.size_toArray]
          omega)
      | @tup a ys ds ha ra =>
        rw [Vals.ref1 r]
        obtain ⟨its, rv, ⟨o, ho, hcl, n, hdat⟩, hz⟩ := I.tuple (SqT.of (w.ex _ _ ha))
        refine sorted_coll hu I w ra rv hT.1 (fun R hR => ?_) hT.2 q
        exact wpAny_collect_seq (T := "tuple") a (.inr rfl) ho hcl hdat (fun h' hk => by simpa using hR h' s.toks hk) (by
          have := rv.length
          rw [List.size_toArray]
          omega)
      | @dct a es kvs ha hr =>
        rw [Vals.ref1 r]
        obtain ⟨hS, hlen, xs, h4, hm⟩ := Dq.dict I w.ex ha hr
        have rel : ∀ {es : List (NestedKey × Addr × V)} {kvs : List (PyData × PyData)} {xs : List (NestedKey × Addr × Value)}, DqKv (ctOf X) G es kvs →
            Paired (fun (e : NestedKey × Addr × V) (x : NestedKey × Addr × Value) => e.1 = x.1 ∧ e.2.1 = x.2.1 ∧ RelV e.2.2 x.2.2) es xs →
            DqAll (ctOf X) G (es.map fun e => V.ref e.2.1) (kvs.map (·.1)) ∧ Vals (es.map fun e => V.ref e.2.1) (xs.map fun x => Value.ref x.2.1) := by
          intro es
          induction es with
          | nil =>
            intro kvs xs a b
            cases a
            cases b
            exact ⟨.nil, .nil⟩
          | cons e es ih =>
            intro kvs xs a b
            cases a with
            | cons a1 a2 a3 a4 a5 =>
              cases b with
              | cons b1 b2 =>
                obtain ⟨i1, i2⟩ := ih a5 b2
                refine ⟨.cons a1 i1, .cons ?_ i2⟩
                show Value.ref _ = Value.ref _
                rw [b1.2.1]
        obtain ⟨k1, k2⟩ := rel hr h4
        refine sorted_coll hu I w k1 k2 hT.1 (fun R hR => ?_) hT.2 q
        obtain ⟨ds', ep, hraw, hsz, hent⟩ := hm.raw
        have hxs : xs.length ≤ sizeLine := by rw [← Paired.length h4]; exact hlen
        refine PySem.W.kdu_collect (KdlSrc.rawDict (ep := ep) (es := ds') hS) (I.ok.hd hc) hraw (by rw [hsz]; exact hxs) fun h' tk acc hk hacc => ?_
        have eacc : acc.toList = xs.map fun x => Value.ref x.2.1 := by
          apply List.ext_getElem?
          intro j
          rw [List.getElem?_map]
          by_cases hj : j < ds'.size
          · obtain ⟨y, hy, g1, g2, g3⟩ := hent j hj
            rw [hy]
            have hj2 : j < acc.size := by rw [hacc.1]; exact hj
            obtain ⟨_, hv⟩ := hacc.2 j acc[j] (by rw [Array.getElem?_eq_getElem hj2])
            rw [Array.getElem?_toList, Array.getElem?_eq_getElem hj2, hv, g1]
            rfl
          · have : acc.toList.length ≤ j := by rw [Array.length_toList, hacc.1]; omega
            rw [List.getElem?_eq_none this, List.getElem?_eq_none (by rw [← hsz]; omega)]
            rfl
        rw [eacc]
        exact hR h' tk hk
      | _ => exact hT.elim
end
end DL6

/-! sum(lists, []), by data. -/
section DL7
open PySem PySem.Spec PyProof.Rows L2
section
variable {prog : Program} {w : World} {A : Around} {I : Addr} {fp wr : List Addr} {n : Nat} {P : Nat → Value → Prop} {St : Nat → Heap → Prop}
def concat (src : Nat → List Value) : Nat → Nat → List Value
  | _, 0 => []
  | i, k + 1 => src i ++ concat src (i + 1) k
def IsL0 (h : Heap) (a : Addr) (vs : List Value) : Prop := ∃ m, h.get? a = some { cls := .type "list", dict := none, data := .seq vs.toArray m, slots := #[] }
theorem codeAny_sumL {R : Result → Shared → Prop} (W : Walks prog w A.in1 I fp wr n P St) (S : Addr) (hSf : S ∉ fp) (hex : ∀ i h, St i h → ∀ b ∈ wr, ∃ o, h.get? b = some o) (src : Nat → List Value) :
    ∀ (k i : Nat) (s : Shared) (T : Addr) (acc : List Value) (c : Nat), n - i = k → i ≤ n → St i s.heap → s.heap.get? S = some { cls := .type "list", dict := none, data := .seq #[.ref T] c, slots := #[] } →
    IsL0 s.heap T acc → T ≠ S → T ∉ wr → S < s.heap.objs.size →
    (∀ j v, i ≤ j → j < n → P j v → ∃ a, v = .ref a ∧ IsL0 s.heap a (src j) ∧ a ≠ S ∧ a ∉ wr) →
    acc.length + (concat src i (n - i)).length ≤ sizeLine →
    (∀ h' tk T', (∀ b o, b ∉ wr → b ≠ S → s.heap.get? b = some o → h'.get? b = some o) → IsL0 h' T' (acc ++ concat src i (n - i)) → (T' = T ∨ s.heap.get? T' = none) → R (.ok (.ret (.ref T'))) { s with heap := h', toks := tk }) →
    codeAny (model prog w) A (.builtin "sum.loop" ⟨[.ref I, .ref S, rawInt 2, rawInt 0], []⟩) R s := by
  have hSw : S ∉ wr := fun h => hSf (W.sub _ h)
  intro k
  induction k with
  | zero =>
    intro i s T acc c hk hi hst hS hT hTS hTw hSz hit hlen hR
    have hin : i = n := by omega
    subst hin
    refine codeAny_builtin PySem.F.entry_sum_loop ?_
    rw [Around.under_plainId PySem.F.plain_sum_loop _]
    show wpAny _ A.in1 (seqItems? (.ref S) >>= _) _ _ s
    refine wpAny_bind (wpAny_seqItems hS rfl ?_)
    show wpAny _ A.in1 (tryCatch (pyNext (.ref I)) _ >>= _) _ _ s
    refine wpAny_bind (wpAny_tryCatch (W.done s _ _ hst fun h' tk hk' => ?_))
    refine wpAny_pure (hR h' tk T (fun b o hbw _ e => hk' b o hbw e) ?_ (.inl rfl))
    obtain ⟨m, e⟩ := hT
    rw [Nat.sub_self]
    show IsL0 h' T (acc ++ [])
    rw [List.append_nil]
    exact ⟨m, hk' T _ hTw e⟩
  | succ k ih =>
    intro i s T acc c hk hi hst hS hT hTS hTw hSz hit hlen hR
    have hlt : i < n := by omega
    have hni : n - i = (n - (i + 1)) + 1 := by omega
    refine codeAny_builtin PySem.F.entry_sum_loop ?_
    rw [Around.under_plainId PySem.F.plain_sum_loop _]
    show wpAny _ A.in1 (seqItems? (.ref S) >>= _) _ _ s
    refine wpAny_bind (wpAny_seqItems hS rfl ?_)
    show wpAny _ A.in1 (tryCatch (pyNext (.ref I)) _ >>= _) _ _ s
    refine wpAny_bind (wpAny_tryCatch (W.item i s _ _ hlt hst fun v h' tk hP hst' hk' => ?_))
    obtain ⟨a, rfl, ⟨m, ha⟩, haS, haw⟩ := hit i v (Nat.le_refl _) hlt hP
    obtain ⟨mT, eT⟩ := hT
    have hS' := hk' S _ hSw hS
    have hT' := hk' T _ hTw eT
    have ha' := hk' a _ haw ha
    have hSz' : S < h'.objs.size := Heap.lt_size hS'
    rw [hni] at hlen hR
    have hlen' : acc.length + (src i).length + (concat src (i + 1) (n - (i + 1))).length ≤ sizeLine := by
      have e : (concat src i (n - (i + 1) + 1)).length = (src i).length + (concat src (i + 1) (n - (i + 1))).length := by
        show (src i ++ concat src (i + 1) (n - (i + 1))).length = _
        rw [List.length_append]
      omega
    show wpAny _ A.in1 ((holding [Value.ref a] (binaryOp .Add (.ref T) (.ref a))).attempt >>= _) _ _ _
    refine wpAny_bind (wpAny_attempt (wpAny_holding (PySem.P.add_list (s := { s with heap := h', toks := tk }) hT' ha' ?_ (by rw [List.size_toArray, List.size_toArray]; omega))))
    have ea : acc.toArray ++ (src i).toArray = (acc ++ src i).toArray := by simp
    rw [ea]
    have hS2 : (h'.push { cls := .type "list", data := .seq (acc ++ src i).toArray }).get? S = some { cls := .type "list", dict := none, data := .seq #[.ref T] c, slots := #[] } := Heap.get?_push_of_some _ hS'
    show wpAny _ A.in1 (updateSeq S (fun _ => #[.ref h'.objs.size]) >>= _) _ _ _
    refine wpAny_bind (wpAny_updateSeq (s := { s with heap := h'.push { cls := .type "list", data := .seq (acc ++ src i).toArray }, toks := tk }) hS2 rfl ?_)
    have hS3 := Heap.get?_update_self (Obj.mapSeq fun _ => #[Value.ref h'.objs.size]) hS2 rfl
    refine wpAny_bind (wpAny_letGo ?_)
    have keep : ∀ b o, b ∉ wr → b ≠ S → s.heap.get? b = some o → (((h'.push { cls := .type "list", data := .seq (acc ++ src i).toArray }).update S (Obj.mapSeq fun _ => #[Value.ref h'.objs.size])).update S (Obj.mapSeq fun _ => #[Value.ref h'.objs.size])).get? b = some o := by
      intro b o hbw hbS e
      rw [Heap.get?_update_ne _ _ _ _ hbS, Heap.get?_update_ne _ _ _ _ hbS]
      exact Heap.get?_push_of_some _ (hk' b o hbw e)
    refine wpAny_bind (wpAny_updateSeq (s := { s with heap := (h'.push { cls := .type "list", data := .seq (acc ++ src i).toArray }).update S (Obj.mapSeq fun _ => #[Value.ref h'.objs.size]), toks := tk }) hS3 rfl (wpAny_pure ⟨plainId_quiet PySem.F.plain_sum_loop _, ?_⟩))
    have hSz2 : S < (h'.push { cls := .type "list", data := .seq (acc ++ src i).toArray }).objs.size := Heap.lt_size hS2
    refine ih (i + 1) { s with heap := ((h'.push { cls := .type "list", data := .seq (acc ++ src i).toArray }).update S (Obj.mapSeq fun _ => #[Value.ref h'.objs.size])).update S (Obj.mapSeq fun _ => #[Value.ref h'.objs.size]), toks := tk } h'.objs.size (acc ++ src i) _ (by omega) hlt
      (W.frame _ _ _ hst' fun b hb o e => ?_) (Heap.get?_update_self _ hS3 rfl) ⟨0, ?_⟩ (Nat.ne_of_gt hSz') ?_ ?_ (fun j v hj1 hj2 hPj => ?_) (by rw [List.length_append]; omega) fun h2 tk2 T2 k2 t2 t3 => ?_
    · have hbS : b ≠ S := fun z => hSf (by rw [← z]; exact hb)
      show (((h'.push _).update S _).update S _).get? b = some o
      rw [Heap.get?_update_ne _ _ _ _ hbS, Heap.get?_update_ne _ _ _ _ hbS]
      exact Heap.get?_push_of_some _ e
    · show (((h'.push _).update S _).update S _).get? h'.objs.size = _
      rw [Heap.get?_update_ne _ _ _ _ (Nat.ne_of_gt hSz'), Heap.get?_update_ne _ _ _ _ (Nat.ne_of_gt hSz')]
      exact Heap.get?_push_size _ rfl
    · intro hm
      obtain ⟨o, e⟩ := hex _ _ hst' _ hm
      exact absurd (Heap.lt_size e) (Nat.lt_irrefl _)
    · show S < (((h'.push _).update S _).update S _).objs.size
      rw [Heap.size_update, Heap.size_update]
      exact hSz2
    · obtain ⟨a', rfl, ⟨m', e'⟩, h1, h2⟩ := hit j v (by omega) hj2 hPj
      exact ⟨a', rfl, ⟨m', keep a' _ h2 h1 e'⟩, h1, h2⟩
    · refine hR h2 tk2 T2 (fun b o hbw hbS e => k2 b o hbw hbS (keep b o hbw hbS e)) ?_ ?_
      · show IsL0 h2 T2 (acc ++ (src i ++ concat src (i + 1) (n - (i + 1))))
        rw [← List.append_assoc]
        exact t2
      · right
        have none1 : s.heap.get? h'.objs.size = none := by
          cases z : s.heap.get? h'.objs.size with
          | none => rfl
          | some o =>
            exfalso
            by_cases h1 : h'.objs.size ∈ wr
            · obtain ⟨o, e⟩ := hex _ _ hst' _ h1
              exact absurd (Heap.lt_size e) (Nat.lt_irrefl _)
            · exact absurd (Heap.lt_size (hk' _ o h1 z)) (Nat.lt_irrefl _)
        rcases t3 with rfl | t3
        · exact none1
        · cases z : s.heap.get? T2 with
          | none => rfl
          | some o =>
            exfalso
            have hS4 : (((h'.push { cls := .type "list", data := .seq (acc ++ src i).toArray }).update S (Obj.mapSeq fun _ => #[Value.ref h'.objs.size])).update S (Obj.mapSeq fun _ => #[Value.ref h'.objs.size])).get? S ≠ none := by
              rw [Heap.get?_update_self _ hS3 rfl]
              exact fun z => nomatch z
            by_cases h0 : T2 = S
            · rw [h0] at t3
              exact hS4 t3
            · by_cases h1 : T2 ∈ wr
              · obtain ⟨o, e⟩ := hex _ _ hst' _ h1
                have : (((h'.push { cls := .type "list", data := .seq (acc ++ src i).toArray }).update S (Obj.mapSeq fun _ => #[Value.ref h'.objs.size])).update S (Obj.mapSeq fun _ => #[Value.ref h'.objs.size])).get? T2 = some o := by
                  rw [Heap.get?_update_ne _ _ _ _ h0, Heap.get?_update_ne _ _ _ _ h0]
                  exact Heap.get?_push_of_some _ e
                rw [this] at t3
                cases t3
              · have := keep _ o h1 h0 z
                rw [this] at t3
                cases t3
end
section
variable {prog : Program} {w : World} {A : Around} {E : Value → Shared → Prop} {s : Shared}
theorem call_sumL {l T : Addr} {its : List Value} {src : Nat → List Value} {acc : List Value} {Q : Value → Shared → Prop} (hh : A.handled = none) (hl : s.heap.IsList l its.toArray) (hT : IsL0 s.heap T acc)
    (hit : ∀ j v, its[j]? = some v → ∃ a, v = .ref a ∧ IsL0 s.heap a (src j)) (hlen : acc.length + (concat src 0 its.length).length ≤ sizeLine)
    (hQ : ∀ h' tk T', (∀ b o, s.heap.get? b = some o → h'.get? b = some o) → IsL0 h' T' (acc ++ concat src 0 its.length) → (T' = T ∨ s.heap.get? T' = none) → Q (.ref T') { s with heap := h', toks := tk }) :
    wpAny (model prog w) A (call (.builtin "sum") [.ref l, .ref T]) Q E s := by
  obtain ⟨mT, eT⟩ := hT
  have tyT : ∀ s' : Shared, (∀ o, s.heap.get? T = some o → s'.heap.get? T = some o) → s'.TypeIs (.ref T) "list" := fun s' k => ⟨_, k _ eT, rfl⟩
  refine call_function_tree PySem.F.kind_sum PySem.F.plain_sum PySem.F.entry_sum (by unfold argsOk; kernel_rfl) ?_
  unfold Builtin.«sum»
  simp only [List.length_cons, List.length_nil]
  rw [if_neg (by decide)]
  refine wpAny_bind (wpAny_of_eq (show Builtin.Builtins.bindParams "sum" ["start"] 0 ⟨[.ref T], []⟩ = pure [some (.ref T)] from rfl) ?_)
  refine wpAny_bind (iter_any hl fun s₂ e2 st hne => ?_)
  have keep2 : ∀ b o, s.heap.get? b = some o → s₂.heap.get? b = some o := fun b o e => by
    rw [e2]
    exact Heap.get?_push_of_some _ e
  have W := Walks.list (prog := prog) (w := w) (A := A.in1) hh s.heap.objs.size l hne its.toArray
  refine wpAny_bind (wpAny_pure ?_)
  simp only [List.forIn_cons, List.forIn_nil]
  refine wpAny_bind (wpAny_bind (wpAny_bind (wpAny_isInstance (T := "list") (b := false) (tyT s₂ fun o => keep2 T o) PySem.F.sub_list_str ?_)))
  simp only [Bool.false_eq_true, if_false]
  refine wpAny_pure (wpAny_bind (wpAny_bind (wpAny_isInstance (T := "list") (b := false) (tyT s₂ fun o => keep2 T o) PySem.F.sub_list_bytes ?_)))
  simp only [Bool.false_eq_true, if_false]
  refine wpAny_pure (wpAny_bind (wpAny_bind (wpAny_isInstance (T := "list") (b := false) (tyT s₂ fun o => keep2 T o) PySem.F.sub_list_bytearray ?_)))
  simp only [Bool.false_eq_true, if_false]
  refine wpAny_pure (wpAny_pure ?_)
  refine wpAny_bind (wpAny_newObj_type ?_)
  have lt2 : ∀ b o, s.heap.get? b = some o → b ≠ s.heap.objs.size := fun b o e => Nat.ne_of_lt (Heap.lt_size e)
  have sz2 : s₂.heap.objs.size = s.heap.objs.size + 1 := by
    rw [e2]
    exact Heap.size_push ..
  have ltS : ∀ b o, s.heap.get? b = some o → b ≠ s₂.heap.objs.size := fun b o e => by
    have h1 : b < s.heap.objs.size := Heap.lt_size e
    rw [sz2]
    exact Nat.ne_of_lt (Nat.lt_succ_of_lt h1)
  have hSf : s₂.heap.objs.size ∉ [s.heap.objs.size, l] := by
    obtain ⟨o, e, _⟩ := hl
    intro hm
    rcases List.mem_cons.mp hm with h1 | h1
    · rw [sz2] at h1
      exact absurd h1 (Nat.succ_ne_self _)
    · have h2 : s₂.heap.objs.size = l := by simpa using h1
      exact ltS _ _ e h2.symm
  have hsz : its.toArray.size = its.length := by simp
  refine wpAny_pure ⟨plainId_quiet PySem.F.plain_sum_loop _, codeAny_sumL W s₂.heap.objs.size hSf (fun i h st b hb => ?_) src its.length 0 _ T acc 0 (by rw [hsz]; omega) (Nat.zero_le _)
    (W.frame _ _ _ st fun b _ o e => Heap.get?_push_of_some _ e) (Heap.get?_push_size _ rfl) ⟨mT, Heap.get?_push_of_some _ (keep2 _ _ eT)⟩ (ltS _ _ eT) (fun z => lt2 _ _ eT (by simpa using z)) ?_ (fun j v _ hj hP => ?_) (by rw [hsz, Nat.sub_zero]; exact hlen) fun h' tk T' hk t2 t3 => ?_⟩
  · obtain ⟨⟨o, e, _⟩, _⟩ := st
    have hb' : b = s.heap.objs.size := by simpa using hb
    rw [hb']
    exact ⟨o, e⟩
  · show s₂.heap.objs.size < (s₂.heap.push _).objs.size
    rw [Heap.size_push]
    exact Nat.lt_succ_self _
  · obtain ⟨a, rfl, m, ha⟩ := hit j v (by simpa using hP)
    exact ⟨a, rfl, ⟨m, Heap.get?_push_of_some _ (keep2 _ _ ha)⟩, ltS _ _ ha, fun z => lt2 _ _ ha (by simpa using z)⟩
  · rw [hsz, Nat.sub_zero] at t2
    have := hQ h' tk T' (fun b o e => hk b o (fun z => lt2 _ _ e (by simpa using z)) (ltS _ _ e) (Heap.get?_push_of_some _ (keep2 _ _ e))) t2 ?_
    · rw [e2]
      exact this
    · rcases t3 with t3 | t3
      · exact .inl t3
      · right
        cases z : s.heap.get? T' with
        | none => rfl
        | some o =>
          have : (s₂.heap.push { cls := .type "list", data := .seq [Value.ref T].toArray }).get? T' = some o := Heap.get?_push_of_some _ (keep2 _ _ z)
          rw [this] at t3
          cases t3
end
end DL7

/-! sum(lists, []), sorted(set(pairs)), count(True), tuples by >, by data. -/
section DL8
open PySem PySem.Spec PyProof.Rows L2
open PySem.W (alike dataLt rcLt_alike)
section
variable {X : Cx} {pins : List (Addr × Obj)} {σ : L2.St} {G H : Hp} {s : Shared}
theorem obj_there {P : Program} {w : World} {H : Hp} {h : Heap} {a : Addr} : ∀ {o : HO}, ObjOk P w H h a o → ∃ u, h.get? a = some u
  | .lst xs, x => by obtain ⟨_, _, _, _, e⟩ := x; exact ⟨_, e⟩
  | .tup xs, x => by obtain ⟨_, _, _, o, e, _⟩ := x; exact ⟨_, e⟩
  | .dK kvs, x => by obtain ⟨_, _, _, _, o, _, _, e, _⟩ := x; exact ⟨_, e⟩
  | .dT kvs, x => by obtain ⟨_, _, _, _, o, _, _, e, _⟩ := x; exact ⟨_, e⟩
  | .set S n, x => by obtain ⟨o, _, _, _, e, _⟩ := x; exact ⟨_, e⟩
  | .ins C dx fs, x => by obtain ⟨_, _, _, e, _⟩ := x; exact ⟨_, e⟩
  | .own y, x => x
  | .xd fs, x => by obtain ⟨_, ⟨_, _, _, e, _⟩, _⟩ := x; exact ⟨_, e⟩
  | .rng lo hi, x => by obtain ⟨_, _, _, e⟩ := x; exact ⟨_, e⟩
  | .frz ob u, x => ⟨_, x.1⟩
  | .tbl ps, x => ⟨_, x⟩
  | .met f y, x => ⟨_, x⟩
  | .ext φ, x => x.2.1
theorem Inv.notHere (I : Inv X pins σ H s) {a : Addr} (h : s.heap.get? a = none) : H a = none := by
  cases z : H a with
  | none => rfl
  | some o =>
    obtain ⟨u, e⟩ := obj_there (I.hok a o z)
    rw [h] at e
    cases e
/-- a list of lists -/
def listsOf : List PyData → Option (List (List PyData))
  | [] => some []
  | .list b :: ds => (listsOf ds).map (b :: ·)
  | _ => none
theorem lists_open {G : Hp} (I : Inv X pins σ H s) (e : ∀ a o, G a = some o → H a = some o) : ∀ {xs : List V} {ds : List PyData} {yss : List (List PyData)} {its : List Value}, DqAll (ctOf X) G xs ds → listsOf ds = some yss → Vals xs its →
    ∃ (src : Nat → List Value) (vss : List (List V)), (∀ (j : Nat) (v : Value), its[j]? = some v → ∃ a, v = .ref a ∧ IsL0 s.heap a (src j)) ∧ DqAll (ctOf X) G vss.flatten yss.flatten ∧ ∀ k, k = its.length → Vals vss.flatten (concat src 0 k)
  | _, _, _, _, .nil, h, r => by
    cases h
    cases r
    exact ⟨fun _ => [], [], fun j v z => by simp at z, .nil, fun k hk => by
      subst hk
      exact .nil⟩
  | _, _, _, _, .cons (d := d) h1 h2, h, r => by
    cases r with
    | @cons _ u _ us r1 r2 =>
      cases h1 with
      | @lst a zs bs ha hr =>
        unfold listsOf at h
        cases hp : listsOf _ with
        | none =>
          rw [hp] at h
          cases h
        | some yss' =>
          rw [hp] at h
          cases h
          obtain ⟨src, vss, i1, i2, i3⟩ := lists_open I e h2 hp r2
          cases r1
          obtain ⟨z, its', n, rv, hl, eo⟩ := I.lstM (e _ _ ha)
          have shift : ∀ (k i : Nat), concat (fun j => match j with | 0 => its' | j + 1 => src j) (i + 1) k = concat src i k := by
            intro k
            induction k with
            | zero => intro i; rfl
            | succ k ih =>
              intro i
              show src i ++ concat _ (i + 1 + 1) k = src i ++ concat src (i + 1) k
              rw [ih]
          refine ⟨fun j => match j with | 0 => its' | j + 1 => src j, zs :: vss, fun j v hv => ?_, ?_, fun k hk => ?_⟩
          · cases j with
            | zero =>
              simp at hv
              subst hv
              exact ⟨a, rfl, n, eo⟩
            | succ j => exact i1 j v (by simpa using hv)
          · rw [List.flatten_cons, List.flatten_cons]
            exact hr.append i2
          · rw [List.length_cons] at hk
            subst hk
            rw [List.flatten_cons]
            show Vals (zs ++ vss.flatten) (its' ++ concat _ (0 + 1) us.length)
            rw [shift]
            exact rv.append (i3 _ rfl)
      | _ => cases h
def sumLT : Tn := fun ds Φ => match ds with
  | [.list xs, .list acc] => ∃ yss, listsOf xs = some yss ∧ acc.length + yss.flatten.length ≤ 10000 ∧ Φ (.list (acc ++ yss.flatten))
  | _ => False
theorem cr_sumLQ (hc : X.calm = true) : CallR X (.builtin "sum") (rTn (ctOf X) sumLT) := by
  rintro pins s σ H xs us Q I r ⟨c, G, ds, Φ, w, rd, hT, q⟩
  cases rd with
  | nil => exact hT.elim
  | cons r1 r2 =>
    cases r2 with
    | nil => cases r1 <;> exact hT.elim
    | cons r2 r3 =>
      cases r3 with
      | cons _ _ => cases r1 <;> cases r2 <;> exact hT.elim
      | nil =>
        cases r1 with
        | @lst a ys ds ha ra =>
          cases r2 with
          | @lst b zs acc hb rb =>
            obtain ⟨yss, h1, h2, h3⟩ := hT
            obtain ⟨u1, u2, rfl, q1, q2⟩ := vals2 r
            cases q1
            cases q2
            obtain ⟨z, its, n, rv, hl, eo⟩ := I.lstM (w.ex _ _ ha)
            obtain ⟨z', its', n', rv', hl', eo'⟩ := I.lstM (w.ex _ _ hb)
            obtain ⟨src, vss, i1, i2, i3⟩ := lists_open I w.ex ra h1 rv
            have vv := i3 _ rfl
            have lz : its'.length + (concat src 0 its.length).length ≤ sizeLine := by
              rw [← hl', ← vv.length, rb.length, i2.length]
              exact s10 h2
            refine call_sumL (I.ok.hd hc) ⟨_, eo, rfl, _, rfl⟩ ⟨n', eo'⟩ i1 lz fun h' tk T' hk t2 t3 => ?_
            have I1 : Inv X pins σ H { s with heap := h', toks := tk } := I.kept hk
            obtain ⟨m, et⟩ := t2
            have rr := rb.append i2
            have vr := rv'.append vv
            by_cases hTn : s.heap.get? T' = none
            · have hn := Inv.notHere I hTn
              refine ⟨.ref T', upd H T' (.lst (zs ++ vss.flatten)), Inv.laidN (t' := tk) I hk hTn hn (show ObjOk X.prog X.w _ _ _ (.lst (zs ++ vss.flatten)) from ⟨?_, _, m, vr, et⟩), rfl, q.lst w h3 hn rr⟩
              rw [rr.length, List.length_append]
              exact s10 h2
            · have eT : T' = b := t3.resolve_right hTn
              subst eT
              have e1 := hk _ _ eo'
              rw [et] at e1
              have e2 : (its' ++ concat src 0 its.length).toArray = its'.toArray := by
                injection e1 with e1
                injection e1 with _ _ e1 _
                injection e1
              have e3 : its' ++ concat src 0 its.length = its' := by simpa using congrArg Array.toList e2
              have e4 : zs ++ vss.flatten = zs := by
                have := vr
                rw [e3] at this
                exact Vals.inj this rv'
              rw [e4] at rr
              exact ⟨.ref T', H, I1, rfl, q.val w h3 (.lst hb rr)⟩
          | _ => exact hT.elim
        | _ => cases r2 <;> exact hT.elim

/-! ### xs.count(True) -/
theorem mt_countQ : MtR X "list.count" (fun x vs H Q => ∃ (a : Addr) (bs : List Bool), x = .ref a ∧ vs = [.bl true] ∧ SqL X.K H a (bs.map V.bl) ∧ Q (.int (bs.count true : Nat)) H) := by
  intro pins s σ H x xs v us Q I rx rxs h
  obtain ⟨p, bs, rfl, rfl, hs, q⟩ := h
  cases rx
  obtain ⟨u, rfl, ru⟩ := rxs.one
  cases ru
  obtain ⟨its, rv, ⟨⟨cls, dd, data, sl⟩, n, ho, hc, hdn, hd⟩, hlen⟩ := I.list hs
  simp only at hc hd
  subst hc hd
  have hb := rv.bls
  subst hb
  refine call_meets PySem.F.slot_list_count ⟨_, ho, rfl⟩ PySem.F.entry_list_count (PySem.F.args_list_count_2 _ _)
    (SeqAt.list_countAt p (bs.map Value.bool).toArray n dd sl (.bool true) (fun v => match v with | .bool b => b | _ => false)) ⟨ho, fun y hy => ?_, ?_⟩
  · obtain ⟨b, _, rfl⟩ := List.mem_map.mp (show y ∈ bs.map Value.bool by simpa using hy)
    have := SeqAt.EqAt.bool_bool (A := X.A.in1) (s := s) b true
    have e : (b == true) = b := by cases b <;> rfl
    rw [e] at this
    exact this
  · have ec : ((bs.map Value.bool).toArray.toList.countP fun v => match v with | .bool b => b | _ => false) = bs.count true := by
      rw [List.count, ]
      show (bs.map Value.bool).countP _ = _
      rw [List.countP_map]
      refine List.countP_congr fun b _ => ?_
      cases b <;> simp
    refine ⟨.int (bs.count true : Nat), H, I.tok _, ⟨s.toks, ?_⟩, q⟩
    rw [ec]
theorem we_count {C : Ct} {c : Option Addr} {Γ : List Sl} {Φ : PK} {te tl : TE} (h : WE C c te Γ fun x => ∃ ds, x = .list ds ∧ WE C c tl Γ fun y => ∃ bs, y = .bool true ∧ boolsOf ds = some bs ∧ Φ (.int (bs.count true : Nat))) :
    WE C c (tBM C.K "list" (fun x vs H Q => ∃ (a : Addr) (bs : List Bool), x = .ref a ∧ vs = [.bl true] ∧ SqL C.K H a (bs.map V.bl) ∧ Q (.int (bs.count true : Nat)) H) te (tCons tl tNil)) Γ Φ := fun G H σ Q w en q =>
  h G H σ _ w en fun d v G1 H1 h1 s1 r1 => by
    obtain ⟨ds, rfl, h1⟩ := h1
    cases r1 with
    | @lst a xs _ ha ra =>
      refine ⟨.inl ⟨rfl, xs, SqL.of (s1.wd.ex _ _ ha)⟩, h1 G1 H1 σ _ s1.wd (en.mono s1.gg) fun e u G2 H2 h2 s2 r2 => ?_⟩
      obtain ⟨bs, rfl, hb, hq⟩ := h2
      cases r2
      have e := boolsOf_vals (ra.mono s2.gg) hb
      subst e
      exact ⟨a, bs, rfl, rfl, SqL.of (s2.wd.ex _ _ (s2.gg _ _ ha)), q _ _ G2 H2 hq (Stp.trans w s1 s2) (.int _)⟩

/-! ### a > b for tuples -/
def gtDT : T2 := fun d e Φ => (nodict d = true ∧ nodict e = true) ∧ alike d e = true ∧ d ≠ .none ∧ d.depth ≤ 60 ∧ Φ (.bool (dataLt e d))
theorem op_gtDQ (hu : X.A.units + 64 < cLine) : OpR X (compareOp .Gt) (rT2 (ctOf X) gtDT) := by
  rintro pins s σ H x y v u Q I rx ry ⟨c, G, d, e, Φ, w, rd, re, ⟨⟨n1, n2⟩, h1, h2, h3, h4⟩, q⟩
  obtain ⟨as, r1⟩ := Dp.reads I d x v (rd.dp w.ex n1) rx
  obtain ⟨bs, r2⟩ := Dp.reads I e y u (re.dp w.ex n2) ry
  exact PySem.W.gt_data r1 r2 h1 h2 (Nat.lt_of_le_of_lt (Nat.add_le_add_left (Nat.min_le_left _ _) _) (by omega)) ⟨.bl _, H, I, rfl, q.bool w h4⟩

/-! ### sorted(set(pairs)) -/
abbrev encP (p : Int × Int) : PyData := .tuple [.int p.1, .int p.2]
theorem pairs_refs {C : Ct} {G : Hp} : ∀ {xs : List V} {ps : List (Int × Int)}, DqAll C G xs (ps.map encP) → ∃ ks : List (Addr × List Int), xs = (ks.map fun p => V.ref p.1) ∧ (∀ p ∈ ks, G p.1 = some (.tup (p.2.map V.int))) ∧ ks.map (·.2) = ps.map fun p => [p.1, p.2]
  | _, [], .nil => ⟨[], rfl, fun _ h => (nomatch h), rfl⟩
  | _, p :: ps, .cons h r => by
    obtain ⟨ks, rfl, k2, k3⟩ := pairs_refs r
    cases h with
    | @tup a zs _ ha hr =>
      cases hr with
      | cons h1 h2 =>
        cases h1
        cases h2 with
        | cons h2 h3 =>
          cases h2
          cases h3
          refine ⟨(a, [p.1, p.2]) :: ks, rfl, fun q hq => ?_, ?_⟩
          · rcases List.mem_cons.mp hq with rfl | hq
            · exact ha
            · exact k2 q hq
          · rw [List.map_cons, List.map_cons, k3]
def ltP (p q : Int × Int) : Prop := p.1 < q.1 ∨ (p.1 = q.1 ∧ p.2 < q.2)
theorem dq_of_refs {C : Ct} {G : Hp} : ∀ (L : List (Addr × List Int)), (∀ p ∈ L, G p.1 = some (.tup (p.2.map V.int)) ∧ ∃ x y, p.2 = [x, y]) → ∃ qs : List (Int × Int), DqAll C G (L.map fun q => V.ref q.1) (qs.map encP) ∧ L.map (·.2) = qs.map fun p => [p.1, p.2]
  | [], _ => ⟨[], .nil, rfl⟩
  | p :: L, h => by
    obtain ⟨qs, h1, h2⟩ := dq_of_refs L fun q hq => h q (List.mem_cons_of_mem _ hq)
    obtain ⟨g, x, y, e⟩ := h p List.mem_cons_self
    rw [e] at g
    exact ⟨(x, y) :: qs, .cons (.tup g (.cons (.int x) (.cons (.int y) .nil))) h1, by rw [List.map_cons, List.map_cons, h2, e]⟩
theorem we_sortset {C : Ct} {c : Option Addr} {Γ : List Sl} {Φ : PK} {te : TE}
    (h : WE C c te Γ fun x => ∃ ps : List (Int × Int), x = .list (ps.map encP) ∧ (∀ p ∈ ps, 0 ≤ p.1 ∧ p.1 < 64 ∧ 0 ≤ p.2 ∧ p.2 < 64) ∧ ps.length < 64 ∧ ∀ qs : List (Int × Int), qs.Pairwise ltP → (∀ p, p ∈ qs ↔ p ∈ ps) → Φ (.list (qs.map encP))) :
    WE C c (tCB (rSortedT C.K C.P C.w) (tCons (tCB (rSetOfT C.K C.P C.w) (tCons te tNil)) tNil)) Γ Φ := fun G H σ Q w en q =>
  h G H σ _ w en fun d v G1 H1 h1 s1 r1 => by
    obtain ⟨ps, rfl, hb, hl, hq⟩ := h1
    cases r1 with
    | @lst a xs _ ha ra =>
      obtain ⟨ks, rfl, k2, k3⟩ := pairs_refs ra
      have klen : ks.length = ps.length := by
        have := congrArg List.length k3
        simpa using this
      refine ⟨a, ks, rfl, SqL.of (s1.wd.ex _ _ ha), fun p hp => SqT.of (s1.wd.ex _ _ (k2 p hp)), by rw [klen]; exact hl, fun b L hb0 hL1 hL2 => ?_⟩
      have s2 := Stp.raw (o := SetTO C.P C.w b L) s1.wd hb0
      have two : ∀ p ∈ ks, ∃ x y, p.2 = [x, y] ∧ (x, y) ∈ ps := by
        intro p hp
        have : p.2 ∈ ks.map (·.2) := List.mem_map.mpr ⟨p, hp, rfl⟩
        rw [k3] at this
        obtain ⟨z, hz, e⟩ := List.mem_map.mp this
        exact ⟨z.1, z.2, e.symm, hz⟩
      refine ⟨b, L, 2, 64, rfl, upd_same, fun p hp => SqT.of (s2.wd.ex _ _ (k2 p (hL1 p hp))), by decide, fun p hp => ?_, fun L' p hperm hnd hlen hsort hp => ?_⟩
      · obtain ⟨x, y, e, hm⟩ := two p (hL1 p hp)
        rw [e]
        refine ⟨rfl, fun z hz => ?_⟩
        have := hb _ hm
        rcases List.mem_cons.mp hz with rfl | hz
        · exact ⟨this.1, this.2.1⟩
        · have : z = y := by simpa using hz
          subst this
          have := hb _ hm
          exact ⟨this.2.2.1, this.2.2.2⟩
      · have inks : ∀ q ∈ L', q ∈ ks := fun q hq => hL1 q (hperm.mem_iff.mp hq)
        obtain ⟨qs, d1, d2⟩ := dq_of_refs (C := C) (G := G1) L' fun q hq => ⟨k2 q (inks q hq), let ⟨x, y, e, _⟩ := two q (inks q hq); ⟨x, y, e⟩⟩
        have mem : ∀ z : Int × Int, z ∈ qs ↔ [z.1, z.2] ∈ L'.map (·.2) := by
          intro z
          rw [d2]
          constructor
          · exact fun hz => List.mem_map.mpr ⟨z, hz, rfl⟩
          · intro hz
            obtain ⟨z', hz', e⟩ := List.mem_map.mp hz
            have e1 : z'.1 = z.1 := (List.cons.inj e).1
            have e2 : z'.2 = z.2 := (List.cons.inj (List.cons.inj e).2).1
            have : z' = z := by
              cases z'
              cases z
              simp only at e1 e2
              rw [e1, e2]
            rwa [← this]
        refine Fin.lst (C := C) (c := c) s2.wd (Fin.back w (Stp.trans w s1 s2) q) (hq qs ?_ fun z => ?_) hp d1
        · have nd2 : (qs.map fun p => [p.1, p.2]).Nodup := by
            rw [← d2]
            exact hnd
          have so2 : (qs.map fun p => [p.1, p.2]).Pairwise (fun q r => TS.code 64 q ≤ TS.code 64 r) := by
            rw [← d2, List.pairwise_map]
            exact hsort
          have bd : ∀ z ∈ qs, 0 ≤ z.1 ∧ z.1 < 64 ∧ 0 ≤ z.2 ∧ z.2 < 64 := by
            intro z hz
            obtain ⟨r, hr, e⟩ := List.mem_map.mp ((mem z).mp hz)
            obtain ⟨x, y, e2, hm⟩ := two r (inks r hr)
            rw [e2] at e
            have e3 := (List.cons.inj e).1
            have e4 := (List.cons.inj (List.cons.inj e).2).1
            have := hb _ hm
            simp only at this
            rw [e3, e4] at this
            exact this
          rw [List.pairwise_map] at so2
          rw [List.Nodup, List.pairwise_map] at nd2
          have both := List.Pairwise.and so2 nd2
          refine List.Pairwise.imp_of_mem ?_ both
          intro a b ha hb ⟨h1, h2⟩
          have b1 := bd a ha
          have b2 := bd b hb
          exact pair_lt h1 h2 ⟨b1.1, b1.2.1⟩ ⟨b1.2.2.1, b1.2.2.2⟩ ⟨b2.1, b2.2.1⟩ ⟨b2.2.2.1, b2.2.2.2⟩
        · rw [mem z]
          constructor
          · intro hz
            obtain ⟨r, hr, e⟩ := List.mem_map.mp hz
            obtain ⟨x, y, e2, hm⟩ := two r (inks r hr)
            rw [e2] at e
            have e3 := (List.cons.inj e).1
            have e4 := (List.cons.inj (List.cons.inj e).2).1
            have : (x, y) = z := by
              cases z
              simp only at e3 e4
              rw [e3, e4]
            rwa [← this]
          · intro hz
            have : [z.1, z.2] ∈ ks.map (·.2) := by
              rw [k3]
              exact List.mem_map.mpr ⟨z, hz, rfl⟩
            obtain ⟨r, hr, e⟩ := List.mem_map.mp this
            have := hL2 r hr
            rw [e] at this
            obtain ⟨r', hr', e'⟩ := List.mem_map.mp this
            exact List.mem_map.mpr ⟨r', hperm.mem_iff.mpr hr', e'⟩
end
/-! ### the cup -/
section
variable {C : Ct} {a : Addr} {Γ : List Sl} {Φ : PK} {te : TE} {Ψ : Out → Prop}
theorem we_cupget {c : Option Addr} {i : Nat} {k : Int} (hi : Γ[i]? = some .cup) (hk : k = 0 ∨ k = 1) (h : ∀ z : Int, (k = 1 → 0 ≤ z ∧ z < 2 ^ 40) → Φ (.int z)) : WE C c (tOp (rIxL C.K) (tVar i) (tC (.int k))) Γ Φ := fun G H σ Q w en q => by
  obtain ⟨a, h1, h2⟩ := en.getCup hi
  obtain ⟨g, x, y, hH, hy⟩ := w.cup a h1
  refine ⟨_, h2, a, [.int x, .int y], k, ?_⟩
  rcases hk with rfl | rfl
  · exact ⟨.int x, rfl, rfl, SqL.of hH, rfl, q _ _ G H (h x fun z => absurd z (by decide)) (Stp.refl w) (.int x)⟩
  · exact ⟨.int y, rfl, rfl, SqL.of hH, rfl, q _ _ G H (h y fun _ => hy) (Stp.refl w) (.int y)⟩
theorem ws_cupset {c : Option Addr} {i : Nat} {k : Int} (hi : Γ[i]? = some .cup) (hk : k = 0 ∨ k = 1) (h : WE C c te Γ fun d => ∃ z : Int, d = .int z ∧ (k = 1 → 0 ≤ z ∧ z < 2 ^ 40) ∧ Ψ (.nx Γ)) :
    WS C c (tAsg te (gSub (tVar i) (tC (.int k)) rSetL)) Γ Ψ := fun G H σ D w en q =>
  h G H σ _ w en fun d v G1 H1 h1 s1 r1 => by
    obtain ⟨z, rfl, hz, hΨ⟩ := h1
    cases r1
    obtain ⟨a, e1, e2⟩ := en.getCup hi
    obtain ⟨g, x, y, hH, hy⟩ := s1.wd.cup a e1
    have fin : ∀ x' y' : Int, 0 ≤ y' ∧ y' < 2 ^ 40 → D.nx σ (upd H1 a (.lst [.int x', .int y'])) := by
      intro x' y' hy'
      refine q _ hΨ σ G1 _ ?_ (en.mono s1.gg)
      refine ⟨⟨fun b o e => ?_, fun b e => ?_⟩, s1.gg, fun b o e n => ?_, s1.fr⟩
      · have ne : b ≠ a := fun z => by
          rw [z, g] at e
          cases e
        rw [upd_ne ne]
        exact s1.wd.ex b o e
      · rw [e1] at e
        cases e
        exact ⟨g, x', y', upd_same, hy'⟩
      · have ne : b ≠ a := fun z => n (by rw [z]; exact e1)
        rw [upd_ne ne]
        exact s1.hh b o e n
    refine ⟨_, e2, a, [.int x, .int y], k, ?_⟩
    rcases hk with rfl | rfl
    · exact ⟨0, rfl, rfl, hH, rfl, fin z y hy⟩
    · exact ⟨1, rfl, rfl, hH, rfl, fin x z (hz rfl)⟩
/-! ### x in WORDS -/
theorem we_inW {c : Option Addr} {b : Addr} {ws : List Str} {o : Obj} {its : Array Value} {n : Nat} (h1 : C.K.lookup b = some o) (h2 : o.cls = .type "tuple") (h3 : o.data = .seq its n) (h4 : its.size ≤ sizeLine) (h5 : Vals (ws.map V.str) its.toList)
    (h : WE C c te Γ fun d => ∃ x, d = .str x ∧ Φ (.bool (inV (.str x) (ws.map V.str)))) : WE C c (tOp (rIn C.K false) te (tC (.ref b))) Γ Φ := fun G H σ Q w en q =>
  h G H σ _ w en fun d v G1 H1 g s1 r1 => by
    obtain ⟨x, rfl, hq⟩ := g
    cases r1
    refine ⟨b, ws.map V.str, rfl, .inr (.inr ⟨o, its, n, h1, h2, h3, h4, h5⟩), rfl, ?_, q _ _ G1 H1 hq s1 (.bl _)⟩
    rw [List.all_map]
    exact List.all_eq_true.mpr fun _ _ => rfl
/-! ### {'know': a, 'part': b, 'turn': c}[k] -/
theorem we_words {c : Option Addr} {t1 t2 t3 ty : TE}
    (h : WE C c t1 Γ fun x1 => WE C c t2 Γ fun x2 => WE C c t3 Γ fun x3 => WE C c ty Γ fun k => (k = .str "know" ∧ Φ x1) ∨ (k = .str "part" ∧ Φ x2) ∨ (k = .str "turn" ∧ Φ x3)) :
    WE C c (tDGet (tDisp [(tC (.str "know"), t1), (tC (.str "part"), t2), (tC (.str "turn"), t3)]) ty) Γ Φ := fun G H σ Q w en q p hp => by
  have s0 : Stp c G H G (upd H p (.dK [])) := Stp.raw w hp
  have cp : c ≠ some p := fun e => by
    obtain ⟨_, x, y, h2, _⟩ := w.cup p e
    rw [hp] at h2
    cases h2
  have g0 : G p = none := by
    cases z : G p with
    | none => rfl
    | some o =>
      have := w.ex p o z
      rw [hp] at this
      cases this
  refine h G _ σ _ s0.wd en fun x1 v1 G1 H1 h1 s1 r1 => ?_
  refine h1 G1 H1 σ _ s1.wd (en.mono s1.gg) fun x2 v2 G2 H2 h2 s2 r2 => ?_
  have en2 := en.mono fun a o z => s2.gg a o (s1.gg a o z)
  refine h2 G2 H2 σ _ s2.wd en2 fun x3 v3 G3 H3 h3 s3 r3 => ?_
  have pd : H3 p = some (.dK []) := s3.hh p _ (s2.hh p _ (s1.hh p _ upd_same cp) cp) cp
  have g3 : G3 p = none := by
    cases z : G3 p with
    | none => rfl
    | some o =>
      rcases s3.fr p o z with z | z
      · rcases s2.fr p o z with z | z
        · rcases s1.fr p o z with z | z
          · rw [g0] at z
            cases z
          · rw [upd_same] at z
            cases z
        · rw [s1.hh p _ upd_same cp] at z
          cases z
      · rw [s2.hh p _ (s1.hh p _ upd_same cp) cp] at z
        cases z
  refine ⟨pd, [(.inr "know", v1), (.inr "part", v2), (.inr "turn", v3)], rfl, by show 3 ≤ 15; omega, ?_⟩
  have em : mergeK [] [((.inr "know" : Key), v1), (.inr "part", v2), (.inr "turn", v3)] = [(.inr "know", v1), (.inr "part", v2), (.inr "turn", v3)] := by
    rfl
  rw [em]
  have s13 : Stp c G H G3 (upd H3 p (.dK [(.inr "know", v1), (.inr "part", v2), (.inr "turn", v3)])) := by
    have t := Stp.trans s0.wd (Stp.trans s0.wd s1 s2) s3
    refine ⟨⟨fun a o z => ?_, fun a e => ?_⟩, t.gg, fun a o z n => ?_, fun a o z => ?_⟩
    · have ne : a ≠ p := fun e => by
        rw [e, g3] at z
        cases z
      rw [upd_ne ne]
      exact t.wd.ex a o z
    · have ne : a ≠ p := fun e2 => cp (by rw [← e2]; exact e)
      rw [upd_ne ne]
      exact t.wd.cup a e
    · have ne : a ≠ p := ne_of_none z hp
      rw [upd_ne ne]
      refine t.hh a o ?_ n
      rw [upd_ne ne]
      exact z
    · rcases t.fr a o z with z | z
      · exact .inl z
      · by_cases e : a = p
        · subst e
          exact .inr hp
        · rw [upd_ne e] at z
          exact .inr z
  refine h3 G3 _ σ _ s13.wd (en.mono s13.gg) fun k v G4 H4 h4 s4 r4 => ?_
  have pd4 : H4 p = some (.dK [(.inr "know", v1), (.inr "part", v2), (.inr "turn", v3)]) := s4.hh p _ upd_same cp
  have st := Stp.trans w s13 s4
  have q1 := r1.mono fun a o z => s4.gg a o (s3.gg a o (s2.gg a o z))
  have q2 := r2.mono fun a o z => s4.gg a o (s3.gg a o z)
  have q3 := r3.mono s4.gg
  rcases h4 with ⟨rfl, hq⟩ | ⟨rfl, hq⟩ | ⟨rfl, hq⟩
  · cases r4
    exact ⟨p, v1, rfl, .inl ⟨_, .inr "know", .inl pd4, rfl, rfl⟩, q _ _ G4 H4 hq st q1⟩
  · cases r4
    exact ⟨p, v2, rfl, .inl ⟨_, .inr "part", .inl pd4, rfl, rfl⟩, q _ _ G4 H4 hq st q2⟩
  · cases r4
    exact ⟨p, v3, rfl, .inl ⟨_, .inr "turn", .inl pd4, rfl, rfl⟩, q _ _ G4 H4 hq st q3⟩
end
end DL8

/-! A comprehension of two clauses, by data. -/
section DL9
open PySem PySem.Spec PyProof.Rows L2
section
variable {C : Ct} {c : Option Addr} {Γ : List Sl} {Φ : PK} {ta tb te : TE} {tt tt1 : TT}
theorem Stp.notData {G H G' H' : Hp} {D : Addr} {o : HO} (s : Stp c G H G' H') (g : G D = none) (h : H D = some o) : G' D = none := by
  cases z : G' D with
  | none => rfl
  | some u =>
    rcases s.fr D u z with z | z
    · rw [g] at z
      cases z
    · rw [h] at z
      cases z
theorem Stp.put {G1 H1 G5 H5 : Hp} {D : Addr} {o : HO} (s : Stp c G1 H1 G5 H5) (hD : H1 D = none) (cD : c ≠ some D) (g5D : G5 D = none) : Stp c G1 H1 G5 (upd H5 D o) := by
  refine ⟨⟨fun a o z => ?_, fun a e => ?_⟩, s.gg, fun a o z n => ?_, s.fr⟩
  · have ne : a ≠ D := fun e => by
      rw [e, g5D] at z
      cases z
    rw [upd_ne ne]
    exact s.wd.ex a o z
  · have ne : a ≠ D := fun e2 => cD (by rw [← e2]; exact e)
    rw [upd_ne ne]
    exact s.wd.cup a e
  · have ne : a ≠ D := fun e => by
      rw [e, hD] at z
      cases z
    rw [upd_ne ne]
    exact s.hh a o z n
theorem Stp.own {G1 H1 G' H' : Hp} {D : Addr} {o : HO} (s2 : Stp c G1 H1 G' H') (hD : H1 D = none) (cD : c ≠ some D) (gD : G' D = none) (hDl : H' D = some o) : Stp c G1 H1 (upd G' D o) H' := by
  refine ⟨⟨fun a o z => ?_, fun a e => ?_⟩, fun a o z => ?_, s2.hh, fun a o z => ?_⟩
  · by_cases e : a = D
    · subst e
      rw [upd_same] at z
      rw [hDl]
      exact z
    · rw [upd_ne e] at z
      exact s2.wd.ex a o z
  · have ne : a ≠ D := fun e2 => cD (by rw [← e2]; exact e)
    rw [upd_ne ne]
    exact s2.wd.cup a e
  · rw [upd_ne (ne_of_none (s2.gg a o z) gD)]
    exact s2.gg a o z
  · by_cases e : a = D
    · subst e
      exact .inr hD
    · rw [upd_ne e] at z
      exact s2.fr a o z
theorem Wd.noData {G H : Hp} {D : Addr} (w : Wd c G H) (hD : H D = none) : G D = none := by
  cases z : G D with
  | none => rfl
  | some o =>
    have := w.ex D o z
    rw [hD] at this
    cases this
theorem Wd.notCup {G H : Hp} {D : Addr} (w : Wd c G H) (hD : H D = none) : c ≠ some D := fun e => by
  obtain ⟨_, x, y, h2, _⟩ := w.cup D e
  rw [hD] at h2
  cases h2
theorem we_lc2 {wi wi1 : TI} {g g1 : TG} {vs vs1 : List Nat}
    (h : WI C c wi Γ fun ds => ds.length ≤ 100 ∧ ∃ I : Nat → List PyData → Prop, I 0 [] ∧ (∀ acc, I ds.length acc → Φ (.list acc)) ∧
      ∀ i d acc, ds[i]? = some d → I i acc → WG C c vs g d (wipeG Γ vs) fun Γ2 => WT C c tt Γ2 fun b => (b = false → I (i + 1) acc) ∧ (b = true → WI C c wi1 Γ2 fun ds1 => ds1.length ≤ 100 ∧
        ∃ J : Nat → List PyData → Prop, J 0 acc ∧ (∀ acc, J ds1.length acc → I (i + 1) acc) ∧ ∀ j e acc, ds1[j]? = some e → J j acc → WG C c vs1 g1 e (wipeG Γ2 vs1) fun Γ3 => WT C c tt1 Γ3 fun b =>
          (b = true → WE C c te Γ3 fun y => J (j + 1) (acc ++ [y])) ∧ (b = false → J (j + 1) acc))) :
    WE C c (tLc2 wi g tt wi1 g1 tt1 te vs vs1) Γ Φ := fun G H σ Q w en q => h G H σ _ w en fun ds J G1 H1 h1 s1 hJ => by
  obtain ⟨hz, I, h0, hd, hs⟩ := h1
  intro D hD
  have sD : Stp c G1 H1 G1 (upd H1 D (.lst [])) := Stp.raw s1.wd hD
  have cD : c ≠ some D := s1.wd.notCup hD
  refine ⟨fun i m H' => m = ds.length - i ∧ i ≤ ds.length ∧ ∃ G' acc xs, Stp c G1 H1 G' H' ∧ G' D = none ∧ H' D = some (.lst xs) ∧ DqAll C G' xs acc ∧ acc.length ≤ 100 * i ∧ I i acc,
    ⟨ds.length, rfl, Nat.zero_le _, G1, [], [], sD, s1.wd.noData hD, upd_same, .nil, Nat.le_refl _, h0⟩, ?_⟩
  rintro i m H' ⟨rfl, hi, G', acc, xs, s2, gD, hDl, rx, hlen, hI⟩
  obtain ⟨hg, hst⟩ := hJ i H' fun a o x => s2.wd.ex a o (s2.gg a o x)
  by_cases hlt : i < ds.length
  · obtain ⟨go, yld⟩ := hg ds[i] (List.getElem?_eq_getElem hlt)
    refine .inr ⟨go, fun H3 => ∃ G3 acc3 xs3, Stp c G1 H1 G3 H3 ∧ G3 D = none ∧ H3 D = some (.lst xs3) ∧ DqAll C G3 xs3 acc3 ∧ acc3.length ≤ 100 * (i + 1) ∧ I (i + 1) acc3, fun H3 hN => ⟨ds.length - (i + 1), by omega, rfl, hlt, hN⟩, fun x H3 y => ?_⟩
    obtain ⟨rfl, r⟩ := yld x H3 y
    have enw : En C c G' (wipe σ vs) (wipeG Γ vs) := En.wipe (en.mono fun a o z => s2.gg a o (s1.gg a o z)) vs
    refine hs i _ acc (List.getElem?_eq_getElem hlt) hI G' H3 _ x _ s2.wd enw (r.mono s2.gg) fun Γ2 σ2 hW en2 hl2 hk2 => ?_
    refine ⟨wipe_eq (hl2.trans (wipe_length _ _)) fun k hk => (hk2 k hk).trans (wipe_get hk), ?_⟩
    refine hW G' H3 σ2 _ s2.wd en2 fun b G4 H4 hb s4 => ?_
    have h4D : H4 D = some (.lst xs) := s4.hh D _ hDl cD
    have g4D : G4 D = none := s4.notData gD hDl
    have s24 := Stp.trans s1.wd s2 s4
    cases b with
    | false => exact iteF ⟨G4, acc, xs, s24, g4D, h4D, rx.mono s4.gg, by omega, hb.1 rfl⟩
    | true =>
      refine iteT (hb.2 rfl G4 H4 σ2 _ s4.wd (en2.mono s4.gg) fun ds1 J1 G5 H5 hW5 s5 hJ1 => ?_)
      obtain ⟨hz1, J, j0, jd, js⟩ := hW5
      have h5D : H5 D = some (.lst xs) := s5.hh D _ h4D cD
      have g5D : G5 D = none := s5.notData g4D h4D
      have s25 := Stp.trans s1.wd s24 s5
      refine ⟨fun j k H' => k = ds1.length - j ∧ j ≤ ds1.length ∧ ∃ G' acc xs, Stp c G1 H1 G' H' ∧ (∀ a o, G5 a = some o → G' a = some o) ∧ G' D = none ∧ H' D = some (.lst xs) ∧ DqAll C G' xs acc ∧ acc.length ≤ 100 * i + j ∧ J j acc,
        ⟨ds1.length, rfl, Nat.zero_le _, G5, acc, xs, s25, fun _ _ h => h, g5D, h5D, rx.mono fun a o z => s5.gg a o (s4.gg a o z), hlen, j0⟩, ?_⟩
      rintro j k H6 ⟨rfl, hj, G6, acc6, xs6, s6, m6, g6D, h6D, rx6, hlen6, hJ6⟩
      obtain ⟨hg1, hst1⟩ := hJ1 j H6 fun a o x => s6.wd.ex a o (m6 a o x)
      by_cases hlt1 : j < ds1.length
      · obtain ⟨go1, yld1⟩ := hg1 ds1[j] (List.getElem?_eq_getElem hlt1)
        refine .inr ⟨go1, fun H3 => ∃ G3 acc3 xs3, Stp c G1 H1 G3 H3 ∧ (∀ a o, G5 a = some o → G3 a = some o) ∧ G3 D = none ∧ H3 D = some (.lst xs3) ∧ DqAll C G3 xs3 acc3 ∧ acc3.length ≤ 100 * i + (j + 1) ∧ J (j + 1) acc3, fun H3 hN => ⟨ds1.length - (j + 1), by omega, rfl, hlt1, hN⟩, fun x1 H7 y1 => ?_⟩
        obtain ⟨rfl, r1⟩ := yld1 x1 H7 y1
        have enw1 : En C c G6 (wipe σ2 vs1) (wipeG Γ2 vs1) := En.wipe (en2.mono fun a o z => m6 a o (s5.gg a o (s4.gg a o z))) vs1
        refine js j _ acc6 (List.getElem?_eq_getElem hlt1) hJ6 G6 H7 _ x1 _ s6.wd enw1 (r1.mono m6) fun Γ3 σ3 hW3 en3 hl3 hk3 => ?_
        refine ⟨wipe_eq (hl3.trans (wipe_length _ _)) fun k hk => (hk3 k hk).trans (wipe_get hk), ?_⟩
        refine hW3 G6 H7 σ3 _ s6.wd en3 fun b G8 H8 hb8 s8 => ?_
        have h8D : H8 D = some (.lst xs6) := s8.hh D _ h6D cD
        have g8D : G8 D = none := s8.notData g6D h6D
        have s28 := Stp.trans s1.wd s6 s8
        cases b with
        | true =>
          refine iteT (hb8.1 rfl G8 H8 σ3 _ s8.wd (en3.mono s8.gg) fun z v G9 H9 hz9 s9 r9 => ?_)
          have h9D : H9 D = some (.lst xs6) := s9.hh D _ h8D cD
          have g9D : G9 D = none := s9.notData g8D h8D
          have s29 := Stp.trans s1.wd s28 s9
          have rx9 : DqAll C G9 xs6 acc6 := rx6.mono fun a o z => s9.gg a o (s8.gg a o z)
          refine ⟨xs6, h9D, ?_, G9, acc6 ++ [z], xs6 ++ [v], s29.put hD cD g9D, fun a o z => s9.gg a o (s8.gg a o (m6 a o z)), g9D, upd_same, rx9.append (.cons r9 .nil), ?_, hz9⟩
          · rw [rx6.length]
            exact Nat.lt_of_le_of_lt (by omega : acc6.length ≤ 20000) (by decide : 20000 < sizeLine)
          · rw [List.length_append]
            simp only [List.length_cons, List.length_nil]
            omega
        | false => exact iteF ⟨G8, acc6, xs6, s28, fun a o z => s8.gg a o (m6 a o z), g8D, h8D, rx6.mono s8.gg, by omega, hb8.2 rfl⟩
      · have e : j = ds1.length := by omega
        subst e
        exact .inl ⟨hst1 (Nat.le_refl _), G6, acc6, xs6, s6, g6D, h6D, rx6, by omega, jd acc6 hJ6⟩
  · have e : i = ds.length := by omega
    subst e
    exact .inl ⟨hst (Nat.le_refl _), q _ _ _ _ (hd acc hI) (Stp.trans w s1 (s2.own hD cD gD hDl)) (.lst upd_same (rx.mono fun a o z => by
      rw [upd_ne (ne_of_none z gD)]
      exact z))⟩
end
end DL9

/-! A def by data: its body's reading, its promise. -/
section DLA
open PySem PySem.Spec PyProof.Rows L2
def startG (N : List Str) (ss : List Sl) : List Sl := ss ++ List.replicate (N.length - ss.length) .un
def retP (Φ : PK) : Out → Prop
  | .rt d => Φ d
  | .nx _ => Φ .none
  | _ => False
theorem en_rep {C : Ct} {c : Option Addr} {G : Hp} : ∀ n : Nat, En C c G (List.replicate n none) (List.replicate n .un)
  | 0 => .nil
  | n + 1 => .cons trivial (en_rep n)
theorem en_app {C : Ct} {c : Option Addr} {G : Hp} : ∀ {σ τ : L2.St} {Γ Δ : List Sl}, En C c G σ Γ → En C c G τ Δ → En C c G (σ ++ τ) (Γ ++ Δ)
  | _, _, _, _, .nil, s => s
  | _, _, _, _, .cons h r, s => .cons h (en_app r s)
theorem en_len {C : Ct} {c : Option Addr} {G : Hp} : ∀ {σ : L2.St} {Γ : List Sl}, En C c G σ Γ → σ.length = Γ.length
  | _, _, .nil => rfl
  | _, _, .cons h r => by rw [List.length_cons, List.length_cons, en_len r]
theorem en_start {C : Ct} {c : Option Addr} {G : Hp} {N : List Str} {vs : List V} {ss : List Sl} (h : En C c G (vs.map some) ss) : En C c G (L2.start N vs) (startG N ss) := by
  have e : vs.length = ss.length := by
    have := en_len h
    rw [List.length_map] at this
    exact this
  unfold L2.start startG
  rw [e]
  exact en_app h (en_rep _)
section
variable {P : Program} {w : World} {K : PySem.W.Frag} {mg : Str → Option Value} {base : Heap}
theorem fnD {x qual : Str} {st : Stmt} {f : Addr} {fd : FuncData} {N ps : List Str} {k : Nat} {W : List Sl → PK → Prop} (F : Fun K x qual st f fd) (S : FnScope N ps (defScope st)) (hl : ∀ ss Φ, W ss Φ → ss.length = ps.length)
    (hb : ∀ (cdv : Value) (A : Around) (outer : List Env) (s : Shared) (H : Hp) (E : XK), Room k (A.deeper (envOfC qual (defScope st) s.heap.objs.size f cdv)) →
      ∃ t, PSs (cxOf CX0 P w K mg base N qual (defScope st) f cdv A outer s H E).nox (defBody st) t ∧ ∀ c ss Φ, W ss Φ → WS ⟨P, w, K⟩ c t (startG N ss) (retP Φ)) :
    FnOk P w K mg base CX0 (k + 1) f fd ps (spD ⟨P, w, K⟩ W) := by
  refine F.ok S (fun vs H Q E h => ?_) (fun cdv A outer s H vs Q E hr h => ?_)
  · obtain ⟨c, G, Γ, Φ, w, en, hW, _⟩ := h
    have := en_len en
    rw [List.length_map] at this
    rw [this, hl _ _ hW]
  · obtain ⟨c, G, Γ, Φ, wd, en, hW, q⟩ := h
    obtain ⟨t, ht, hw⟩ := hb cdv A outer s H E hr
    refine ⟨t, ht, hw c Γ Φ hW G H _ _ wd (en_start en) fun o ho => ?_⟩
    cases o with
    | nx Γ' => exact fun σ G' H' st en' => q .none .non G' H' ho st .non
    | rt d => exact fun v G' H' st r => q d v G' H' ho st r
    | bk Γ' => exact ho.elim
    | ct Γ' => exact ho.elim
/-- a def that stands in the module's names, with its promise -/
def Has (P : Program) (w : World) (K : PySem.W.Frag) (mg : Str → Option Value) (base : Heap) (k : Nat) (x : Str) (W : List Sl → PK → Prop) : Prop :=
  ∃ f fd ps, mg x = some (.ref f) ∧ PySem.W.keepIn K (.ref f) = true ∧ Binds K fd ps [] ∧ FnOk P w K mg base CX0 k f fd ps (spD ⟨P, w, K⟩ W)
/-- a def that stands in the module's names -/
def HasF (K : PySem.W.Frag) (mg : Str → Option Value) (x : Str) (st : Stmt) : Prop := ∃ f fd, mg x = some (.ref f) ∧ Fun K x x st f fd
theorem Has.mono {j k : Nat} {x : Str} {W : List Sl → PK → Prop} (h : Has P w K mg base j x W) (l : j ≤ k) : Has P w K mg base k x W := by
  obtain ⟨f, fd, ps, h1, h2, h3, h4⟩ := h
  exact ⟨f, fd, ps, h1, h2, h3, h4.mono l⟩
theorem hasD {x : Str} {st : Stmt} {N ps : List Str} {k : Nat} {W : List Sl → PK → Prop} (F : HasF K mg x st) (S : FnScope N ps (defScope st)) 
    (hbn : ∀ (kV doc pm : Value) (an : Option Addr) (cdv ct : Value) (us : List Value), us.length = ps.length → bindArgs (PySem.W.fnOf x x (defArgs st) (defBody st) (defScope st) .none kV doc pm an cdv ct) ⟨us, []⟩ = pure (ps.zip us))
    (hl : ∀ ss Φ, W ss Φ → ss.length = ps.length)
    (hb : ∀ (f : Addr) (cdv : Value) (A : Around) (outer : List Env) (s : Shared) (H : Hp) (E : XK), Room k (A.deeper (envOfC x (defScope st) s.heap.objs.size f cdv)) →
      ∃ t, PSs (cxOf CX0 P w K mg base N x (defScope st) f cdv A outer s H E).nox (defBody st) t ∧ ∀ c ss Φ, W ss Φ → WS ⟨P, w, K⟩ c t (startG N ss) (retP Φ)) :
    Has P w K mg base (k + 1) x W := by
  obtain ⟨f, fd, hm, hF⟩ := F
  exact ⟨f, fd, ps, hm, hF.kp, hF.binds hbn, fnD hF S hl (hb f)⟩
/-- a def of which nothing is asked -/
theorem hasNo {x : Str} {st : Stmt} {N ps : List Str} (F : HasF K mg x st) (hbn : ∀ (kV doc pm : Value) (an : Option Addr) (cdv ct : Value) (us : List Value), us.length = ps.length → bindArgs (PySem.W.fnOf x x (defArgs st) (defBody st) (defScope st) .none kV doc pm an cdv ct) ⟨us, []⟩ = pure (ps.zip us)) :
    Has P w K mg base 0 x fun _ _ => False := by
  obtain ⟨f, fd, hm, hF⟩ := F
  refine ⟨f, fd, ps, hm, hF.kp, hF.binds hbn, ⟨fun vs H Q E h => ?_, fun A outer s H args us vs Q E hr e b v h => ?_⟩⟩
  · obtain ⟨_, _, _, _, _, _, h, _⟩ := h
    exact h.elim
  · obtain ⟨_, _, _, _, _, _, h, _⟩ := h
    exact h.elim
end
theorem pe_callH {X : Cx} {x : Str} {k k' : Nat} {W : List Sl → PK → Prop} {p pos : Pos} {e : Expr} {es : List Expr} {t : TA} (h : Has X.prog X.w X.K X.mg X.base k x W) (hr : Room k' X.A) (hk : k ≤ k') (hg : Gl X x)
    (ha : PA X (e :: es) t) (hdb : (x == ("__debug__" : Str)) = false := by decide) (he : starEach (e :: es) X.env = (false, eval e X.env) :: starEach es X.env := by rfl) (hpl : (backTo pos (starEach es X.env)).any (·.1) = false := by rfl) :
    PE X (.Call (.Name x p) (e :: es) [] pos) (tCall (spD (ctOf X) W) [] E0 t) := by
  obtain ⟨f, fd, ps, h1, h2, h3, h4⟩ := h
  exact pe_call h4 (hr.mono hk) hg h1 h2 h3 .nil pass0 ha hdb he hpl
section
variable {C : Ct} {c : Option Addr} {Γ : List Sl} {Φ : PK} {ta tb te : TE} {Ψ : Out → Prop}
/-! the ends of statements -/
theorem sq_nx {k : List Sl → Prop} {Γ : List Sl} (h : k Γ) : seqP k Ψ (.nx Γ) := h
theorem sq_rt {k : List Sl → Prop} {d : PyData} (h : Ψ (.rt d)) : seqP k Ψ (.rt d) := h
theorem lp_nx {I : List Sl → Prop} {Γ : List Sl} (h : I Γ) : loopP I Ψ (.nx Γ) := h
theorem lp_rt {I : List Sl → Prop} {d : PyData} (h : Ψ (.rt d)) : loopP I Ψ (.rt d) := h
theorem rp_rt {d : PyData} (h : Φ d) : retP Φ (.rt d) := h
theorem rp_nx {Γ : List Sl} (h : Φ .none) : retP Φ (.nx Γ) := h
/-! is None -/
def isNoneD : PyData → Bool
  | .none => true
  | _ => false
theorem we_isN (h : WE C c te Γ fun x => Φ (.bool (isNoneD x))) : WE C c (tIsN te) Γ Φ := fun G H σ Q w en q =>
  h G H σ _ w en fun d v G1 H1 h1 s1 r1 => by
    have e : decide (v = V.non) = isNoneD d := by
      cases r1 <;> rfl
    rw [e]
    exact q _ _ G1 H1 h1 s1 (.bl _)
/-! operations of known forms -/
theorem addT_int {a b : Int} (h : Φ (.int (a + b))) : addT (.int a) (.int b) Φ := h
theorem addT_lst {a b : List PyData} (h1 : a.length + b.length ≤ 10000) (h : Φ (.list (a ++ b))) : addT (.list a) (.list b) Φ := ⟨h1, h⟩
theorem addT_tup {a b : List PyData} (h1 : a.length + b.length ≤ 10000) (h : Φ (.tuple (a ++ b))) : addT (.tuple a) (.tuple b) Φ := ⟨h1, h⟩
end
end DLA

/-! A list that a loop appends to, by data. -/
section DLB
open PySem PySem.Spec PyProof.Rows L2
section
variable {C : Ct} {c : Option Addr} {Γ : List Sl} {acc : List PyData}
/-- what a turn does beside the list at a: Ψ by the slots and the list's items -/
def WSB (C : Ct) (c : Option Addr) (a : Addr) (tb : TS) (Γ : List Sl) (acc : List PyData) (Ψ : List Sl → List PyData → Prop) : Prop :=
  ∀ (G1 H1 G H : Hp) (σ : L2.St) (D : Ends) (vs : List V), Wd c G1 H1 → H1 a = none → Stp c G1 H1 G H → En C c G σ Γ → H a = some (.lst vs) → G a = none → DqAll C G vs acc →
    (∀ Γ' acc' G' H' σ' vs', Ψ Γ' acc' → Stp c G1 H1 G' H' → En C c G' σ' Γ' → H' a = some (.lst vs') → G' a = none → DqAll C G' vs' acc' → D.nx σ' H') → tb D σ H
theorem wsb_seq {a : Addr} {ts tu : TS} {Ψ : List Sl → List PyData → Prop} (h : WS C c ts Γ fun o => ∃ Γ', o = .nx Γ' ∧ WSB C c a tu Γ' acc Ψ) : WSB C c a (tSeq ts tu) Γ acc Ψ :=
  fun G1 H1 G H σ D vs w ha s en hl hg hd q => by
    have ca := w.notCup ha
    refine h G H σ _ s.wd en fun o ho => ?_
    obtain ⟨Γ', rfl, h2⟩ := ho
    intro σ' G' H' s2 en'
    exact h2 G1 H1 G' H' σ' D vs w ha (Stp.trans w s s2) en' (s2.hh a _ hl ca) (s2.notData hg hl) (hd.mono s2.gg) q
theorem wsb_app {a : Addr} {i : Nat} {te : TE} {tt : TT} {Ψ : List Sl → List PyData → Prop} (hi : Γ[i]? = some (.raw (.ref a))) (hn : acc.length ≤ 9999)
    (h : WT C c tt Γ fun b => (b = true → WE C c te Γ fun y => Ψ Γ (acc ++ [y])) ∧ (b = false → Ψ Γ acc)) :
    WSB C c a (tIfS tt (tDrop (tBM C.K "list" rAppend (tVar i) (tCons te tNil))) tNext) Γ acc Ψ :=
  fun G1 H1 G H σ D vs w ha s en hl hg hd q => by
    have ca := w.notCup ha
    refine h G H σ _ s.wd en fun b G2 H2 hb s2 => ?_
    have hl2 : H2 a = some (.lst vs) := s2.hh a _ hl ca
    have hg2 := s2.notData hg hl
    have s12 := Stp.trans w s s2
    cases b with
    | false => exact iteF (q Γ acc G2 H2 σ vs (hb.2 rfl) s12 (en.mono s2.gg) hl2 hg2 (hd.mono s2.gg))
    | true =>
      refine iteT ?_
      refine ⟨_, en.getRaw hi, Or.inl ⟨rfl, vs, SqL.of hl2⟩, ?_⟩
      refine hb.1 rfl G2 H2 σ _ s2.wd (en.mono s2.gg) fun y v G3 H3 hy s3 r3 => ?_
      have hl3 : H3 a = some (.lst vs) := s3.hh a _ hl2 ca
      have hg3 := s3.notData hg2 hl2
      have s13 := Stp.trans w s12 s3
      have hd3 := (hd.mono s2.gg).mono s3.gg
      refine ⟨a, vs, v, rfl, rfl, hl3, Nat.lt_of_le_of_lt (by rw [hd.length]; exact hn) (by decide : 9999 < sizeLine), ?_⟩
      exact q Γ (acc ++ [y]) G3 _ σ (vs ++ [v]) hy (Stp.put s13 ha ca hg3) ((en.mono s2.gg).mono s3.gg) upd_same hg3 (hd3.append (.cons r3 .nil))
theorem ws_build {i : Nat} {wi : TI} {g : TG} {tb tu : TS} {Ψ : Out → Prop} (js : List Nat)
    (h : ∀ a, WI C c wi (Γ.set i (.raw (.ref a))) fun ds => ∃ I : Nat → List Sl → List PyData → Prop, I 0 (Γ.set i (.raw (.ref a))) [] ∧
      (∀ k d Γ' acc, ds[k]? = some d → I k Γ' acc → WG C c js g d Γ' fun Γ2 => WSB C c a tb Γ2 acc (I (k + 1))) ∧ ∀ Γ' acc, I ds.length Γ' acc → WS C c tu (Γ'.set i (.d (.list acc))) Ψ ∧ Γ'[i]? = some (.raw (.ref a))) :
    WS C c (tSeq (tAsg (tLst tNil) (gName i)) (tSeq (tFor wi g tb) tu)) Γ Ψ := fun G0 H0 σ0 D0 w0 en0 q0 => by
  refine ⟨Nat.zero_le _, fun a ha => ?_⟩
  have sa : Stp c G0 H0 G0 (upd H0 a (.lst [])) := Stp.raw w0 ha
  have ca := w0.notCup ha
  have ga := w0.noData ha
  have en1 : En C c G0 (σ0.set i (some (.ref a))) (Γ.set i (.raw (.ref a))) := En.set (x := .raw (.ref a)) rfl i en0
  refine h a G0 (upd H0 a (.lst [])) _ _ sa.wd en1 fun ds J G1 H1 h1 s1 hJ => ?_
  obtain ⟨I, h0, hs, hd⟩ := h1
  have s01 := Stp.trans w0 sa s1
  refine ⟨fun k m σ' H' => m = ds.length - k ∧ k ≤ ds.length ∧ ∃ G' Γ' acc vs, Stp c G0 H0 G' H' ∧ (∀ a o, G1 a = some o → G' a = some o) ∧ En C c G' σ' Γ' ∧ H' a = some (.lst vs) ∧ G' a = none ∧ DqAll C G' vs acc ∧ I k Γ' acc,
    ⟨ds.length, rfl, Nat.zero_le _, G1, _, [], [], s01, fun _ _ z => z, en1.mono s1.gg, s1.hh a _ upd_same ca, s1.notData ga upd_same, .nil, h0⟩, ?_⟩
  rintro k m σ' H' ⟨rfl, hk, G', Γ', acc, vs, s2, gg2, en', hl, hg, hda, hI⟩
  obtain ⟨hgo, hst⟩ := hJ k H' fun b o x => s2.wd.ex b o (gg2 b o x)
  by_cases hlt : k < ds.length
  · obtain ⟨go, yld⟩ := hgo ds[k] (List.getElem?_eq_getElem hlt)
    refine .inr ⟨go, fun σ3 H3 => ∃ G3 Γ3 acc3 vs3, Stp c G0 H0 G3 H3 ∧ (∀ a o, G1 a = some o → G3 a = some o) ∧ En C c G3 σ3 Γ3 ∧ H3 a = some (.lst vs3) ∧ G3 a = none ∧ DqAll C G3 vs3 acc3 ∧ I (k + 1) Γ3 acc3,
      fun σ3 H3 hN => ⟨ds.length - (k + 1), by omega, rfl, hlt, hN⟩, fun x H3 y => ?_⟩
    obtain ⟨rfl, r⟩ := yld x H3 y
    refine hs k _ Γ' acc (List.getElem?_eq_getElem hlt) hI G' H3 σ' x _ s2.wd en' (r.mono gg2) fun Γ2 σ2 hW en2 _ _ => ?_
    refine hW G' (fun b => if b = a then none else H3 b) G' H3 σ2 _ vs ?_ ?_ ?_ en2 hl hg hda fun Γ4 acc4 G4 H4 σ4 vs4 hI4 s4 en4 hl4 hg4 hd4 => ?_
    · refine ⟨fun b o z => ?_, fun b e => ?_⟩
      · have ne : b ≠ a := fun e => by
          rw [e, hg] at z
          cases z
        rw [if_neg ne]
        exact s2.wd.ex b o z
      · have ne : b ≠ a := fun e2 => ca (by rw [← e2]; exact e)
        rw [if_neg ne]
        exact s2.wd.cup b e
    · exact if_pos rfl
    · refine ⟨s2.wd, fun _ _ z => z, fun b o z n => ?_, fun _ _ z => .inl z⟩
      by_cases e : b = a
      · rw [if_pos e] at z
        cases z
      · rw [if_neg e] at z
        exact z
    · refine ⟨G4, Γ4, acc4, vs4, ⟨s4.wd, fun b o z => s4.gg b o (s2.gg b o z), fun b o z n => ?_, fun b o z => ?_⟩, fun b o z => s4.gg b o (gg2 b o z), en4, hl4, hg4, hd4, hI4⟩
      · have ne : b ≠ a := fun e => by
          rw [e, ha] at z
          cases z
        refine s4.hh b o ?_ n
        rw [if_neg ne]
        exact s2.hh b o z n
      · have ne : b ≠ a := fun e => by
          rw [e, hg4] at z
          cases z
        rcases s4.fr b o z with z | z
        · exact s2.fr b o z
        · rw [if_neg ne] at z
          exact .inr (s2.trk w0 z)
  · have e : k = ds.length := by omega
    subst e
    refine .inl ⟨hst (Nat.le_refl _), ?_⟩
    obtain ⟨h5, h6⟩ := hd Γ' acc hI
    have s3 := Stp.own (o := .lst vs) s2 ha ca hg hl
    have en5 : En C c (upd G' a (.lst vs)) σ' (Γ'.set i (.d (.list acc))) := by
      have h7 : SlOk C c (upd G' a (.lst vs)) (some (.ref a)) (.d (.list acc)) := ⟨_, rfl, .lst upd_same (hda.mono fun b o z => by rw [upd_ne (ne_of_none z hg)]; exact z)⟩
      have h8 := En.set h7 i (en'.mono (G' := upd G' a (.lst vs)) fun b o z => by rw [upd_ne (ne_of_none z hg)]; exact z)
      have h9 : σ'.set i (some (.ref a)) = σ' := by
        have h10 := en'.getRaw h6
        refine List.ext_getElem? fun j => ?_
        rw [List.getElem?_set]
        split
        · next e =>
          subst e
          rw [h10]
          have : i < σ'.length := by
            have := List.getElem?_eq_some_iff.mp h10
            exact this.1
          simp [this]
        · rfl
      rw [h9] at h8
      exact h8
    exact h5 _ H' σ' D0 s3.wd en5 fun o ho => OutOk.go w0 s3 (q0 o ho)
end
end DLB

/-! The text: its statements by place, what stands in the names. -/
section DBh
open PySem PySem.Spec PyProof.Rows L2
def topS (i : Nat) : Stmt := PySem.Challenge.pw_twobesides_k64_whole_fewest_starts.main.body.getD i (.Pass ⟨0, 0, 0, 0⟩)
structure Blt (mg : Str → Option Value) : Prop where
  len : mg "len" = none
  range : mg "range" = none
  sorted : mg "sorted" = none
  set : mg "set" = none
  sum : mg "sum" = none
  list : mg "list" = none
  tuple : mg "tuple" = none
  dict : mg "dict" = none
  isinstance : mg "isinstance" = none
  all : mg "all" = none
  min : mg "min" = none
  max : mg "max" = none
  int : mg "int" = none
  bool : mg "bool" = none
  str : mg "str" = none
  abs : mg "abs" = none
theorem bt_len : bootBuiltins "len" = some (.builtin "len") := by decide +kernel
theorem bt_range : bootBuiltins "range" = some (.type "range") := by decide +kernel
theorem bt_sorted : bootBuiltins "sorted" = some (.builtin "sorted") := by decide +kernel
theorem bt_set : bootBuiltins "set" = some (.type "set") := by decide +kernel
theorem bt_sum : bootBuiltins "sum" = some (.builtin "sum") := by decide +kernel
theorem bt_list : bootBuiltins "list" = some (.type "list") := by decide +kernel
theorem bt_tuple : bootBuiltins "tuple" = some (.type "tuple") := by decide +kernel
theorem bt_dict : bootBuiltins "dict" = some (.type "dict") := by decide +kernel
theorem bt_isinstance : bootBuiltins "isinstance" = some (.builtin "isinstance") := by decide +kernel
theorem bt_all : bootBuiltins "all" = some (.builtin "all") := by decide +kernel
theorem bt_min : bootBuiltins "min" = some (.builtin "min") := by decide +kernel
theorem bt_max : bootBuiltins "max" = some (.builtin "max") := by decide +kernel
theorem bt_int : bootBuiltins "int" = some (.type "int") := by decide +kernel
theorem bt_bool : bootBuiltins "bool" = some (.type "bool") := by decide +kernel
theorem bt_str : bootBuiltins "str" = some (.type "str") := by decide +kernel
theorem bt_abs : bootBuiltins "abs" = some (.builtin "abs") := by decide +kernel
theorem u1 {k : Nat} {A : Around} (r : Room k A) : A.units + 1 < cLine := by have := r.un; omega
theorem u64 {k : Nat} {A : Around} (r : Room k A) : A.units + 64 < cLine := by have := r.un; omega
theorem u65 {k : Nat} {A : Around} (r : Room k A) : A.units + 65 < cLine := by have := r.un; omega
theorem u100 {k : Nat} {A : Around} (r : Room k A) : A.units + 100 < cLine := by have := r.un; omega
theorem pe_globE {X : Cx} {x : Str} {v : V} {pos : Pos} (hg : Gl X x) (hm : ∃ u, X.mg x = some u ∧ RelV v u) (hd : (x == ("__debug__" : Str)) = false := by decide) : PE X (.Name x pos) (tC v) := by
  obtain ⟨u, h1, h2⟩ := hm
  exact pe_glob hg h1 h2 hd
abbrev rCountT (C : Ct) : V → List V → Hp → VK → Prop := fun x vs H Q => ∃ (a : Addr) (bs : List Bool), x = .ref a ∧ vs = [.bl true] ∧ SqL C.K H a (bs.map V.bl) ∧ Q (.int (bs.count true : Nat)) H
end DBh

section DB1
open PySem PySem.Spec PyProof.Rows L2
abbrev s_is_whole : Stmt := topS 6
abbrev n_is_whole : List Str := ["value", "low", "high"]
abbrev p_is_whole : List Str := ["value", "low", "high"]
theorem sc_is_whole : FnScope n_is_whole p_is_whole (defScope s_is_whole) := ⟨rfl, rfl, rfl, by decide +kernel, rfl, by decide +kernel, by decide +kernel⟩
theorem bn_is_whole (kV doc pm : Value) (an : Option Addr) (cdv ct : Value) (us : List Value) (hl : us.length = (p_is_whole).length) : bindArgs (PySem.W.fnOf "is_whole" "is_whole" (defArgs s_is_whole) (defBody s_is_whole) (defScope s_is_whole) .none kV doc pm an cdv ct) ⟨us, []⟩ = pure ((p_is_whole).zip us) := match us, hl with | [_, _, _], _ => rfl
def t_is_whole (C : Ct) : TS :=
  (tRet (tAndV (tCB (rIsi C.K) (tCons (tVar 0) (tCons (tC (.ty "int")) tNil))) (tAndV (tNotV (tCB (rIsi C.K) (tCons (tVar 0) (tCons (tC (.ty "bool")) tNil)))) (tChain (rT2 C leT) (rT2 C leT) (tVar 1) (tVar 0) (tVar 2)))))
theorem d_is_whole {P : Program} {w : World} {K : PySem.W.Frag} {mg : Str → Option Value} {base : Heap} {k : Nat} {f : Addr} {cdv : Value} {A : Around} {outer : List Env} {s : Shared} {H : Hp} {E : XK}
    (hr : Room k (A.deeper (envOfC "is_whole" (defScope s_is_whole) s.heap.objs.size f cdv))) (B : Blt mg) :
    PSs (cxOf CX0 P w K mg base n_is_whole "is_whole" (defScope s_is_whole) f cdv A outer s H E).nox (defBody s_is_whole) (t_is_whole ⟨P, w, K⟩) :=
  (pss_one (ps_ret (pe_and (pe_callB call_isi (by rfl) B.isinstance bt_isinstance (pa_cons (pv 0) (pa_cons (pe_bltn (v := .ty "int") (by rfl) B.int bt_int rfl) pa_nil))) (pe_and (pe_not (pe_callB call_isi (by rfl) B.isinstance bt_isinstance (pa_cons (pv 0) (pa_cons (pe_bltn (v := .ty "bool") (by rfl) B.bool bt_bool rfl) pa_nil)))) (pe_one (pe_chain op_leQ op_leQ (pv 1) (pv 0) (pv 2)))))))
abbrev s_is_tuple_of : Stmt := topS 7
abbrev n_is_tuple_of : List Str := ["value", "low", "high"]
abbrev p_is_tuple_of : List Str := ["value", "low", "high"]
theorem sc_is_tuple_of : FnScope n_is_tuple_of p_is_tuple_of (defScope s_is_tuple_of) := ⟨rfl, rfl, rfl, by decide +kernel, rfl, by decide +kernel, by decide +kernel⟩
theorem bn_is_tuple_of (kV doc pm : Value) (an : Option Addr) (cdv ct : Value) (us : List Value) (hl : us.length = (p_is_tuple_of).length) : bindArgs (PySem.W.fnOf "is_tuple_of" "is_tuple_of" (defArgs s_is_tuple_of) (defBody s_is_tuple_of) (defScope s_is_tuple_of) .none kV doc pm an cdv ct) ⟨us, []⟩ = pure ((p_is_tuple_of).zip us) := match us, hl with | [_, _, _], _ => rfl
def t_is_tuple_of (C : Ct) : TS :=
  (tRet (tAndV (tCB (rIsi C.K) (tCons (tVar 0) (tCons (tC (.ty "tuple")) tNil))) (tChain (rT2 C leT) (rT2 C leT) (tVar 1) (tCB (rTn C lenT) (tCons (tVar 0) tNil)) (tVar 2))))
theorem d_is_tuple_of {P : Program} {w : World} {K : PySem.W.Frag} {mg : Str → Option Value} {base : Heap} {k : Nat} {f : Addr} {cdv : Value} {A : Around} {outer : List Env} {s : Shared} {H : Hp} {E : XK}
    (hr : Room k (A.deeper (envOfC "is_tuple_of" (defScope s_is_tuple_of) s.heap.objs.size f cdv))) (B : Blt mg) :
    PSs (cxOf CX0 P w K mg base n_is_tuple_of "is_tuple_of" (defScope s_is_tuple_of) f cdv A outer s H E).nox (defBody s_is_tuple_of) (t_is_tuple_of ⟨P, w, K⟩) :=
  (pss_one (ps_ret (pe_and (pe_callB call_isi (by rfl) B.isinstance bt_isinstance (pa_cons (pv 0) (pa_cons (pe_bltn (v := .ty "tuple") (by rfl) B.tuple bt_tuple rfl) pa_nil))) (pe_one (pe_chain op_leQ op_leQ (pv 1) (pe_callB (cr_lenQ) (by rfl) B.len bt_len (pa_cons (pv 0) pa_nil)) (pv 2))))))
abbrev s_are_whole : Stmt := topS 8
abbrev n_are_whole : List Str := ["value", "low", "high", "item"]
abbrev p_are_whole : List Str := ["value", "low", "high"]
theorem sc_are_whole : FnScope n_are_whole p_are_whole (defScope s_are_whole) := ⟨rfl, rfl, rfl, by decide +kernel, rfl, by decide +kernel, by decide +kernel⟩
theorem bn_are_whole (kV doc pm : Value) (an : Option Addr) (cdv ct : Value) (us : List Value) (hl : us.length = (p_are_whole).length) : bindArgs (PySem.W.fnOf "are_whole" "are_whole" (defArgs s_are_whole) (defBody s_are_whole) (defScope s_are_whole) .none kV doc pm an cdv ct) ⟨us, []⟩ = pure ((p_are_whole).zip us) := match us, hl with | [_, _, _], _ => rfl
def t_are_whole (C : Ct) (W_is_whole : List Sl → PK → Prop) : TS :=
  (tRet (tCB (rTn C allT) (tCons (tLc (iTup C.K (tVar 0)) (gName 3) tYes (tCall (spD C W_is_whole) [] E0 (tCons (tVar 3) (tCons (tVar 1) (tCons (tVar 2) tNil)))) [3]) tNil)))
theorem d_are_whole {P : Program} {w : World} {K : PySem.W.Frag} {mg : Str → Option Value} {base : Heap} {k : Nat} {f : Addr} {cdv : Value} {A : Around} {outer : List Env} {s : Shared} {H : Hp} {E : XK} {W_is_whole : List Sl → PK → Prop}
    (hr : Room k (A.deeper (envOfC "are_whole" (defScope s_are_whole) s.heap.objs.size f cdv))) (B : Blt mg) (h_is_whole : Has P w K mg base k "is_whole" W_is_whole) :
    PSs (cxOf CX0 P w K mg base n_are_whole "are_whole" (defScope s_are_whole) f cdv A outer s H E).nox (defBody s_are_whole) (t_are_whole ⟨P, w, K⟩ W_is_whole) :=
  (pss_one (ps_ret (pe_callB (cr_allQ rfl) (by rfl) B.all bt_all (pa_cons (pe_lc (own := [("item", 3)]) rfl sc_are_whole.nd (pi_tup (pv 0)) (blkOk_by (by show blkC n_are_whole (defScope s_are_whole) _ _ = true; decide +kernel)) (fun _ _ _ _ _ => (pg_name (i := 3) sc_are_whole.nd rfl (.inl rfl))) (fun _ _ _ _ _ => pts_nil) (fun _ _ _ _ _ => (pe_callH h_is_whole hr (Nat.le_refl _) (by rfl) (pa_cons (pv 3) (pa_cons (pv 1) (pa_cons (pv 2) pa_nil)))))) pa_nil))))
abbrev s_pairs_of : Stmt := topS 9
abbrev n_pairs_of : List Str := ["people", "one", "other"]
abbrev p_pairs_of : List Str := ["people"]
theorem sc_pairs_of : FnScope n_pairs_of p_pairs_of (defScope s_pairs_of) := ⟨rfl, rfl, rfl, by decide +kernel, rfl, by decide +kernel, by decide +kernel⟩
theorem bn_pairs_of (kV doc pm : Value) (an : Option Addr) (cdv ct : Value) (us : List Value) (hl : us.length = (p_pairs_of).length) : bindArgs (PySem.W.fnOf "pairs_of" "pairs_of" (defArgs s_pairs_of) (defBody s_pairs_of) (defScope s_pairs_of) .none kV doc pm an cdv ct) ⟨us, []⟩ = pure ((p_pairs_of).zip us) := match us, hl with | [_], _ => rfl
def t_pairs_of (C : Ct) : TS :=
  (tRet (tLc2 (iRng1 (tCons (tVar 0) tNil)) (gName 1) tYes (iRng2 (tCons (tOp (rT2 C addT) (tVar 1) (tC (.int 1))) (tCons (tVar 0) tNil))) (gName 2) tYes (tTup (tCons (tVar 1) (tCons (tVar 2) tNil))) [1, 2] [2]))
theorem d_pairs_of {P : Program} {w : World} {K : PySem.W.Frag} {mg : Str → Option Value} {base : Heap} {k : Nat} {f : Addr} {cdv : Value} {A : Around} {outer : List Env} {s : Shared} {H : Hp} {E : XK}
    (hr : Room k (A.deeper (envOfC "pairs_of" (defScope s_pairs_of) s.heap.objs.size f cdv))) (B : Blt mg) :
    PSs (cxOf CX0 P w K mg base n_pairs_of "pairs_of" (defScope s_pairs_of) f cdv A outer s H E).nox (defBody s_pairs_of) (t_pairs_of ⟨P, w, K⟩) :=
  (pss_one (ps_ret (pe_lc2 (own := [("one", 1), ("other", 2)]) rfl sc_pairs_of.nd (pi_range1 (by rfl) B.range (pa_cons (pv 0) pa_nil)) (blkOk_by (by show blkC n_pairs_of (defScope s_pairs_of) _ _ = true; decide +kernel)) (vs1 := [2]) (by decide) (fun _ _ _ _ _ => (pg_name (i := 1) sc_pairs_of.nd rfl (.inl rfl))) (fun _ _ _ _ _ => pts_nil) (fun _ _ _ _ _ => (pi_range2 (by rfl) B.range (pa_cons (pe_op op_addQ (pv 1) pe_int) (pa_cons (pv 0) pa_nil)))) (fun _ _ _ _ _ => (pg_name (i := 2) sc_pairs_of.nd rfl (.inl rfl))) (fun _ _ _ _ _ => pts_nil) (fun _ _ _ _ _ => (pe_tup (pa_cons (pv 1) (pa_cons (pv 2) pa_nil)))))))
abbrev s_pair_of : Stmt := topS 10
abbrev n_pair_of : List Str := ["one", "other"]
abbrev p_pair_of : List Str := ["one", "other"]
theorem sc_pair_of : FnScope n_pair_of p_pair_of (defScope s_pair_of) := ⟨rfl, rfl, rfl, by decide +kernel, rfl, by decide +kernel, by decide +kernel⟩
theorem bn_pair_of (kV doc pm : Value) (an : Option Addr) (cdv ct : Value) (us : List Value) (hl : us.length = (p_pair_of).length) : bindArgs (PySem.W.fnOf "pair_of" "pair_of" (defArgs s_pair_of) (defBody s_pair_of) (defScope s_pair_of) .none kV doc pm an cdv ct) ⟨us, []⟩ = pure ((p_pair_of).zip us) := match us, hl with | [_, _], _ => rfl
def t_pair_of (C : Ct) : TS :=
  (tRet (tTup (tCons (tCB (rTn C minT) (tCons (tVar 0) (tCons (tVar 1) tNil))) (tCons (tCB (rTn C maxT) (tCons (tVar 0) (tCons (tVar 1) tNil))) tNil))))
theorem d_pair_of {P : Program} {w : World} {K : PySem.W.Frag} {mg : Str → Option Value} {base : Heap} {k : Nat} {f : Addr} {cdv : Value} {A : Around} {outer : List Env} {s : Shared} {H : Hp} {E : XK}
    (hr : Room k (A.deeper (envOfC "pair_of" (defScope s_pair_of) s.heap.objs.size f cdv))) (B : Blt mg) :
    PSs (cxOf CX0 P w K mg base n_pair_of "pair_of" (defScope s_pair_of) f cdv A outer s H E).nox (defBody s_pair_of) (t_pair_of ⟨P, w, K⟩) :=
  (pss_one (ps_ret (pe_tup (pa_cons (pe_callB (cr_minQ rfl) (by rfl) B.min bt_min (pa_cons (pv 0) (pa_cons (pv 1) pa_nil))) (pa_cons (pe_callB (cr_maxQ rfl) (by rfl) B.max bt_max (pa_cons (pv 0) (pa_cons (pv 1) pa_nil))) pa_nil)))))
abbrev s_company_by : Stmt := topS 11
abbrev n_company_by : List Str := ["people", "ties", "pair"]
abbrev p_company_by : List Str := ["people", "ties"]
theorem sc_company_by : FnScope n_company_by p_company_by (defScope s_company_by) := ⟨rfl, rfl, rfl, by decide +kernel, rfl, by decide +kernel, by decide +kernel⟩
theorem bn_company_by (kV doc pm : Value) (an : Option Addr) (cdv ct : Value) (us : List Value) (hl : us.length = (p_company_by).length) : bindArgs (PySem.W.fnOf "company_by" "company_by" (defArgs s_company_by) (defBody s_company_by) (defScope s_company_by) .none kV doc pm an cdv ct) ⟨us, []⟩ = pure ((p_company_by).zip us) := match us, hl with | [_, _], _ => rfl
def t_company_by (C : Ct) (W_pairs_of : List Sl → PK → Prop) : TS :=
  (tRet (tTup (tCons (tVar 0) (tCons (tCB (rTn C tupleT) (tCons (tLc (iList C.K (tCall (spD C W_pairs_of) [] E0 (tCons (tVar 0) tNil))) (gName 2) (tB (tOp (rT2 C getT) (tVar 1) (tVar 2))) (tVar 2) [2]) tNil)) tNil))))
theorem d_company_by {P : Program} {w : World} {K : PySem.W.Frag} {mg : Str → Option Value} {base : Heap} {k : Nat} {f : Addr} {cdv : Value} {A : Around} {outer : List Env} {s : Shared} {H : Hp} {E : XK} {W_pairs_of : List Sl → PK → Prop}
    (hr : Room k (A.deeper (envOfC "company_by" (defScope s_company_by) s.heap.objs.size f cdv))) (B : Blt mg) (h_pairs_of : Has P w K mg base k "pairs_of" W_pairs_of) :
    PSs (cxOf CX0 P w K mg base n_company_by "company_by" (defScope s_company_by) f cdv A outer s H E).nox (defBody s_company_by) (t_company_by ⟨P, w, K⟩ W_pairs_of) :=
  (pss_one (ps_ret (pe_tup (pa_cons (pv 0) (pa_cons (pe_callTy (cr_tupleQ) (by rfl) B.tuple bt_tuple (pa_cons (pe_lc (own := [("pair", 2)]) rfl sc_company_by.nd (pi_list (pe_callH h_pairs_of hr (Nat.le_refl _) (by rfl) (pa_cons (pv 0) pa_nil))) (blkOk_by (by show blkC n_company_by (defScope s_company_by) _ _ = true; decide +kernel)) (fun _ _ _ _ _ => (pg_name (i := 2) sc_company_by.nd rfl (.inl rfl))) (fun _ _ _ _ _ => (pts_one (pt_val (pe_ix (ix_dQ (u64 hr)) (pv 1) (pv 2) (fun _ _ => rfl))))) (fun _ _ _ _ _ => (pv 2))) pa_nil)) pa_nil)))))
abbrev s_ties_in : Stmt := topS 12
abbrev n_ties_in : List Str := ["company", "pair"]
abbrev p_ties_in : List Str := ["company"]
theorem sc_ties_in : FnScope n_ties_in p_ties_in (defScope s_ties_in) := ⟨rfl, rfl, rfl, by decide +kernel, rfl, by decide +kernel, by decide +kernel⟩
theorem bn_ties_in (kV doc pm : Value) (an : Option Addr) (cdv ct : Value) (us : List Value) (hl : us.length = (p_ties_in).length) : bindArgs (PySem.W.fnOf "ties_in" "ties_in" (defArgs s_ties_in) (defBody s_ties_in) (defScope s_ties_in) .none kV doc pm an cdv ct) ⟨us, []⟩ = pure ((p_ties_in).zip us) := match us, hl with | [_], _ => rfl
def t_ties_in (C : Ct) (W_pairs_of : List Sl → PK → Prop) : TS :=
  (tRet (tCB (rTn C dictT) (tCons (tLc (iList C.K (tCall (spD C W_pairs_of) [] E0 (tCons (tOp (rT2 C ixT) (tVar 0) (tC (.int 0))) tNil))) (gName 1) tYes (tTup (tCons (tVar 1) (tCons (tOp (rT2 C (inT false)) (tVar 1) (tOp (rT2 C ixT) (tVar 0) (tC (.int 1)))) tNil))) [1]) tNil)))
theorem d_ties_in {P : Program} {w : World} {K : PySem.W.Frag} {mg : Str → Option Value} {base : Heap} {k : Nat} {f : Addr} {cdv : Value} {A : Around} {outer : List Env} {s : Shared} {H : Hp} {E : XK} {W_pairs_of : List Sl → PK → Prop}
    (hr : Room k (A.deeper (envOfC "ties_in" (defScope s_ties_in) s.heap.objs.size f cdv))) (B : Blt mg) (h_pairs_of : Has P w K mg base k "pairs_of" W_pairs_of) :
    PSs (cxOf CX0 P w K mg base n_ties_in "ties_in" (defScope s_ties_in) f cdv A outer s H E).nox (defBody s_ties_in) (t_ties_in ⟨P, w, K⟩ W_pairs_of) :=
  (pss_one (ps_ret (pe_callTy (cr_dictQ rfl (u64 hr)) (by rfl) B.dict bt_dict (pa_cons (pe_lc (own := [("pair", 1)]) rfl sc_ties_in.nd (pi_list (pe_callH h_pairs_of hr (Nat.le_refl _) (by rfl) (pa_cons (pe_ix ix_Q (pv 0) pe_int (fun _ _ => rfl)) pa_nil))) (blkOk_by (by show blkC n_ties_in (defScope s_ties_in) _ _ = true; decide +kernel)) (fun _ _ _ _ _ => (pg_name (i := 1) sc_ties_in.nd rfl (.inl rfl))) (fun _ _ _ _ _ => pts_nil) (fun _ _ _ _ _ => (pe_tup (pa_cons (pv 1) (pa_cons (pe_cmpR (op_inQ (u65 hr)) (pv 1) (pe_ix ix_Q (pv 0) pe_int (fun _ _ => rfl)) (by rfl)) pa_nil))))) pa_nil))))
abbrev s_need_named : Stmt := topS 13
abbrev n_need_named : List Str := ["value"]
abbrev p_need_named : List Str := ["value"]
theorem sc_need_named : FnScope n_need_named p_need_named (defScope s_need_named) := ⟨rfl, rfl, rfl, by decide +kernel, rfl, by decide +kernel, by decide +kernel⟩
theorem bn_need_named (kV doc pm : Value) (an : Option Addr) (cdv ct : Value) (us : List Value) (hl : us.length = (p_need_named).length) : bindArgs (PySem.W.fnOf "need_named" "need_named" (defArgs s_need_named) (defBody s_need_named) (defScope s_need_named) .none kV doc pm an cdv ct) ⟨us, []⟩ = pure ((p_need_named).zip us) := match us, hl with | [_], _ => rfl
def t_need_named (C : Ct) (W_is_whole : List Sl → PK → Prop) : TS :=
  (tIfS (tNot (tB (tCall (spD C W_is_whole) [] E0 (tCons (tVar 0) (tCons (tC (.int 1)) (tCons (tC (.int 3)) tNil)))))) tNever tNext)
theorem d_need_named {P : Program} {w : World} {K : PySem.W.Frag} {mg : Str → Option Value} {base : Heap} {k : Nat} {f : Addr} {cdv : Value} {A : Around} {outer : List Env} {s : Shared} {H : Hp} {E : XK} {W_is_whole : List Sl → PK → Prop}
    (hr : Room k (A.deeper (envOfC "need_named" (defScope s_need_named) s.heap.objs.size f cdv))) (B : Blt mg) (h_is_whole : Has P w K mg base k "is_whole" W_is_whole) (gNAMED : ∃ u, mg "NAMED" = some u ∧ RelV (.int 3) u) :
    PSs (cxOf CX0 P w K mg base n_need_named "need_named" (defScope s_need_named) f cdv A outer s H E).nox (defBody s_need_named) (t_need_named ⟨P, w, K⟩ W_is_whole) :=
  (pss_one (ps_if (pt_not (pt_val (pe_callH h_is_whole hr (Nat.le_refl _) (by rfl) (pa_cons (pv 0) (pa_cons pe_int (pa_cons (pe_globE (by rfl) gNAMED) pa_nil)))))) (pss_one ps_never) pss_nil))
abbrev s_answer_of : Stmt := topS 15
abbrev n_answer_of : List Str := ["ties", "deed", "one", "other", "know", "many", "third", "person"]
abbrev p_answer_of : List Str := ["ties", "deed", "one", "other"]
theorem sc_answer_of : FnScope n_answer_of p_answer_of (defScope s_answer_of) := ⟨rfl, rfl, rfl, by decide +kernel, rfl, by decide +kernel, by decide +kernel⟩
theorem bn_answer_of (kV doc pm : Value) (an : Option Addr) (cdv ct : Value) (us : List Value) (hl : us.length = (p_answer_of).length) : bindArgs (PySem.W.fnOf "answer_of" "answer_of" (defArgs s_answer_of) (defBody s_answer_of) (defScope s_answer_of) .none kV doc pm an cdv ct) ⟨us, []⟩ = pure ((p_answer_of).zip us) := match us, hl with | [_, _, _, _], _ => rfl
def t_answer_of (C : Ct) (W_pair_of : List Sl → PK → Prop) : TS :=
  (tSeq (tAsg (tOp (rT2 C getT) (tVar 0) (tTup (tCons (tVar 2) (tCons (tVar 3) tNil)))) (gName 4))
    (tSeq (tIfS (tTest (tOp (rT2 C eqT) (tOp (rT2 C ixT) (tVar 1) (tC (.int 0))) (tC (.str "pairs")))) (tSeq (tIfS (tTest (tOp (rT2 C (inT false)) (tOp (rT2 C ixT) (tVar 1) (tC (.int 1))) (tTup (tCons (tVar 2) (tCons (tVar 3) tNil))))) (tRet (tVar 4)) tNext)
    (tSeq (tAsg (tCB (rTn C sumT) (tCons (tLc (iTup C.K (tTup (tCons (tVar 2) (tCons (tVar 3) tNil)))) (gName 7) (tB (tOp (rT2 C getT) (tVar 0) (tCall (spD C W_pair_of) [] E0 (tCons (tOp (rT2 C ixT) (tVar 1) (tC (.int 1))) (tCons (tVar 7) tNil))))) (tC (.int 1)) [7]) tNil)) (gName 5))
    (tRet (tOp (rT2 C eqT) (tOp (rT2 C ixT) (tOp (rT2 C ixT) (tVar 1) (tC (.int 2))) (tOp (rT2 C addT) (tOp (rT2 C mulT) (tC (.int 3)) (tCB (rTn C int1T) (tCons (tVar 4) tNil))) (tVar 5))) (tC (.int 1)))))) tNext)
    (tSeq (tIfS (tTest (tOp (rT2 C eqT) (tOp (rT2 C ixT) (tVar 1) (tC (.int 0))) (tC (.str "takes")))) (tSeq (tIfS (tOr (tTest (tOp (rT2 C eqT) (tOp (rT2 C (inT false)) (tOp (rT2 C ixT) (tVar 1) (tC (.int 1))) (tTup (tCons (tVar 2) (tCons (tVar 3) tNil)))) (tOp (rT2 C (inT false)) (tOp (rT2 C ixT) (tVar 1) (tC (.int 2))) (tTup (tCons (tVar 2) (tCons (tVar 3) tNil)))))) (tTest (tOp (rT2 C (inT true)) (tOp (rT2 C ixT) (tVar 1) (tC (.int 1))) (tTup (tCons (tVar 2) (tCons (tVar 3) tNil)))))) (tRet (tVar 4)) tNext)
    (tSeq (tAsg (tOp (rT2 C subT) (tOp (rT2 C addT) (tVar 2) (tVar 3)) (tOp (rT2 C ixT) (tVar 1) (tC (.int 1)))) (gName 6))
    (tRet (tOp (rT2 C eqT) (tOp (rT2 C ixT) (tOp (rT2 C ixT) (tVar 1) (tC (.int 3))) (tOp (rT2 C addT) (tOp (rT2 C mulT) (tC (.int 2)) (tCB (rTn C int1T) (tCons (tVar 4) tNil))) (tCB (rTn C int1T) (tCons (tOp (rT2 C getT) (tVar 0) (tCall (spD C W_pair_of) [] E0 (tCons (tOp (rT2 C ixT) (tVar 1) (tC (.int 2))) (tCons (tVar 6) tNil)))) tNil)))) (tC (.int 1)))))) tNext)
    (tSeq (tIfS (tTest (tOp (rT2 C neT) (tCall (spD C W_pair_of) [] E0 (tCons (tOp (rT2 C ixT) (tVar 1) (tC (.int 1))) (tCons (tOp (rT2 C ixT) (tVar 1) (tC (.int 2))) tNil))) (tTup (tCons (tVar 2) (tCons (tVar 3) tNil))))) (tRet (tVar 4)) tNext)
    (tRet (tIf (tTest (tOp (rT2 C eqT) (tOp (rT2 C ixT) (tVar 1) (tC (.int 3))) (tC (.str "turn")))) (tNotV (tVar 4)) (tOp (rT2 C eqT) (tOp (rT2 C ixT) (tVar 1) (tC (.int 3))) (tC (.str "know")))))))))
theorem d_answer_of {P : Program} {w : World} {K : PySem.W.Frag} {mg : Str → Option Value} {base : Heap} {k : Nat} {f : Addr} {cdv : Value} {A : Around} {outer : List Env} {s : Shared} {H : Hp} {E : XK} {W_pair_of : List Sl → PK → Prop}
    (hr : Room k (A.deeper (envOfC "answer_of" (defScope s_answer_of) s.heap.objs.size f cdv))) (B : Blt mg) (h_pair_of : Has P w K mg base k "pair_of" W_pair_of) :
    PSs (cxOf CX0 P w K mg base n_answer_of "answer_of" (defScope s_answer_of) f cdv A outer s H E).nox (defBody s_answer_of) (t_answer_of ⟨P, w, K⟩ W_pair_of) :=
  (pss_cons (ps_set (i := 4) sc_answer_of.nd rfl (.inl rfl) (pe_ix (ix_dQ (u64 hr)) (pv 0) (pe_tup (pa_cons (pv 2) (pa_cons (pv 3) pa_nil))) (fun _ _ => rfl)))
    (pss_cons (ps_if (pt_cmpR (op_eqQ (u64 hr)) (pe_ix ix_Q (pv 1) pe_int (fun _ _ => rfl)) pe_str (nomark _)) (pss_cons (ps_if (pt_cmpR (op_inQ (u65 hr)) (pe_ix ix_Q (pv 1) pe_int (fun _ _ => rfl)) (pe_tup (pa_cons (pv 2) (pa_cons (pv 3) pa_nil))) (by rfl)) (pss_one (ps_ret (pv 4))) pss_nil)
    (pss_cons (ps_set (i := 5) sc_answer_of.nd rfl (.inl rfl) (pe_callB (cr_sumQ rfl) (by rfl) B.sum bt_sum (pa_cons (pe_lc (own := [("person", 7)]) rfl sc_answer_of.nd (pi_tup (pe_tup (pa_cons (pv 2) (pa_cons (pv 3) pa_nil)))) (blkOk_by (by show blkC n_answer_of (defScope s_answer_of) _ _ = true; decide +kernel)) (fun _ _ _ _ _ => (pg_name (i := 7) sc_answer_of.nd rfl (.inl rfl))) (fun _ _ _ _ _ => (pts_one (pt_val (pe_ix (ix_dQ (u64 hr)) (pv 0) (pe_callH h_pair_of hr (Nat.le_refl _) (by rfl) (pa_cons (pe_ix ix_Q (pv 1) pe_int (fun _ _ => rfl)) (pa_cons (pv 7) pa_nil))) (fun _ _ => rfl))))) (fun _ _ _ _ _ => pe_int)) pa_nil)))
    (pss_one (ps_ret (pe_cmpR (op_eqQ (u64 hr)) (pe_ix ix_Q (pe_ix ix_Q (pv 1) pe_int (fun _ _ => rfl)) (pe_op op_addQ (pe_op op_mulQ pe_int (pe_callTy (cr_intQ) (by rfl) B.int bt_int (pa_cons (pv 4) pa_nil))) (pv 5)) (fun _ _ => rfl)) pe_int (nomark _)))))) pss_nil)
    (pss_cons (ps_if (pt_cmpR (op_eqQ (u64 hr)) (pe_ix ix_Q (pv 1) pe_int (fun _ _ => rfl)) pe_str (nomark _)) (pss_cons (ps_if (PW.pt (pw_or (pt_cmpR (op_eqQ (u64 hr)) (pe_cmpR (op_inQ (u65 hr)) (pe_ix ix_Q (pv 1) pe_int (fun _ _ => rfl)) (pe_tup (pa_cons (pv 2) (pa_cons (pv 3) pa_nil))) (by rfl)) (pe_cmpR (op_inQ (u65 hr)) (pe_ix ix_Q (pv 1) pe_int (fun _ _ => rfl)) (pe_tup (pa_cons (pv 2) (pa_cons (pv 3) pa_nil))) (by rfl)) (nomark _)) (pw_or1 (pt_cmpR (op_notInQ (u65 hr)) (pe_ix ix_Q (pv 1) pe_int (fun _ _ => rfl)) (pe_tup (pa_cons (pv 2) (pa_cons (pv 3) pa_nil))) (by rfl))))) (pss_one (ps_ret (pv 4))) pss_nil)
    (pss_cons (ps_set (i := 6) sc_answer_of.nd rfl (.inl rfl) (pe_op op_subQ (pe_op op_addQ (pv 2) (pv 3)) (pe_ix ix_Q (pv 1) pe_int (fun _ _ => rfl))))
    (pss_one (ps_ret (pe_cmpR (op_eqQ (u64 hr)) (pe_ix ix_Q (pe_ix ix_Q (pv 1) pe_int (fun _ _ => rfl)) (pe_op op_addQ (pe_op op_mulQ pe_int (pe_callTy (cr_intQ) (by rfl) B.int bt_int (pa_cons (pv 4) pa_nil))) (pe_callTy (cr_intQ) (by rfl) B.int bt_int (pa_cons (pe_ix (ix_dQ (u64 hr)) (pv 0) (pe_callH h_pair_of hr (Nat.le_refl _) (by rfl) (pa_cons (pe_ix ix_Q (pv 1) pe_int (fun _ _ => rfl)) (pa_cons (pv 6) pa_nil))) (fun _ _ => rfl)) pa_nil))) (fun _ _ => rfl)) pe_int (nomark _)))))) pss_nil)
    (pss_cons (ps_if (pt_cmpR (op_neQ (u64 hr)) (pe_callH h_pair_of hr (Nat.le_refl _) (by rfl) (pa_cons (pe_ix ix_Q (pv 1) pe_int (fun _ _ => rfl)) (pa_cons (pe_ix ix_Q (pv 1) pe_int (fun _ _ => rfl)) pa_nil))) (pe_tup (pa_cons (pv 2) (pa_cons (pv 3) pa_nil))) (nomark _)) (pss_one (ps_ret (pv 4))) pss_nil)
    (pss_one (ps_ret (pe_ifExp (pt_cmpR (op_eqQ (u64 hr)) (pe_ix ix_Q (pv 1) pe_int (fun _ _ => rfl)) pe_str (nomark _)) (pe_not (pv 4)) (pe_cmpR (op_eqQ (u64 hr)) (pe_ix ix_Q (pv 1) pe_int (fun _ _ => rfl)) pe_str (nomark _)))))))))
abbrev s_behind : Stmt := topS 16
abbrev n_behind : List Str := ["company", "deed", "ties", "pairs", "pair"]
abbrev p_behind : List Str := ["company", "deed"]
theorem sc_behind : FnScope n_behind p_behind (defScope s_behind) := ⟨rfl, rfl, rfl, by decide +kernel, rfl, by decide +kernel, by decide +kernel⟩
theorem bn_behind (kV doc pm : Value) (an : Option Addr) (cdv ct : Value) (us : List Value) (hl : us.length = (p_behind).length) : bindArgs (PySem.W.fnOf "behind" "behind" (defArgs s_behind) (defBody s_behind) (defScope s_behind) .none kV doc pm an cdv ct) ⟨us, []⟩ = pure ((p_behind).zip us) := match us, hl with | [_, _], _ => rfl
def t_behind (C : Ct) (W_ties_in : List Sl → PK → Prop) (W_pairs_of : List Sl → PK → Prop) (W_company_by : List Sl → PK → Prop) (W_answer_of : List Sl → PK → Prop) : TS :=
  (tSeq (tAsg (tCall (spD C W_ties_in) [] E0 (tCons (tVar 0) tNil)) (gName 2))
    (tSeq (tAsg (tCall (spD C W_pairs_of) [] E0 (tCons (tOp (rT2 C ixT) (tVar 0) (tC (.int 0))) tNil)) (gName 3))
    (tRet (tCall (spD C W_company_by) [] E0 (tCons (tOp (rT2 C ixT) (tVar 0) (tC (.int 0))) (tCons (tCB (rTn C dictT) (tCons (tLc (iList C.K (tVar 3)) (gName 4) tYes (tTup (tCons (tVar 4) (tCons (tCall (spD C W_answer_of) [] E0 (tCons (tVar 2) (tCons (tVar 1) (tCons (tOp (rT2 C ixT) (tVar 4) (tC (.int 0))) (tCons (tOp (rT2 C ixT) (tVar 4) (tC (.int 1))) tNil))))) tNil))) [4]) tNil)) tNil))))))
theorem d_behind {P : Program} {w : World} {K : PySem.W.Frag} {mg : Str → Option Value} {base : Heap} {k : Nat} {f : Addr} {cdv : Value} {A : Around} {outer : List Env} {s : Shared} {H : Hp} {E : XK} {W_ties_in : List Sl → PK → Prop} {W_pairs_of : List Sl → PK → Prop} {W_company_by : List Sl → PK → Prop} {W_answer_of : List Sl → PK → Prop}
    (hr : Room k (A.deeper (envOfC "behind" (defScope s_behind) s.heap.objs.size f cdv))) (B : Blt mg) (h_ties_in : Has P w K mg base k "ties_in" W_ties_in) (h_pairs_of : Has P w K mg base k "pairs_of" W_pairs_of) (h_company_by : Has P w K mg base k "company_by" W_company_by) (h_answer_of : Has P w K mg base k "answer_of" W_answer_of) :
    PSs (cxOf CX0 P w K mg base n_behind "behind" (defScope s_behind) f cdv A outer s H E).nox (defBody s_behind) (t_behind ⟨P, w, K⟩ W_ties_in W_pairs_of W_company_by W_answer_of) :=
  (pss_cons (ps_set (i := 2) sc_behind.nd rfl (.inr rfl) (pe_callH h_ties_in hr (Nat.le_refl _) (by rfl) (pa_cons (pv 0) pa_nil)))
    (pss_cons (ps_set (i := 3) sc_behind.nd rfl (.inl rfl) (pe_callH h_pairs_of hr (Nat.le_refl _) (by rfl) (pa_cons (pe_ix ix_Q (pv 0) pe_int (fun _ _ => rfl)) pa_nil)))
    (pss_one (ps_ret (pe_callH h_company_by hr (Nat.le_refl _) (by rfl) (pa_cons (pe_ix ix_Q (pv 0) pe_int (fun _ _ => rfl)) (pa_cons (pe_callTy (cr_dictQ rfl (u64 hr)) (by rfl) B.dict bt_dict (pa_cons (pe_lc (own := [("pair", 4)]) rfl sc_behind.nd (pi_list (pv 3)) (blkOk_by (by show blkC n_behind (defScope s_behind) _ _ = true; decide +kernel)) (fun _ _ _ _ _ => (pg_name (i := 4) sc_behind.nd rfl (.inl rfl))) (fun _ _ _ _ _ => pts_nil) (fun _ _ _ _ _ => (pe_tup (pa_cons (pv 4) (pa_cons (pe_callH h_answer_of hr (Nat.le_refl _) (by rfl) (pa_cons (pv 2) (pa_cons (pv 1) (pa_cons (pe_ix ix_Q (pv 4) pe_int (fun _ _ => rfl)) (pa_cons (pe_ix ix_Q (pv 4) pe_int (fun _ _ => rfl)) pa_nil))))) pa_nil))))) pa_nil)) pa_nil)))))))
abbrev s_run_by : Stmt := topS 17
abbrev n_run_by : List Str := ["company", "script", "found", "left", "item"]
abbrev p_run_by : List Str := ["company", "script"]
theorem sc_run_by : FnScope n_run_by p_run_by (defScope s_run_by) := ⟨rfl, rfl, rfl, by decide +kernel, rfl, by decide +kernel, by decide +kernel⟩
theorem bn_run_by (kV doc pm : Value) (an : Option Addr) (cdv ct : Value) (us : List Value) (hl : us.length = (p_run_by).length) : bindArgs (PySem.W.fnOf "run_by" "run_by" (defArgs s_run_by) (defBody s_run_by) (defScope s_run_by) .none kV doc pm an cdv ct) ⟨us, []⟩ = pure ((p_run_by).zip us) := match us, hl with | [_, _], _ => rfl
def t_run_by (C : Ct) (W_pair_of : List Sl → PK → Prop) (W_behind : List Sl → PK → Prop) : TS :=
  (tSeq (tPar 2 3 (tCons (tLst tNil) (tCons (tCB (rTn C listT) (tCons (tVar 1) tNil)) tNil)))
    (tSeq (tWhile (tTest (tOp (rT2 C neT) (tVar 3) (tLst tNil))) (tSeq (tPar 4 3 (tCons (tOp (rT2 C ixT) (tVar 3) (tC (.int 0))) (tCons (tSl (rSlL C.K) (tVar 3) (tPart (tC (.int 1))) tNoPart) tNil)))
    (tIfS (tTest (tOp (rT2 C eqT) (tOp (rT2 C ixT) (tVar 4) (tC (.int 0))) (tC (.str "ask")))) (tAsg (tOp (rT2 C addT) (tCB (rTn C listT) (tCons (tIf (tTest (tOp (rT2 C (inT false)) (tCall (spD C W_pair_of) [] E0 (tCons (tOp (rT2 C ixT) (tVar 4) (tC (.int 1))) (tCons (tOp (rT2 C ixT) (tVar 4) (tC (.int 2))) tNil))) (tOp (rT2 C ixT) (tVar 0) (tC (.int 1))))) (tOp (rT2 C ixT) (tVar 4) (tC (.int 3))) (tOp (rT2 C ixT) (tVar 4) (tC (.int 4)))) tNil)) (tVar 3)) (gName 3)) (tPar 0 2 (tCons (tCall (spD C W_behind) [] E0 (tCons (tVar 0) (tCons (tVar 4) tNil))) (tCons (tOp (rT2 C addT) (tVar 2) (tLst (tCons (tVar 4) tNil))) tNil))))))
    (tRet (tTup (tCons (tVar 0) (tCons (tVar 2) tNil))))))
theorem d_run_by {P : Program} {w : World} {K : PySem.W.Frag} {mg : Str → Option Value} {base : Heap} {k : Nat} {f : Addr} {cdv : Value} {A : Around} {outer : List Env} {s : Shared} {H : Hp} {E : XK} {W_pair_of : List Sl → PK → Prop} {W_behind : List Sl → PK → Prop}
    (hr : Room k (A.deeper (envOfC "run_by" (defScope s_run_by) s.heap.objs.size f cdv))) (B : Blt mg) (h_pair_of : Has P w K mg base k "pair_of" W_pair_of) (h_behind : Has P w K mg base k "behind" W_behind) :
    PSs (cxOf CX0 P w K mg base n_run_by "run_by" (defScope s_run_by) f cdv A outer s H E).nox (defBody s_run_by) (t_run_by ⟨P, w, K⟩ W_pair_of W_behind) :=
  (pss_cons (ps_par (i := 2) (j := 3) rfl sc_run_by.nd rfl rfl (by decide) rfl rfl (pa_cons (pe_lst pa_nil) (pa_cons (pe_callTy (cr_listQ) (by rfl) B.list bt_list (pa_cons (pv 1) pa_nil)) pa_nil)) (by rfl))
    (pss_cons (ps_while PassesOwn.never (pt_cmpR (op_neQ (u64 hr)) (pv 3) (pe_lst pa_nil) (nomark _)) (pss_cons (ps_par (i := 4) (j := 3) rfl sc_run_by.nd rfl rfl (by decide) rfl rfl (pa_cons (pe_ix ix_Q (pv 3) pe_int (fun _ _ => rfl)) (pa_cons (pe_slice sl_list (pv 3) (po_some pe_int) po_none) pa_nil)) (by rfl))
    (pss_one (ps_if (pt_cmpR (op_eqQ (u64 hr)) (pe_ix ix_Q (pv 4) pe_int (fun _ _ => rfl)) pe_str (nomark _)) (pss_one (ps_set (i := 3) sc_run_by.nd rfl (.inl rfl) (pe_op op_addQ (pe_callTy (cr_listQ) (by rfl) B.list bt_list (pa_cons (pe_ifExp (pt_cmpR (op_inQ (u65 hr)) (pe_callH h_pair_of hr (Nat.le_refl _) (by rfl) (pa_cons (pe_ix ix_Q (pv 4) pe_int (fun _ _ => rfl)) (pa_cons (pe_ix ix_Q (pv 4) pe_int (fun _ _ => rfl)) pa_nil))) (pe_ix ix_Q (pv 0) pe_int (fun _ _ => rfl)) (by rfl)) (pe_ix ix_Q (pv 4) pe_int (fun _ _ => rfl)) (pe_ix ix_Q (pv 4) pe_int (fun _ _ => rfl))) pa_nil)) (pv 3)))) (pss_one (ps_par (i := 0) (j := 2) rfl sc_run_by.nd rfl rfl (by decide) rfl rfl (pa_cons (pe_callH h_behind hr (Nat.le_refl _) (by rfl) (pa_cons (pv 0) (pa_cons (pv 4) pa_nil))) (pa_cons (pe_op op_addQ (pv 2) (pe_lst (pa_cons (pv 4) pa_nil))) pa_nil)) (by rfl)))))))
    (pss_one (ps_ret (pe_tup (pa_cons (pv 0) (pa_cons (pv 2) pa_nil)))))))
end DB1

section DB2
open PySem PySem.Spec PyProof.Rows L2
abbrev s_are_two_named : Stmt := topS 22
abbrev n_are_two_named : List Str := ["named", "one", "other"]
abbrev p_are_two_named : List Str := ["named", "one", "other"]
theorem sc_are_two_named : FnScope n_are_two_named p_are_two_named (defScope s_are_two_named) := ⟨rfl, rfl, rfl, by decide +kernel, rfl, by decide +kernel, by decide +kernel⟩
theorem bn_are_two_named (kV doc pm : Value) (an : Option Addr) (cdv ct : Value) (us : List Value) (hl : us.length = (p_are_two_named).length) : bindArgs (PySem.W.fnOf "are_two_named" "are_two_named" (defArgs s_are_two_named) (defBody s_are_two_named) (defScope s_are_two_named) .none kV doc pm an cdv ct) ⟨us, []⟩ = pure ((p_are_two_named).zip us) := match us, hl with | [_, _, _], _ => rfl
def t_are_two_named (C : Ct) (W_is_whole : List Sl → PK → Prop) : TS :=
  (tRet (tAndV (tCall (spD C W_is_whole) [] E0 (tCons (tVar 1) (tCons (tC (.int 0)) (tCons (tOp (rT2 C subT) (tVar 0) (tC (.int 1))) tNil)))) (tAndV (tCall (spD C W_is_whole) [] E0 (tCons (tVar 2) (tCons (tC (.int 0)) (tCons (tOp (rT2 C subT) (tVar 0) (tC (.int 1))) tNil)))) (tOp (rT2 C neT) (tVar 1) (tVar 2)))))
theorem d_are_two_named {P : Program} {w : World} {K : PySem.W.Frag} {mg : Str → Option Value} {base : Heap} {k : Nat} {f : Addr} {cdv : Value} {A : Around} {outer : List Env} {s : Shared} {H : Hp} {E : XK} {W_is_whole : List Sl → PK → Prop}
    (hr : Room k (A.deeper (envOfC "are_two_named" (defScope s_are_two_named) s.heap.objs.size f cdv))) (B : Blt mg) (h_is_whole : Has P w K mg base k "is_whole" W_is_whole) :
    PSs (cxOf CX0 P w K mg base n_are_two_named "are_two_named" (defScope s_are_two_named) f cdv A outer s H E).nox (defBody s_are_two_named) (t_are_two_named ⟨P, w, K⟩ W_is_whole) :=
  (pss_one (ps_ret (pe_and (pe_callH h_is_whole hr (Nat.le_refl _) (by rfl) (pa_cons (pv 1) (pa_cons pe_int (pa_cons (pe_op op_subQ (pv 0) pe_int) pa_nil)))) (pe_and (pe_callH h_is_whole hr (Nat.le_refl _) (by rfl) (pa_cons (pv 2) (pa_cons pe_int (pa_cons (pe_op op_subQ (pv 0) pe_int) pa_nil)))) (pe_one (pe_cmpR (op_neQ (u64 hr)) (pv 1) (pv 2) (nomark _)))))))
abbrev s_are_answers : Stmt := topS 23
abbrev n_are_answers : List Str := ["value", "many"]
abbrev p_are_answers : List Str := ["value", "many"]
theorem sc_are_answers : FnScope n_are_answers p_are_answers (defScope s_are_answers) := ⟨rfl, rfl, rfl, by decide +kernel, rfl, by decide +kernel, by decide +kernel⟩
theorem bn_are_answers (kV doc pm : Value) (an : Option Addr) (cdv ct : Value) (us : List Value) (hl : us.length = (p_are_answers).length) : bindArgs (PySem.W.fnOf "are_answers" "are_answers" (defArgs s_are_answers) (defBody s_are_answers) (defScope s_are_answers) .none kV doc pm an cdv ct) ⟨us, []⟩ = pure ((p_are_answers).zip us) := match us, hl with | [_, _], _ => rfl
def t_are_answers (C : Ct) (W_are_whole : List Sl → PK → Prop) (W_is_tuple_of : List Sl → PK → Prop) : TS :=
  (tRet (tAndV (tCall (spD C W_is_tuple_of) [] E0 (tCons (tVar 0) (tCons (tVar 1) (tCons (tVar 1) tNil)))) (tCall (spD C W_are_whole) [] E0 (tCons (tVar 0) (tCons (tC (.int 0)) (tCons (tC (.int 1)) tNil))))))
theorem d_are_answers {P : Program} {w : World} {K : PySem.W.Frag} {mg : Str → Option Value} {base : Heap} {k : Nat} {f : Addr} {cdv : Value} {A : Around} {outer : List Env} {s : Shared} {H : Hp} {E : XK} {W_are_whole : List Sl → PK → Prop} {W_is_tuple_of : List Sl → PK → Prop}
    (hr : Room k (A.deeper (envOfC "are_answers" (defScope s_are_answers) s.heap.objs.size f cdv))) (B : Blt mg) (h_are_whole : Has P w K mg base k "are_whole" W_are_whole) (h_is_tuple_of : Has P w K mg base k "is_tuple_of" W_is_tuple_of) :
    PSs (cxOf CX0 P w K mg base n_are_answers "are_answers" (defScope s_are_answers) f cdv A outer s H E).nox (defBody s_are_answers) (t_are_answers ⟨P, w, K⟩ W_are_whole W_is_tuple_of) :=
  (pss_one (ps_ret (pe_and (pe_callH h_is_tuple_of hr (Nat.le_refl _) (by rfl) (pa_cons (pv 0) (pa_cons (pv 1) (pa_cons (pv 1) pa_nil)))) (pe_one (pe_callH h_are_whole hr (Nat.le_refl _) (by rfl) (pa_cons (pv 0) (pa_cons pe_int (pa_cons pe_int pa_nil))))))))
abbrev s_fits_deed : Stmt := topS 24
abbrev n_fits_deed : List Str := ["named", "value"]
abbrev p_fits_deed : List Str := ["named", "value"]
theorem sc_fits_deed : FnScope n_fits_deed p_fits_deed (defScope s_fits_deed) := ⟨rfl, rfl, rfl, by decide +kernel, rfl, by decide +kernel, by decide +kernel⟩
theorem bn_fits_deed (kV doc pm : Value) (an : Option Addr) (cdv ct : Value) (us : List Value) (hl : us.length = (p_fits_deed).length) : bindArgs (PySem.W.fnOf "fits_deed" "fits_deed" (defArgs s_fits_deed) (defBody s_fits_deed) (defScope s_fits_deed) .none kV doc pm an cdv ct) ⟨us, []⟩ = pure ((p_fits_deed).zip us) := match us, hl with | [_, _], _ => rfl
def t_fits_deed (C : Ct) (W_is_tuple_of : List Sl → PK → Prop) (W_are_answers : List Sl → PK → Prop) (W_is_whole : List Sl → PK → Prop) (W_are_two_named : List Sl → PK → Prop) (bW : Addr) : TS :=
  (tSeq (tIfS (tOr (tNot (tB (tCall (spD C W_is_tuple_of) [] E0 (tCons (tVar 1) (tCons (tC (.int 3)) (tCons (tC (.int 4)) tNil)))))) (tNot (tB (tCB (rIsi C.K) (tCons (tOp (rT2 C ixT) (tVar 1) (tC (.int 0))) (tCons (tC (.ty "str")) tNil)))))) (tRet (tC (.bl false))) tNext)
    (tSeq (tIfS (tTest (tOp (rT2 C eqT) (tOp (rT2 C ixT) (tVar 1) (tC (.int 0))) (tC (.str "pairs")))) (tRet (tAndV (tOp (rT2 C eqT) (tCB (rTn C lenT) (tCons (tVar 1) tNil)) (tC (.int 3))) (tAndV (tCall (spD C W_is_whole) [] E0 (tCons (tOp (rT2 C ixT) (tVar 1) (tC (.int 1))) (tCons (tC (.int 0)) (tCons (tOp (rT2 C subT) (tVar 0) (tC (.int 1))) tNil)))) (tCall (spD C W_are_answers) [] E0 (tCons (tOp (rT2 C ixT) (tVar 1) (tC (.int 2))) (tCons (tC (.int 6)) tNil)))))) tNext)
    (tSeq (tIfS (tOr (tTest (tOp (rT2 C neT) (tCB (rTn C lenT) (tCons (tVar 1) tNil)) (tC (.int 4)))) (tNot (tB (tCall (spD C W_are_two_named) [] E0 (tCons (tVar 0) (tCons (tOp (rT2 C ixT) (tVar 1) (tC (.int 1))) (tCons (tOp (rT2 C ixT) (tVar 1) (tC (.int 2))) tNil))))))) (tRet (tC (.bl false))) tNext)
    (tSeq (tIfS (tTest (tOp (rT2 C eqT) (tOp (rT2 C ixT) (tVar 1) (tC (.int 0))) (tC (.str "takes")))) (tRet (tCall (spD C W_are_answers) [] E0 (tCons (tOp (rT2 C ixT) (tVar 1) (tC (.int 3))) (tCons (tC (.int 4)) tNil)))) tNext)
    (tRet (tAndV (tOp (rT2 C eqT) (tOp (rT2 C ixT) (tVar 1) (tC (.int 0))) (tC (.str "tie"))) (tAndV (tCB (rIsi C.K) (tCons (tOp (rT2 C ixT) (tVar 1) (tC (.int 3))) (tCons (tC (.ty "str")) tNil))) (tOp (rIn C.K false) (tOp (rT2 C ixT) (tVar 1) (tC (.int 3))) (tC (.ref bW))))))))))
theorem d_fits_deed {P : Program} {w : World} {K : PySem.W.Frag} {mg : Str → Option Value} {base : Heap} {k : Nat} {f : Addr} {cdv : Value} {A : Around} {outer : List Env} {s : Shared} {H : Hp} {E : XK} {W_is_tuple_of : List Sl → PK → Prop} {W_are_answers : List Sl → PK → Prop} {W_is_whole : List Sl → PK → Prop} {W_are_two_named : List Sl → PK → Prop} {bW : Addr}
    (hr : Room k (A.deeper (envOfC "fits_deed" (defScope s_fits_deed) s.heap.objs.size f cdv))) (B : Blt mg) (h_is_tuple_of : Has P w K mg base k "is_tuple_of" W_is_tuple_of) (h_are_answers : Has P w K mg base k "are_answers" W_are_answers) (h_is_whole : Has P w K mg base k "is_whole" W_is_whole) (h_are_two_named : Has P w K mg base k "are_two_named" W_are_two_named) (gWORDS : ∃ u, mg "WORDS" = some u ∧ RelV (.ref bW) u) :
    PSs (cxOf CX0 P w K mg base n_fits_deed "fits_deed" (defScope s_fits_deed) f cdv A outer s H E).nox (defBody s_fits_deed) (t_fits_deed ⟨P, w, K⟩ W_is_tuple_of W_are_answers W_is_whole W_are_two_named bW) :=
  (pss_cons (ps_if (PW.pt (pw_or (pt_not (pt_val (pe_callH h_is_tuple_of hr (Nat.le_refl _) (by rfl) (pa_cons (pv 1) (pa_cons pe_int (pa_cons pe_int pa_nil)))))) (pw_or1 (pt_not (pt_val (pe_callB call_isi (by rfl) B.isinstance bt_isinstance (pa_cons (pe_ix ix_Q (pv 1) pe_int (fun _ _ => rfl)) (pa_cons (pe_bltn (v := .ty "str") (by rfl) B.str bt_str rfl) pa_nil)))))))) (pss_one (ps_ret pe_bl)) pss_nil)
    (pss_cons (ps_if (pt_cmpR (op_eqQ (u64 hr)) (pe_ix ix_Q (pv 1) pe_int (fun _ _ => rfl)) pe_str (nomark _)) (pss_one (ps_ret (pe_and (pe_cmpR (op_eqQ (u64 hr)) (pe_callB (cr_lenQ) (by rfl) B.len bt_len (pa_cons (pv 1) pa_nil)) pe_int (nomark _)) (pe_and (pe_callH h_is_whole hr (Nat.le_refl _) (by rfl) (pa_cons (pe_ix ix_Q (pv 1) pe_int (fun _ _ => rfl)) (pa_cons pe_int (pa_cons (pe_op op_subQ (pv 0) pe_int) pa_nil)))) (pe_one (pe_callH h_are_answers hr (Nat.le_refl _) (by rfl) (pa_cons (pe_ix ix_Q (pv 1) pe_int (fun _ _ => rfl)) (pa_cons pe_int pa_nil)))))))) pss_nil)
    (pss_cons (ps_if (PW.pt (pw_or (pt_cmpR (op_neQ (u64 hr)) (pe_callB (cr_lenQ) (by rfl) B.len bt_len (pa_cons (pv 1) pa_nil)) pe_int (nomark _)) (pw_or1 (pt_not (pt_val (pe_callH h_are_two_named hr (Nat.le_refl _) (by rfl) (pa_cons (pv 0) (pa_cons (pe_ix ix_Q (pv 1) pe_int (fun _ _ => rfl)) (pa_cons (pe_ix ix_Q (pv 1) pe_int (fun _ _ => rfl)) pa_nil))))))))) (pss_one (ps_ret pe_bl)) pss_nil)
    (pss_cons (ps_if (pt_cmpR (op_eqQ (u64 hr)) (pe_ix ix_Q (pv 1) pe_int (fun _ _ => rfl)) pe_str (nomark _)) (pss_one (ps_ret (pe_callH h_are_answers hr (Nat.le_refl _) (by rfl) (pa_cons (pe_ix ix_Q (pv 1) pe_int (fun _ _ => rfl)) (pa_cons pe_int pa_nil))))) pss_nil)
    (pss_one (ps_ret (pe_and (pe_cmpR (op_eqQ (u64 hr)) (pe_ix ix_Q (pv 1) pe_int (fun _ _ => rfl)) pe_str (nomark _)) (pe_and (pe_callB call_isi (by rfl) B.isinstance bt_isinstance (pa_cons (pe_ix ix_Q (pv 1) pe_int (fun _ _ => rfl)) (pa_cons (pe_bltn (v := .ty "str") (by rfl) B.str bt_str rfl) pa_nil))) (pe_one (pe_cmpR op_in_seq (pe_ix ix_Q (pv 1) pe_int (fun _ _ => rfl)) (pe_globE (by rfl) gWORDS) (by rfl)))))))))))
abbrev s_fits_choice : Stmt := topS 25
abbrev n_fits_choice : List Str := ["named", "value"]
abbrev p_fits_choice : List Str := ["named", "value"]
theorem sc_fits_choice : FnScope n_fits_choice p_fits_choice (defScope s_fits_choice) := ⟨rfl, rfl, rfl, by decide +kernel, rfl, by decide +kernel, by decide +kernel⟩
theorem bn_fits_choice (kV doc pm : Value) (an : Option Addr) (cdv ct : Value) (us : List Value) (hl : us.length = (p_fits_choice).length) : bindArgs (PySem.W.fnOf "fits_choice" "fits_choice" (defArgs s_fits_choice) (defBody s_fits_choice) (defScope s_fits_choice) .none kV doc pm an cdv ct) ⟨us, []⟩ = pure ((p_fits_choice).zip us) := match us, hl with | [_, _], _ => rfl
def t_fits_choice (C : Ct) (W_is_tuple_of : List Sl → PK → Prop) (W_are_two_named : List Sl → PK → Prop) : TS :=
  (tSeq (tIfS (tOr (tNot (tB (tCall (spD C W_is_tuple_of) [] E0 (tCons (tVar 1) (tCons (tC (.int 5)) (tCons (tC (.int 5)) tNil)))))) (tOr (tNot (tB (tCB (rIsi C.K) (tCons (tOp (rT2 C ixT) (tVar 1) (tC (.int 0))) (tCons (tC (.ty "str")) tNil))))) (tTest (tOp (rT2 C neT) (tOp (rT2 C ixT) (tVar 1) (tC (.int 0))) (tC (.str "ask")))))) (tRet (tC (.bl false))) tNext)
    (tRet (tAndV (tCall (spD C W_are_two_named) [] E0 (tCons (tVar 0) (tCons (tOp (rT2 C ixT) (tVar 1) (tC (.int 1))) (tCons (tOp (rT2 C ixT) (tVar 1) (tC (.int 2))) tNil)))) (tAndV (tCB (rIsi C.K) (tCons (tOp (rT2 C ixT) (tVar 1) (tC (.int 3))) (tCons (tC (.ty "tuple")) tNil))) (tCB (rIsi C.K) (tCons (tOp (rT2 C ixT) (tVar 1) (tC (.int 4))) (tCons (tC (.ty "tuple")) tNil)))))))
theorem d_fits_choice {P : Program} {w : World} {K : PySem.W.Frag} {mg : Str → Option Value} {base : Heap} {k : Nat} {f : Addr} {cdv : Value} {A : Around} {outer : List Env} {s : Shared} {H : Hp} {E : XK} {W_is_tuple_of : List Sl → PK → Prop} {W_are_two_named : List Sl → PK → Prop}
    (hr : Room k (A.deeper (envOfC "fits_choice" (defScope s_fits_choice) s.heap.objs.size f cdv))) (B : Blt mg) (h_is_tuple_of : Has P w K mg base k "is_tuple_of" W_is_tuple_of) (h_are_two_named : Has P w K mg base k "are_two_named" W_are_two_named) :
    PSs (cxOf CX0 P w K mg base n_fits_choice "fits_choice" (defScope s_fits_choice) f cdv A outer s H E).nox (defBody s_fits_choice) (t_fits_choice ⟨P, w, K⟩ W_is_tuple_of W_are_two_named) :=
  (pss_cons (ps_if (PW.pt (pw_or (pt_not (pt_val (pe_callH h_is_tuple_of hr (Nat.le_refl _) (by rfl) (pa_cons (pv 1) (pa_cons pe_int (pa_cons pe_int pa_nil)))))) (pw_or (pt_not (pt_val (pe_callB call_isi (by rfl) B.isinstance bt_isinstance (pa_cons (pe_ix ix_Q (pv 1) pe_int (fun _ _ => rfl)) (pa_cons (pe_bltn (v := .ty "str") (by rfl) B.str bt_str rfl) pa_nil))))) (pw_or1 (pt_cmpR (op_neQ (u64 hr)) (pe_ix ix_Q (pv 1) pe_int (fun _ _ => rfl)) pe_str (nomark _)))))) (pss_one (ps_ret pe_bl)) pss_nil)
    (pss_one (ps_ret (pe_and (pe_callH h_are_two_named hr (Nat.le_refl _) (by rfl) (pa_cons (pv 0) (pa_cons (pe_ix ix_Q (pv 1) pe_int (fun _ _ => rfl)) (pa_cons (pe_ix ix_Q (pv 1) pe_int (fun _ _ => rfl)) pa_nil)))) (pe_and (pe_callB call_isi (by rfl) B.isinstance bt_isinstance (pa_cons (pe_ix ix_Q (pv 1) pe_int (fun _ _ => rfl)) (pa_cons (pe_bltn (v := .ty "tuple") (by rfl) B.tuple bt_tuple rfl) pa_nil))) (pe_one (pe_callB call_isi (by rfl) B.isinstance bt_isinstance (pa_cons (pe_ix ix_Q (pv 1) pe_int (fun _ _ => rfl)) (pa_cons (pe_bltn (v := .ty "tuple") (by rfl) B.tuple bt_tuple rfl) pa_nil)))))))))
abbrev s_items_in : Stmt := topS 26
abbrev n_items_in : List Str := ["named", "value", "found", "line", "script", "depth", "item"]
abbrev p_items_in : List Str := ["named", "value"]
theorem sc_items_in : FnScope n_items_in p_items_in (defScope s_items_in) := ⟨rfl, rfl, rfl, by decide +kernel, rfl, by decide +kernel, by decide +kernel⟩
theorem bn_items_in (kV doc pm : Value) (an : Option Addr) (cdv ct : Value) (us : List Value) (hl : us.length = (p_items_in).length) : bindArgs (PySem.W.fnOf "items_in" "items_in" (defArgs s_items_in) (defBody s_items_in) (defScope s_items_in) .none kV doc pm an cdv ct) ⟨us, []⟩ = pure ((p_items_in).zip us) := match us, hl with | [_, _], _ => rfl
def t_items_in (C : Ct) (W_fits_choice : List Sl → PK → Prop) (W_fits_deed : List Sl → PK → Prop) : TS :=
  (tSeq (tPar 2 3 (tCons (tLst tNil) (tCons (tLst (tCons (tTup (tCons (tVar 1) (tCons (tC (.int 0)) tNil))) tNil)) tNil)))
    (tSeq (tWhile (tTest (tOp (rT2 C neT) (tVar 3) (tLst tNil))) (tSeq (tAsg (tTup (tCons (tOp (rT2 C ixT) (tVar 3) (tC (.int 0))) (tCons (tSl (rSlL C.K) (tVar 3) (tPart (tC (.int 1))) tNoPart) tNil))) (gTup C.K 2 (gCons (gTup C.K 2 (gCons (gName 4) (gCons (gName 5) gNil))) (gCons (gName 3) gNil))))
    (tSeq (tAsg (tOp (rT2 C addT) (tVar 2) (tLc (iTup C.K (tVar 4)) (gName 6) tYes (tTup (tCons (tVar 6) (tCons (tVar 5) tNil))) [6])) (gName 2))
    (tSeq (tIfS (tTest (tOp (rT2 C gtT) (tCB (rTn C lenT) (tCons (tVar 2) tNil)) (tC (.int 30)))) (tRet (tC .non)) tNext)
    (tFor (iTup C.K (tVar 4)) (gName 6) (tIfS (tB (tCall (spD C W_fits_choice) [] E0 (tCons (tVar 0) (tCons (tVar 6) tNil)))) (tAsg (tOp (rT2 C addT) (tVar 3) (tLst (tCons (tTup (tCons (tOp (rT2 C ixT) (tVar 6) (tC (.int 3))) (tCons (tOp (rT2 C addT) (tVar 5) (tC (.int 1))) tNil))) (tCons (tTup (tCons (tOp (rT2 C ixT) (tVar 6) (tC (.int 4))) (tCons (tOp (rT2 C addT) (tVar 5) (tC (.int 1))) tNil))) tNil)))) (gName 3)) (tIfS (tNot (tB (tCall (spD C W_fits_deed) [] E0 (tCons (tVar 0) (tCons (tVar 6) tNil))))) (tRet (tC .non)) tNext)))))))
    (tRet (tVar 2))))
theorem d_items_in {P : Program} {w : World} {K : PySem.W.Frag} {mg : Str → Option Value} {base : Heap} {k : Nat} {f : Addr} {cdv : Value} {A : Around} {outer : List Env} {s : Shared} {H : Hp} {E : XK} {W_fits_choice : List Sl → PK → Prop} {W_fits_deed : List Sl → PK → Prop}
    (hr : Room k (A.deeper (envOfC "items_in" (defScope s_items_in) s.heap.objs.size f cdv))) (B : Blt mg) (h_fits_choice : Has P w K mg base k "fits_choice" W_fits_choice) (h_fits_deed : Has P w K mg base k "fits_deed" W_fits_deed) (gITEMS : ∃ u, mg "ITEMS" = some u ∧ RelV (.int 30) u) :
    PSs (cxOf CX0 P w K mg base n_items_in "items_in" (defScope s_items_in) f cdv A outer s H E).nox (defBody s_items_in) (t_items_in ⟨P, w, K⟩ W_fits_choice W_fits_deed) :=
  (pss_cons (ps_par (i := 2) (j := 3) rfl sc_items_in.nd rfl rfl (by decide) rfl rfl (pa_cons (pe_lst pa_nil) (pa_cons (pe_lst (pa_cons (pe_tup (pa_cons (pv 1) (pa_cons pe_int pa_nil))) pa_nil)) pa_nil)) (by rfl))
    (pss_cons (ps_while PassesOwn.never (pt_cmpR (op_neQ (u64 hr)) (pv 3) (pe_lst pa_nil) (nomark _)) (pss_cons (ps_asg (pe_tup (pa_cons (pe_ix ix_Q (pv 3) pe_int (fun _ _ => rfl)) (pa_cons (pe_slice sl_list (pv 3) (po_some pe_int) po_none) pa_nil))) (pg_tup rfl (pgs_cons (pg_tup rfl (pgs_cons (pg_name (i := 4) sc_items_in.nd rfl (.inl rfl)) (pgs_cons (pg_name (i := 5) sc_items_in.nd rfl (.inr rfl)) pgs_nil))) (pgs_cons (pg_name (i := 3) sc_items_in.nd rfl (.inl rfl)) pgs_nil))))
    (pss_cons (ps_set (i := 2) sc_items_in.nd rfl (.inl rfl) (pe_op op_addQ (pv 2) (pe_lc (own := [("item", 6)]) rfl sc_items_in.nd (pi_tup (pv 4)) (blkOk_by (by show blkC n_items_in (defScope s_items_in) _ _ = true; decide +kernel)) (fun _ _ _ _ _ => (pg_name (i := 6) sc_items_in.nd rfl (.inl rfl))) (fun _ _ _ _ _ => pts_nil) (fun _ _ _ _ _ => (pe_tup (pa_cons (pv 6) (pa_cons (pv 5) pa_nil)))))))
    (pss_cons (ps_if (pt_cmpR op_gtQ (pe_callB (cr_lenQ) (by rfl) B.len bt_len (pa_cons (pv 2) pa_nil)) (pe_globE (by rfl) gITEMS) (nomark _)) (pss_one (ps_ret pe_non)) pss_nil)
    (pss_one (ps_for PassesOwn.never rfl (pi_tup (pv 4)) (pg_name (i := 6) sc_items_in.nd rfl (.inl rfl)) (pss_one (ps_if (pt_val (pe_callH h_fits_choice hr (Nat.le_refl _) (by rfl) (pa_cons (pv 0) (pa_cons (pv 6) pa_nil)))) (pss_one (ps_set (i := 3) sc_items_in.nd rfl (.inl rfl) (pe_op op_addQ (pv 3) (pe_lst (pa_cons (pe_tup (pa_cons (pe_ix ix_Q (pv 6) pe_int (fun _ _ => rfl)) (pa_cons (pe_op op_addQ (pv 5) pe_int) pa_nil))) (pa_cons (pe_tup (pa_cons (pe_ix ix_Q (pv 6) pe_int (fun _ _ => rfl)) (pa_cons (pe_op op_addQ (pv 5) pe_int) pa_nil))) pa_nil)))))) (pss_one (ps_if (pt_not (pt_val (pe_callH h_fits_deed hr (Nat.le_refl _) (by rfl) (pa_cons (pv 0) (pa_cons (pv 6) pa_nil))))) (pss_one (ps_ret pe_non)) pss_nil))))))))))
    (pss_one (ps_ret (pv 2)))))
abbrev s_fits_script : Stmt := topS 27
abbrev n_fits_script : List Str := ["named", "value", "items", "item", "depth"]
abbrev p_fits_script : List Str := ["named", "value"]
theorem sc_fits_script : FnScope n_fits_script p_fits_script (defScope s_fits_script) := ⟨rfl, rfl, rfl, by decide +kernel, rfl, by decide +kernel, by decide +kernel⟩
theorem bn_fits_script (kV doc pm : Value) (an : Option Addr) (cdv ct : Value) (us : List Value) (hl : us.length = (p_fits_script).length) : bindArgs (PySem.W.fnOf "fits_script" "fits_script" (defArgs s_fits_script) (defBody s_fits_script) (defScope s_fits_script) .none kV doc pm an cdv ct) ⟨us, []⟩ = pure ((p_fits_script).zip us) := match us, hl with | [_, _], _ => rfl
def t_fits_script (C : Ct) (W_items_in : List Sl → PK → Prop) : TS :=
  (tSeq (tAsg (tIf (tB (tCB (rIsi C.K) (tCons (tVar 1) (tCons (tC (.ty "tuple")) tNil)))) (tCall (spD C W_items_in) [] E0 (tCons (tVar 0) (tCons (tVar 1) tNil))) (tC .non)) (gName 2))
    (tSeq (tIfS (tB (tIsN (tVar 2))) (tRet (tC (.bl false))) tNext)
    (tRet (tCB (rTn C allT) (tCons (tLc (iList C.K (tVar 2)) (gTup C.K 2 (gCons (gName 3) (gCons (gName 4) gNil))) (tTest (tOp (rT2 C eqT) (tOp (rT2 C ixT) (tVar 3) (tC (.int 0))) (tC (.str "ask")))) (tOp (rT2 C ltT) (tVar 4) (tC (.int 4))) [3, 4]) tNil)))))
theorem d_fits_script {P : Program} {w : World} {K : PySem.W.Frag} {mg : Str → Option Value} {base : Heap} {k : Nat} {f : Addr} {cdv : Value} {A : Around} {outer : List Env} {s : Shared} {H : Hp} {E : XK} {W_items_in : List Sl → PK → Prop}
    (hr : Room k (A.deeper (envOfC "fits_script" (defScope s_fits_script) s.heap.objs.size f cdv))) (B : Blt mg) (h_items_in : Has P w K mg base k "items_in" W_items_in) (gDEEPEST : ∃ u, mg "DEEPEST" = some u ∧ RelV (.int 4) u) :
    PSs (cxOf CX0 P w K mg base n_fits_script "fits_script" (defScope s_fits_script) f cdv A outer s H E).nox (defBody s_fits_script) (t_fits_script ⟨P, w, K⟩ W_items_in) :=
  (pss_cons (ps_set (i := 2) sc_fits_script.nd rfl (.inl rfl) (pe_ifExp (pt_val (pe_callB call_isi (by rfl) B.isinstance bt_isinstance (pa_cons (pv 1) (pa_cons (pe_bltn (v := .ty "tuple") (by rfl) B.tuple bt_tuple rfl) pa_nil)))) (pe_callH h_items_in hr (Nat.le_refl _) (by rfl) (pa_cons (pv 0) (pa_cons (pv 1) pa_nil))) pe_non))
    (pss_cons (ps_if (pt_cmp (pc_isN (pv 2))) (pss_one (ps_ret pe_bl)) pss_nil)
    (pss_one (ps_ret (pe_callB (cr_allQ rfl) (by rfl) B.all bt_all (pa_cons (pe_lc (own := [("item", 3), ("depth", 4)]) rfl sc_fits_script.nd (pi_list (pv 2)) (blkOk_by (by show blkC n_fits_script (defScope s_fits_script) _ _ = true; decide +kernel)) (fun _ _ _ _ _ => (pg_tup rfl (pgs_cons (pg_name (i := 3) sc_fits_script.nd rfl (.inl rfl)) (pgs_cons (pg_name (i := 4) sc_fits_script.nd rfl (.inl rfl)) pgs_nil)))) (fun _ _ _ _ _ => (pts_one (pt_cmpR (op_eqQ (u64 hr)) (pe_ix ix_Q (pv 3) pe_int (fun _ _ => rfl)) pe_str (nomark _)))) (fun _ _ _ _ _ => (pe_cmpR op_ltQ (pv 4) (pe_globE (by rfl) gDEEPEST) (nomark _)))) pa_nil))))))
abbrev s_need_scripts : Stmt := topS 29
abbrev n_need_scripts : List Str := ["named", "value", "script"]
abbrev p_need_scripts : List Str := ["named", "value"]
theorem sc_need_scripts : FnScope n_need_scripts p_need_scripts (defScope s_need_scripts) := ⟨rfl, rfl, rfl, by decide +kernel, rfl, by decide +kernel, by decide +kernel⟩
theorem bn_need_scripts (kV doc pm : Value) (an : Option Addr) (cdv ct : Value) (us : List Value) (hl : us.length = (p_need_scripts).length) : bindArgs (PySem.W.fnOf "need_scripts" "need_scripts" (defArgs s_need_scripts) (defBody s_need_scripts) (defScope s_need_scripts) .none kV doc pm an cdv ct) ⟨us, []⟩ = pure ((p_need_scripts).zip us) := match us, hl with | [_, _], _ => rfl
def t_need_scripts (C : Ct) (W_fits_script : List Sl → PK → Prop) (W_is_tuple_of : List Sl → PK → Prop) : TS :=
  (tIfS (tOr (tNot (tB (tCall (spD C W_is_tuple_of) [] E0 (tCons (tVar 1) (tCons (tC (.int 2)) (tCons (tC (.int 3)) tNil)))))) (tNot (tB (tCB (rTn C allT) (tCons (tLc (iTup C.K (tVar 1)) (gName 2) tYes (tCall (spD C W_fits_script) [] E0 (tCons (tVar 0) (tCons (tVar 2) tNil))) [2]) tNil))))) tNever tNext)
theorem d_need_scripts {P : Program} {w : World} {K : PySem.W.Frag} {mg : Str → Option Value} {base : Heap} {k : Nat} {f : Addr} {cdv : Value} {A : Around} {outer : List Env} {s : Shared} {H : Hp} {E : XK} {W_fits_script : List Sl → PK → Prop} {W_is_tuple_of : List Sl → PK → Prop}
    (hr : Room k (A.deeper (envOfC "need_scripts" (defScope s_need_scripts) s.heap.objs.size f cdv))) (B : Blt mg) (h_fits_script : Has P w K mg base k "fits_script" W_fits_script) (h_is_tuple_of : Has P w K mg base k "is_tuple_of" W_is_tuple_of) :
    PSs (cxOf CX0 P w K mg base n_need_scripts "need_scripts" (defScope s_need_scripts) f cdv A outer s H E).nox (defBody s_need_scripts) (t_need_scripts ⟨P, w, K⟩ W_fits_script W_is_tuple_of) :=
  (pss_one (ps_if (PW.pt (pw_or (pt_not (pt_val (pe_callH h_is_tuple_of hr (Nat.le_refl _) (by rfl) (pa_cons (pv 1) (pa_cons pe_int (pa_cons pe_int pa_nil)))))) (pw_or1 (pt_not (pt_val (pe_callB (cr_allQ rfl) (by rfl) B.all bt_all (pa_cons (pe_lc (own := [("script", 2)]) rfl sc_need_scripts.nd (pi_tup (pv 1)) (blkOk_by (by show blkC n_need_scripts (defScope s_need_scripts) _ _ = true; decide +kernel)) (fun _ _ _ _ _ => (pg_name (i := 2) sc_need_scripts.nd rfl (.inl rfl))) (fun _ _ _ _ _ => pts_nil) (fun _ _ _ _ _ => (pe_callH h_fits_script hr (Nat.le_refl _) (by rfl) (pa_cons (pv 0) (pa_cons (pv 2) pa_nil))))) pa_nil))))))) (pss_one ps_never) pss_nil))
abbrev s_twos_of : Stmt := topS 30
abbrev n_twos_of : List Str := ["scripts"]
abbrev p_twos_of : List Str := ["scripts"]
theorem sc_twos_of : FnScope n_twos_of p_twos_of (defScope s_twos_of) := ⟨rfl, rfl, rfl, by decide +kernel, rfl, by decide +kernel, by decide +kernel⟩
theorem bn_twos_of (kV doc pm : Value) (an : Option Addr) (cdv ct : Value) (us : List Value) (hl : us.length = (p_twos_of).length) : bindArgs (PySem.W.fnOf "twos_of" "twos_of" (defArgs s_twos_of) (defBody s_twos_of) (defScope s_twos_of) .none kV doc pm an cdv ct) ⟨us, []⟩ = pure ((p_twos_of).zip us) := match us, hl with | [_], _ => rfl
def t_twos_of (C : Ct) (W_pairs_of : List Sl → PK → Prop) : TS :=
  (tRet (tCall (spD C W_pairs_of) [] E0 (tCons (tCB (rTn C lenT) (tCons (tVar 0) tNil)) tNil)))
theorem d_twos_of {P : Program} {w : World} {K : PySem.W.Frag} {mg : Str → Option Value} {base : Heap} {k : Nat} {f : Addr} {cdv : Value} {A : Around} {outer : List Env} {s : Shared} {H : Hp} {E : XK} {W_pairs_of : List Sl → PK → Prop}
    (hr : Room k (A.deeper (envOfC "twos_of" (defScope s_twos_of) s.heap.objs.size f cdv))) (B : Blt mg) (h_pairs_of : Has P w K mg base k "pairs_of" W_pairs_of) :
    PSs (cxOf CX0 P w K mg base n_twos_of "twos_of" (defScope s_twos_of) f cdv A outer s H E).nox (defBody s_twos_of) (t_twos_of ⟨P, w, K⟩ W_pairs_of) :=
  (pss_one (ps_ret (pe_callH h_pairs_of hr (Nat.le_refl _) (by rfl) (pa_cons (pe_callB (cr_lenQ) (by rfl) B.len bt_len (pa_cons (pv 0) pa_nil)) pa_nil))))
abbrev s_parted_in : Stmt := topS 31
abbrev n_parted_in : List Str := ["company", "scripts", "ends", "script", "pair"]
abbrev p_parted_in : List Str := ["company", "scripts"]
theorem sc_parted_in : FnScope n_parted_in p_parted_in (defScope s_parted_in) := ⟨rfl, rfl, rfl, by decide +kernel, rfl, by decide +kernel, by decide +kernel⟩
theorem bn_parted_in (kV doc pm : Value) (an : Option Addr) (cdv ct : Value) (us : List Value) (hl : us.length = (p_parted_in).length) : bindArgs (PySem.W.fnOf "parted_in" "parted_in" (defArgs s_parted_in) (defBody s_parted_in) (defScope s_parted_in) .none kV doc pm an cdv ct) ⟨us, []⟩ = pure ((p_parted_in).zip us) := match us, hl with | [_, _], _ => rfl
def t_parted_in (C : Ct) (W_run_by : List Sl → PK → Prop) (W_twos_of : List Sl → PK → Prop) : TS :=
  (tSeq (tAsg (tLc (iTup C.K (tVar 1)) (gName 3) tYes (tOp (rT2 C ixT) (tCall (spD C W_run_by) [] E0 (tCons (tVar 0) (tCons (tVar 3) tNil))) (tC (.int 0))) [3]) (gName 2))
    (tRet (tLc (iList C.K (tCall (spD C W_twos_of) [] E0 (tCons (tVar 1) tNil))) (gName 4) (tTest (tOp (rT2 C neT) (tOp (rT2 C ixT) (tVar 2) (tOp (rT2 C ixT) (tVar 4) (tC (.int 0)))) (tOp (rT2 C ixT) (tVar 2) (tOp (rT2 C ixT) (tVar 4) (tC (.int 1)))))) (tVar 4) [4])))
theorem d_parted_in {P : Program} {w : World} {K : PySem.W.Frag} {mg : Str → Option Value} {base : Heap} {k : Nat} {f : Addr} {cdv : Value} {A : Around} {outer : List Env} {s : Shared} {H : Hp} {E : XK} {W_run_by : List Sl → PK → Prop} {W_twos_of : List Sl → PK → Prop}
    (hr : Room k (A.deeper (envOfC "parted_in" (defScope s_parted_in) s.heap.objs.size f cdv))) (B : Blt mg) (h_run_by : Has P w K mg base k "run_by" W_run_by) (h_twos_of : Has P w K mg base k "twos_of" W_twos_of) :
    PSs (cxOf CX0 P w K mg base n_parted_in "parted_in" (defScope s_parted_in) f cdv A outer s H E).nox (defBody s_parted_in) (t_parted_in ⟨P, w, K⟩ W_run_by W_twos_of) :=
  (pss_cons (ps_set (i := 2) sc_parted_in.nd rfl (.inr rfl) (pe_lc (own := [("script", 3)]) rfl sc_parted_in.nd (pi_tup (pv 1)) (blkOk_by (by show blkC n_parted_in (defScope s_parted_in) _ _ = true; decide +kernel)) (fun _ _ _ _ _ => (pg_name (i := 3) sc_parted_in.nd rfl (.inl rfl))) (fun _ _ _ _ _ => pts_nil) (fun _ _ _ _ _ => (pe_ix ix_Q (pe_callH h_run_by hr (Nat.le_refl _) (by rfl) (pa_cons (pv 0) (pa_cons (pv 3) pa_nil))) pe_int (fun _ _ => rfl)))))
    (pss_one (ps_ret (pe_lc (own := [("pair", 4)]) rfl sc_parted_in.nd (pi_list (pe_callH h_twos_of hr (Nat.le_refl _) (by rfl) (pa_cons (pv 1) pa_nil))) (blkOk_by (by show blkC n_parted_in (defScope s_parted_in) _ _ = true; decide +kernel)) (fun _ _ _ _ _ => (pg_name (i := 4) sc_parted_in.nd rfl (.inl rfl))) (fun _ _ _ _ _ => (pts_one (pt_cmpR (op_neQ (u64 hr)) (pe_ix ix_Q (pv 2) (pe_ix ix_Q (pv 4) pe_int (fun _ _ => rfl)) (fun _ _ => rfl)) (pe_ix ix_Q (pv 2) (pe_ix ix_Q (pv 4) pe_int (fun _ _ => rfl)) (fun _ _ => rfl)) (nomark _)))) (fun _ _ _ _ _ => (pv 4))))))
abbrev s_lots_within : Stmt := topS 32
abbrev n_lots_within : List Str := ["pairs", "found", "pair", "lot"]
abbrev p_lots_within : List Str := ["pairs"]
theorem sc_lots_within : FnScope n_lots_within p_lots_within (defScope s_lots_within) := ⟨rfl, rfl, rfl, by decide +kernel, rfl, by decide +kernel, by decide +kernel⟩
theorem bn_lots_within (kV doc pm : Value) (an : Option Addr) (cdv ct : Value) (us : List Value) (hl : us.length = (p_lots_within).length) : bindArgs (PySem.W.fnOf "lots_within" "lots_within" (defArgs s_lots_within) (defBody s_lots_within) (defScope s_lots_within) .none kV doc pm an cdv ct) ⟨us, []⟩ = pure ((p_lots_within).zip us) := match us, hl with | [_], _ => rfl
def t_lots_within (C : Ct) : TS :=
  (tSeq (tAsg (tLst (tCons (tTup tNil) tNil)) (gName 1))
    (tSeq (tFor (iList C.K (tVar 0)) (gName 2) (tAsg (tOp (rT2 C addT) (tVar 1) (tLc (iList C.K (tVar 1)) (gName 3) tYes (tOp (rT2 C addT) (tVar 3) (tTup (tCons (tVar 2) tNil))) [3])) (gName 1)))
    (tRet (tVar 1))))
theorem d_lots_within {P : Program} {w : World} {K : PySem.W.Frag} {mg : Str → Option Value} {base : Heap} {k : Nat} {f : Addr} {cdv : Value} {A : Around} {outer : List Env} {s : Shared} {H : Hp} {E : XK}
    (hr : Room k (A.deeper (envOfC "lots_within" (defScope s_lots_within) s.heap.objs.size f cdv))) (B : Blt mg) :
    PSs (cxOf CX0 P w K mg base n_lots_within "lots_within" (defScope s_lots_within) f cdv A outer s H E).nox (defBody s_lots_within) (t_lots_within ⟨P, w, K⟩) :=
  (pss_cons (ps_set (i := 1) sc_lots_within.nd rfl (.inl rfl) (pe_lst (pa_cons (pe_tup pa_nil) pa_nil)))
    (pss_cons (ps_for PassesOwn.never rfl (pi_list (pv 0)) (pg_name (i := 2) sc_lots_within.nd rfl (.inr rfl)) (pss_one (ps_set (i := 1) sc_lots_within.nd rfl (.inl rfl) (pe_op op_addQ (pv 1) (pe_lc (own := [("lot", 3)]) rfl sc_lots_within.nd (pi_list (pv 1)) (blkOk_by (by show blkC n_lots_within (defScope s_lots_within) _ _ = true; decide +kernel)) (fun _ _ _ _ _ => (pg_name (i := 3) sc_lots_within.nd rfl (.inl rfl))) (fun _ _ _ _ _ => pts_nil) (fun _ _ _ _ _ => (pe_op op_addQ (pv 3) (pe_tup (pa_cons (pv 2) pa_nil)))))))))
    (pss_one (ps_ret (pv 1)))))
abbrev s_views_at : Stmt := topS 33
abbrev n_views_at : List Str := ["named", "start", "fresh", "pair", "lot", "ties"]
abbrev p_views_at : List Str := ["named", "start"]
theorem sc_views_at : FnScope n_views_at p_views_at (defScope s_views_at) := ⟨rfl, rfl, rfl, by decide +kernel, rfl, by decide +kernel, by decide +kernel⟩
theorem bn_views_at (kV doc pm : Value) (an : Option Addr) (cdv ct : Value) (us : List Value) (hl : us.length = (p_views_at).length) : bindArgs (PySem.W.fnOf "views_at" "views_at" (defArgs s_views_at) (defBody s_views_at) (defScope s_views_at) .none kV doc pm an cdv ct) ⟨us, []⟩ = pure ((p_views_at).zip us) := match us, hl with | [_, _], _ => rfl
def t_views_at (C : Ct) (W_pairs_of : List Sl → PK → Prop) (W_lots_within : List Sl → PK → Prop) : TS :=
  (tSeq (tAsg (tLc (iList C.K (tCall (spD C W_pairs_of) [] E0 (tCons (tOp (rT2 C addT) (tVar 0) (tC (.int 2))) tNil))) (gName 3) (tTest (tOp (rT2 C geT) (tOp (rT2 C ixT) (tVar 3) (tC (.int 1))) (tVar 0))) (tVar 3) [3]) (gName 2))
    (tRet (tLc (iList C.K (tCB (rTn C sortedT) (tCons (tLc (iList C.K (tCall (spD C W_lots_within) [] E0 (tCons (tVar 2) tNil))) (gName 4) tYes (tCB (rTn C tupleT) (tCons (tCB (rTn C sortedT) (tCons (tOp (rT2 C addT) (tOp (rT2 C ixT) (tVar 1) (tC (.int 1))) (tVar 4)) tNil)) tNil)) [4]) tNil))) (gName 5) tYes (tTup (tCons (tOp (rT2 C addT) (tVar 0) (tC (.int 2))) (tCons (tVar 5) tNil))) [5])))
theorem d_views_at {P : Program} {w : World} {K : PySem.W.Frag} {mg : Str → Option Value} {base : Heap} {k : Nat} {f : Addr} {cdv : Value} {A : Around} {outer : List Env} {s : Shared} {H : Hp} {E : XK} {W_pairs_of : List Sl → PK → Prop} {W_lots_within : List Sl → PK → Prop}
    (hr : Room k (A.deeper (envOfC "views_at" (defScope s_views_at) s.heap.objs.size f cdv))) (B : Blt mg) (h_pairs_of : Has P w K mg base k "pairs_of" W_pairs_of) (h_lots_within : Has P w K mg base k "lots_within" W_lots_within) :
    PSs (cxOf CX0 P w K mg base n_views_at "views_at" (defScope s_views_at) f cdv A outer s H E).nox (defBody s_views_at) (t_views_at ⟨P, w, K⟩ W_pairs_of W_lots_within) :=
  (pss_cons (ps_setLc (i := 2) (own := [("pair", 3)]) rfl sc_views_at.nd rfl rfl (sw_true rfl rfl rfl rfl) (pi_list (pe_callH h_pairs_of hr (Nat.le_refl _) (by rfl) (pa_cons (pe_op op_addQ (pv 0) pe_int) pa_nil))) (blkOk_by (by show blkC n_views_at (defScope s_views_at) _ _ = true; decide +kernel)) (fun _ _ _ _ _ => (pg_name (i := 3) sc_views_at.nd rfl (.inl rfl))) (fun _ _ _ _ _ => (pts_one (pt_cmpR op_geQ (pe_ix ix_Q (pv 3) pe_int (fun _ _ => rfl)) (pv 0) (nomark _)))) (fun _ _ _ _ _ => (pv 3)))
    (pss_one (ps_ret (pe_lc (own := [("ties", 5)]) rfl sc_views_at.nd (pi_list (pe_callB (cr_sortedQ rfl (u100 hr)) (by rfl) B.sorted bt_sorted (pa_cons (pe_lc (own := [("lot", 4)]) rfl sc_views_at.nd (pi_list (pe_callH h_lots_within hr (Nat.le_refl _) (by rfl) (pa_cons (pv 2) pa_nil))) (blkOk_by (by show blkC n_views_at (defScope s_views_at) _ _ = true; decide +kernel)) (fun _ _ _ _ _ => (pg_name (i := 4) sc_views_at.nd rfl (.inl rfl))) (fun _ _ _ _ _ => pts_nil) (fun _ _ _ _ _ => (pe_callTy (cr_tupleQ) (by rfl) B.tuple bt_tuple (pa_cons (pe_callB (cr_sortedQ rfl (u100 hr)) (by rfl) B.sorted bt_sorted (pa_cons (pe_op op_addQ (pe_ix ix_Q (pv 1) pe_int (fun _ _ => rfl)) (pv 4)) pa_nil)) pa_nil)))) pa_nil))) (blkOk_by (by show blkC n_views_at (defScope s_views_at) _ _ = true; decide +kernel)) (fun _ _ _ _ _ => (pg_name (i := 5) sc_views_at.nd rfl (.inl rfl))) (fun _ _ _ _ _ => pts_nil) (fun _ _ _ _ _ => (pe_tup (pa_cons (pe_op op_addQ (pv 0) pe_int) (pa_cons (pv 5) pa_nil))))))))
abbrev s_parting_views : Stmt := topS 34
abbrev n_parting_views : List Str := ["named", "start", "scripts", "found", "view", "fresh", "pair"]
abbrev p_parting_views : List Str := ["named", "start", "scripts"]
theorem sc_parting_views : FnScope n_parting_views p_parting_views (defScope s_parting_views) := ⟨rfl, rfl, rfl, by decide +kernel, rfl, by decide +kernel, by decide +kernel⟩
theorem bn_parting_views (kV doc pm : Value) (an : Option Addr) (cdv ct : Value) (us : List Value) (hl : us.length = (p_parting_views).length) : bindArgs (PySem.W.fnOf "parting_views" "parting_views" (defArgs s_parting_views) (defBody s_parting_views) (defScope s_parting_views) .none kV doc pm an cdv ct) ⟨us, []⟩ = pure ((p_parting_views).zip us) := match us, hl with | [_, _, _], _ => rfl
def t_parting_views (C : Ct) (W_views_at : List Sl → PK → Prop) (W_parted_in : List Sl → PK → Prop) : TS :=
  (tSeq (tAsg (tNewD C) (gName 3))
    (tSeq (tFor (iList C.K (tCall (spD C W_views_at) [] E0 (tCons (tVar 0) (tCons (tVar 1) tNil)))) (gName 4) (tSeq (tAsg (tLc (iList C.K (tCall (spD C W_parted_in) [] E0 (tCons (tVar 4) (tCons (tVar 2) tNil)))) (gName 6) (tTest (tOp (rT2 C notInKT) (tVar 6) (tVar 3))) (tTup (tCons (tVar 6) (tCons (tVar 4) tNil))) [6]) (gName 5))
    (tAsg (tDMerge C (tVar 3) (tCB (rTn C dictT) (tCons (tVar 5) tNil))) (gName 3))))
    (tRet (tVar 3))))
theorem d_parting_views {P : Program} {w : World} {K : PySem.W.Frag} {mg : Str → Option Value} {base : Heap} {k : Nat} {f : Addr} {cdv : Value} {A : Around} {outer : List Env} {s : Shared} {H : Hp} {E : XK} {W_views_at : List Sl → PK → Prop} {W_parted_in : List Sl → PK → Prop}
    (hr : Room k (A.deeper (envOfC "parting_views" (defScope s_parting_views) s.heap.objs.size f cdv))) (B : Blt mg) (h_views_at : Has P w K mg base k "views_at" W_views_at) (h_parted_in : Has P w K mg base k "parted_in" W_parted_in) :
    PSs (cxOf CX0 P w K mg base n_parting_views "parting_views" (defScope s_parting_views) f cdv A outer s H E).nox (defBody s_parting_views) (t_parting_views ⟨P, w, K⟩ W_views_at W_parted_in) :=
  (pss_cons (ps_set (i := 3) sc_parting_views.nd rfl (.inr rfl) pe_newD)
    (pss_cons (ps_for PassesOwn.never rfl (pi_list (pe_callH h_views_at hr (Nat.le_refl _) (by rfl) (pa_cons (pv 0) (pa_cons (pv 1) pa_nil)))) (pg_name (i := 4) sc_parting_views.nd rfl (.inr rfl)) (pss_cons (ps_setLc (i := 5) (own := [("pair", 6)]) rfl sc_parting_views.nd rfl rfl (sw_true rfl rfl rfl rfl) (pi_list (pe_callH h_parted_in hr (Nat.le_refl _) (by rfl) (pa_cons (pv 4) (pa_cons (pv 2) pa_nil)))) (blkOk_by (by show blkC n_parting_views (defScope s_parting_views) _ _ = true; decide +kernel)) (fun _ _ _ _ _ => (pg_name (i := 6) sc_parting_views.nd rfl (.inl rfl))) (fun _ _ _ _ _ => (pts_one (pt_cmpR (op_notInKQ (u64 hr)) (pv 6) (pv 3) (by rfl)))) (fun _ _ _ _ _ => (pe_tup (pa_cons (pv 6) (pa_cons (pv 4) pa_nil)))))
    (pss_one (ps_set (i := 3) sc_parting_views.nd rfl (.inr rfl) (pe_dmerge (u64 hr) (pv 3) (pe_callTy (cr_dictQ rfl (u64 hr)) (by rfl) B.dict bt_dict (pa_cons (pv 5) pa_nil)))))))
    (pss_one (ps_ret (pv 3)))))
abbrev s_all_starts : Stmt := topS 35
abbrev n_all_starts : List Str := ["named", "ties"]
abbrev p_all_starts : List Str := ["named"]
theorem sc_all_starts : FnScope n_all_starts p_all_starts (defScope s_all_starts) := ⟨rfl, rfl, rfl, by decide +kernel, rfl, by decide +kernel, by decide +kernel⟩
theorem bn_all_starts (kV doc pm : Value) (an : Option Addr) (cdv ct : Value) (us : List Value) (hl : us.length = (p_all_starts).length) : bindArgs (PySem.W.fnOf "all_starts" "all_starts" (defArgs s_all_starts) (defBody s_all_starts) (defScope s_all_starts) .none kV doc pm an cdv ct) ⟨us, []⟩ = pure ((p_all_starts).zip us) := match us, hl with | [_], _ => rfl
def t_all_starts (C : Ct) (W_lots_within : List Sl → PK → Prop) (W_pairs_of : List Sl → PK → Prop) : TS :=
  (tRet (tLc (iList C.K (tCB (rTn C sortedT) (tCons (tCall (spD C W_lots_within) [] E0 (tCons (tCall (spD C W_pairs_of) [] E0 (tCons (tVar 0) tNil)) tNil)) tNil))) (gName 1) tYes (tTup (tCons (tVar 0) (tCons (tVar 1) tNil))) [1]))
theorem d_all_starts {P : Program} {w : World} {K : PySem.W.Frag} {mg : Str → Option Value} {base : Heap} {k : Nat} {f : Addr} {cdv : Value} {A : Around} {outer : List Env} {s : Shared} {H : Hp} {E : XK} {W_lots_within : List Sl → PK → Prop} {W_pairs_of : List Sl → PK → Prop}
    (hr : Room k (A.deeper (envOfC "all_starts" (defScope s_all_starts) s.heap.objs.size f cdv))) (B : Blt mg) (h_lots_within : Has P w K mg base k "lots_within" W_lots_within) (h_pairs_of : Has P w K mg base k "pairs_of" W_pairs_of) :
    PSs (cxOf CX0 P w K mg base n_all_starts "all_starts" (defScope s_all_starts) f cdv A outer s H E).nox (defBody s_all_starts) (t_all_starts ⟨P, w, K⟩ W_lots_within W_pairs_of) :=
  (pss_one (ps_ret (pe_lc (own := [("ties", 1)]) rfl sc_all_starts.nd (pi_list (pe_callB (cr_sortedQ rfl (u100 hr)) (by rfl) B.sorted bt_sorted (pa_cons (pe_callH h_lots_within hr (Nat.le_refl _) (by rfl) (pa_cons (pe_callH h_pairs_of hr (Nat.le_refl _) (by rfl) (pa_cons (pv 0) pa_nil)) pa_nil)) pa_nil))) (blkOk_by (by show blkC n_all_starts (defScope s_all_starts) _ _ = true; decide +kernel)) (fun _ _ _ _ _ => (pg_name (i := 1) sc_all_starts.nd rfl (.inl rfl))) (fun _ _ _ _ _ => pts_nil) (fun _ _ _ _ _ => (pe_tup (pa_cons (pv 0) (pa_cons (pv 1) pa_nil)))))))
abbrev s_lots_of : Stmt := topS 36
abbrev n_lots_of : List Str := ["things", "many", "found", "turn", "lot", "thing"]
abbrev p_lots_of : List Str := ["things", "many"]
theorem sc_lots_of : FnScope n_lots_of p_lots_of (defScope s_lots_of) := ⟨rfl, rfl, rfl, by decide +kernel, rfl, by decide +kernel, by decide +kernel⟩
theorem bn_lots_of (kV doc pm : Value) (an : Option Addr) (cdv ct : Value) (us : List Value) (hl : us.length = (p_lots_of).length) : bindArgs (PySem.W.fnOf "lots_of" "lots_of" (defArgs s_lots_of) (defBody s_lots_of) (defScope s_lots_of) .none kV doc pm an cdv ct) ⟨us, []⟩ = pure ((p_lots_of).zip us) := match us, hl with | [_, _], _ => rfl
def t_lots_of (C : Ct) : TS :=
  (tSeq (tAsg (tLst (tCons (tTup tNil) tNil)) (gName 2))
    (tSeq (tFor (iRng1 (tCons (tVar 1) tNil)) (gName 3) (tAsg (tLc2 (iList C.K (tVar 2)) (gName 4) tYes (iList C.K (tVar 0)) (gName 5) (tOr (tTest (tOp (rT2 C eqT) (tVar 4) (tTup tNil))) (tTest (tOp (rT2 C gtDT) (tVar 5) (tOp (rT2 C ixT) (tVar 4) (tUn (rT1 C negT) (tC (.int 1))))))) (tOp (rT2 C addT) (tVar 4) (tTup (tCons (tVar 5) tNil))) [4, 5] [5]) (gName 2)))
    (tRet (tVar 2))))
theorem d_lots_of {P : Program} {w : World} {K : PySem.W.Frag} {mg : Str → Option Value} {base : Heap} {k : Nat} {f : Addr} {cdv : Value} {A : Around} {outer : List Env} {s : Shared} {H : Hp} {E : XK}
    (hr : Room k (A.deeper (envOfC "lots_of" (defScope s_lots_of) s.heap.objs.size f cdv))) (B : Blt mg) :
    PSs (cxOf CX0 P w K mg base n_lots_of "lots_of" (defScope s_lots_of) f cdv A outer s H E).nox (defBody s_lots_of) (t_lots_of ⟨P, w, K⟩) :=
  (pss_cons (ps_set (i := 2) sc_lots_of.nd rfl (.inl rfl) (pe_lst (pa_cons (pe_tup pa_nil) pa_nil)))
    (pss_cons (ps_for PassesOwn.never rfl (pi_range1 (by rfl) B.range (pa_cons (pv 1) pa_nil)) (pg_name (i := 3) sc_lots_of.nd rfl (.inl rfl)) (pss_one (ps_setLc2 (i := 2) (own := [("lot", 4), ("thing", 5)]) rfl sc_lots_of.nd rfl rfl (sw_true rfl rfl rfl rfl) (pi_list (pv 2)) (blkOk_by (by show blkC n_lots_of (defScope s_lots_of) _ _ = true; decide +kernel)) (vs1 := [5]) (by decide) (fun _ _ _ _ _ => (pg_name (i := 4) sc_lots_of.nd rfl (.inl rfl))) (fun _ _ _ _ _ => pts_nil) (fun _ _ _ _ _ => (pi_list (pv 0))) (fun _ _ _ _ _ => (pg_name (i := 5) sc_lots_of.nd rfl (.inl rfl))) (fun _ _ _ _ _ => (pts_one (PW.pt (pw_or (pt_cmpR (op_eqQ (u64 hr)) (pv 4) (pe_tup pa_nil) (nomark _)) (pw_or1 (pt_cmpR (op_gtDQ (u64 hr)) (pv 5) (pe_ix ix_Q (pv 4) (pe_un un_negQ pe_int) (fun _ _ => rfl)) (nomark _))))))) (fun _ _ _ _ _ => (pe_op op_addQ (pv 4) (pe_tup (pa_cons (pv 5) pa_nil)))))))
    (pss_one (ps_ret (pv 2)))))
abbrev s_parted_of : Stmt := topS 37
abbrev n_parted_of : List Str := ["parted", "starts", "start"]
abbrev p_parted_of : List Str := ["parted", "starts"]
theorem sc_parted_of : FnScope n_parted_of p_parted_of (defScope s_parted_of) := ⟨rfl, rfl, rfl, by decide +kernel, rfl, by decide +kernel, by decide +kernel⟩
theorem bn_parted_of (kV doc pm : Value) (an : Option Addr) (cdv ct : Value) (us : List Value) (hl : us.length = (p_parted_of).length) : bindArgs (PySem.W.fnOf "parted_of" "parted_of" (defArgs s_parted_of) (defBody s_parted_of) (defScope s_parted_of) .none kV doc pm an cdv ct) ⟨us, []⟩ = pure ((p_parted_of).zip us) := match us, hl with | [_, _], _ => rfl
def t_parted_of__L (C : Ct) : TS :=
  (tRet (tCB (rSortedT C.K C.P C.w) (tCons (tCB (rSetOfT C.K C.P C.w) (tCons (tCB (rTn C sumLT) (tCons (tLc (iList C.K (tVar 1)) (gName 2) tYes (tOp (rT2 C getT) (tVar 0) (tVar 2)) [2]) (tCons (tLst tNil) tNil))) tNil)) tNil)))
theorem d_parted_of__L {P : Program} {w : World} {K : PySem.W.Frag} {mg : Str → Option Value} {base : Heap} {k : Nat} {f : Addr} {cdv : Value} {A : Around} {outer : List Env} {s : Shared} {H : Hp} {E : XK}
    (hr : Room k (A.deeper (envOfC "parted_of" (defScope s_parted_of) s.heap.objs.size f cdv))) (B : Blt mg) :
    PSs (cxOf CX0 P w K mg base n_parted_of "parted_of" (defScope s_parted_of) f cdv A outer s H E).nox (defBody s_parted_of) (t_parted_of__L ⟨P, w, K⟩) :=
  (pss_one (ps_ret (pe_callB (cr_sortedT rfl) (by rfl) B.sorted bt_sorted (pa_cons (pe_callTy (cr_setOfT rfl (u64 hr)) (by rfl) B.set bt_set (pa_cons (pe_callB (cr_sumLQ rfl) (by rfl) B.sum bt_sum (pa_cons (pe_lc (own := [("start", 2)]) rfl sc_parted_of.nd (pi_list (pv 1)) (blkOk_by (by show blkC n_parted_of (defScope s_parted_of) _ _ = true; decide +kernel)) (fun _ _ _ _ _ => (pg_name (i := 2) sc_parted_of.nd rfl (.inl rfl))) (fun _ _ _ _ _ => pts_nil) (fun _ _ _ _ _ => (pe_ix (ix_dQ (u64 hr)) (pv 0) (pv 2) (fun _ _ => rfl)))) (pa_cons (pe_lst pa_nil) pa_nil))) pa_nil)) pa_nil))))
def t_parted_of__T (C : Ct) : TS :=
  (tRet (tCB (rSortedT C.K C.P C.w) (tCons (tCB (rSetOfT C.K C.P C.w) (tCons (tCB (rTn C sumLT) (tCons (tLc (iTup C.K (tVar 1)) (gName 2) tYes (tOp (rT2 C getT) (tVar 0) (tVar 2)) [2]) (tCons (tLst tNil) tNil))) tNil)) tNil)))
theorem d_parted_of__T {P : Program} {w : World} {K : PySem.W.Frag} {mg : Str → Option Value} {base : Heap} {k : Nat} {f : Addr} {cdv : Value} {A : Around} {outer : List Env} {s : Shared} {H : Hp} {E : XK}
    (hr : Room k (A.deeper (envOfC "parted_of" (defScope s_parted_of) s.heap.objs.size f cdv))) (B : Blt mg) :
    PSs (cxOf CX0 P w K mg base n_parted_of "parted_of" (defScope s_parted_of) f cdv A outer s H E).nox (defBody s_parted_of) (t_parted_of__T ⟨P, w, K⟩) :=
  (pss_one (ps_ret (pe_callB (cr_sortedT rfl) (by rfl) B.sorted bt_sorted (pa_cons (pe_callTy (cr_setOfT rfl (u64 hr)) (by rfl) B.set bt_set (pa_cons (pe_callB (cr_sumLQ rfl) (by rfl) B.sum bt_sum (pa_cons (pe_lc (own := [("start", 2)]) rfl sc_parted_of.nd (pi_tup (pv 1)) (blkOk_by (by show blkC n_parted_of (defScope s_parted_of) _ _ = true; decide +kernel)) (fun _ _ _ _ _ => (pg_name (i := 2) sc_parted_of.nd rfl (.inl rfl))) (fun _ _ _ _ _ => pts_nil) (fun _ _ _ _ _ => (pe_ix (ix_dQ (u64 hr)) (pv 0) (pv 2) (fun _ _ => rfl)))) (pa_cons (pe_lst pa_nil) pa_nil))) pa_nil)) pa_nil))))
abbrev s_fewest_starts : Stmt := topS 38
abbrev n_fewest_starts : List Str := ["parted", "wanted", "many", "lot"]
abbrev p_fewest_starts : List Str := ["parted"]
theorem sc_fewest_starts : FnScope n_fewest_starts p_fewest_starts (defScope s_fewest_starts) := ⟨rfl, rfl, rfl, by decide +kernel, rfl, by decide +kernel, by decide +kernel⟩
theorem bn_fewest_starts (kV doc pm : Value) (an : Option Addr) (cdv ct : Value) (us : List Value) (hl : us.length = (p_fewest_starts).length) : bindArgs (PySem.W.fnOf "fewest_starts" "fewest_starts" (defArgs s_fewest_starts) (defBody s_fewest_starts) (defScope s_fewest_starts) .none kV doc pm an cdv ct) ⟨us, []⟩ = pure ((p_fewest_starts).zip us) := match us, hl with | [_], _ => rfl
def t_fewest_starts (C : Ct) (W_parted_of__L : List Sl → PK → Prop) (W_lots_of : List Sl → PK → Prop) (W_parted_of__T : List Sl → PK → Prop) : TS :=
  (tSeq (tAsg (tCall (spD C W_parted_of__L) [] E0 (tCons (tVar 0) (tCons (tCB (rTn C sortedT) (tCons (tVar 0) tNil)) tNil))) (gName 1))
    (tSeq (tFor (iRng1 (tCons (tOp (rT2 C addT) (tCB (rTn C lenT) (tCons (tVar 1) tNil)) (tC (.int 1))) tNil)) (gName 2) (tFor (iList C.K (tCall (spD C W_lots_of) [] E0 (tCons (tCB (rTn C sortedT) (tCons (tVar 0) tNil)) (tCons (tVar 2) tNil)))) (gName 3) (tIfS (tTest (tOp (rT2 C eqT) (tCall (spD C W_parted_of__T) [] E0 (tCons (tVar 0) (tCons (tVar 3) tNil))) (tVar 1))) (tRet (tVar 3)) tNext)))
    (tRet (tTup tNil))))
theorem d_fewest_starts {P : Program} {w : World} {K : PySem.W.Frag} {mg : Str → Option Value} {base : Heap} {k : Nat} {f : Addr} {cdv : Value} {A : Around} {outer : List Env} {s : Shared} {H : Hp} {E : XK} {W_parted_of__L : List Sl → PK → Prop} {W_lots_of : List Sl → PK → Prop} {W_parted_of__T : List Sl → PK → Prop}
    (hr : Room k (A.deeper (envOfC "fewest_starts" (defScope s_fewest_starts) s.heap.objs.size f cdv))) (B : Blt mg) (h_parted_of__L : Has P w K mg base k "parted_of" W_parted_of__L) (h_lots_of : Has P w K mg base k "lots_of" W_lots_of) (h_parted_of__T : Has P w K mg base k "parted_of" W_parted_of__T) :
    PSs (cxOf CX0 P w K mg base n_fewest_starts "fewest_starts" (defScope s_fewest_starts) f cdv A outer s H E).nox (defBody s_fewest_starts) (t_fewest_starts ⟨P, w, K⟩ W_parted_of__L W_lots_of W_parted_of__T) :=
  (pss_cons (ps_set (i := 1) sc_fewest_starts.nd rfl (.inl rfl) (pe_callH h_parted_of__L hr (Nat.le_refl _) (by rfl) (pa_cons (pv 0) (pa_cons (pe_callB (cr_sortedQ rfl (u100 hr)) (by rfl) B.sorted bt_sorted (pa_cons (pv 0) pa_nil)) pa_nil))))
    (pss_cons (ps_for PassesOwn.never rfl (pi_range1 (by rfl) B.range (pa_cons (pe_op op_addQ (pe_callB (cr_lenQ) (by rfl) B.len bt_len (pa_cons (pv 1) pa_nil)) pe_int) pa_nil)) (pg_name (i := 2) sc_fewest_starts.nd rfl (.inl rfl)) (pss_one (ps_for PassesOwn.never rfl (pi_list (pe_callH h_lots_of hr (Nat.le_refl _) (by rfl) (pa_cons (pe_callB (cr_sortedQ rfl (u100 hr)) (by rfl) B.sorted bt_sorted (pa_cons (pv 0) pa_nil)) (pa_cons (pv 2) pa_nil)))) (pg_name (i := 3) sc_fewest_starts.nd rfl (.inl rfl)) (pss_one (ps_if (pt_cmpR (op_eqQ (u64 hr)) (pe_callH h_parted_of__T hr (Nat.le_refl _) (by rfl) (pa_cons (pv 0) (pa_cons (pv 3) pa_nil))) (pv 1) (nomark _)) (pss_one (ps_ret (pv 3))) pss_nil)))))
    (pss_one (ps_ret (pe_tup pa_nil)))))
abbrev s_telling_starts : Stmt := topS 39
abbrev n_telling_starts : List Str := ["named", "scripts", "starts", "start"]
abbrev p_telling_starts : List Str := ["named", "scripts"]
theorem sc_telling_starts : FnScope n_telling_starts p_telling_starts (defScope s_telling_starts) := ⟨rfl, rfl, rfl, by decide +kernel, rfl, by decide +kernel, by decide +kernel⟩
theorem bn_telling_starts (kV doc pm : Value) (an : Option Addr) (cdv ct : Value) (us : List Value) (hl : us.length = (p_telling_starts).length) : bindArgs (PySem.W.fnOf "telling_starts" "telling_starts" (defArgs s_telling_starts) (defBody s_telling_starts) (defScope s_telling_starts) .none kV doc pm an cdv ct) ⟨us, []⟩ = pure ((p_telling_starts).zip us) := match us, hl with | [_, _], _ => rfl
def t_telling_starts (C : Ct) (W_need_named : List Sl → PK → Prop) (W_need_scripts : List Sl → PK → Prop) (W_all_starts : List Sl → PK → Prop) (W_fewest_starts : List Sl → PK → Prop) (W_parting_views : List Sl → PK → Prop) : TS :=
  (tSeq (tDrop (tCall (spD C W_need_named) [] E0 (tCons (tVar 0) tNil)))
    (tSeq (tDrop (tCall (spD C W_need_scripts) [] E0 (tCons (tVar 0) (tCons (tVar 1) tNil))))
    (tSeq (tAsg (tCall (spD C W_all_starts) [] E0 (tCons (tVar 0) tNil)) (gName 2))
    (tRet (tCall (spD C W_fewest_starts) [] E0 (tCons (tCB (rTn C dictT) (tCons (tLc (iList C.K (tVar 2)) (gName 3) tYes (tTup (tCons (tVar 3) (tCons (tCB (rTn C sortedT) (tCons (tCall (spD C W_parting_views) [] E0 (tCons (tVar 0) (tCons (tVar 3) (tCons (tVar 1) tNil)))) tNil)) tNil))) [3]) tNil)) tNil))))))
theorem d_telling_starts {P : Program} {w : World} {K : PySem.W.Frag} {mg : Str → Option Value} {base : Heap} {k : Nat} {f : Addr} {cdv : Value} {A : Around} {outer : List Env} {s : Shared} {H : Hp} {E : XK} {W_need_named : List Sl → PK → Prop} {W_need_scripts : List Sl → PK → Prop} {W_all_starts : List Sl → PK → Prop} {W_fewest_starts : List Sl → PK → Prop} {W_parting_views : List Sl → PK → Prop}
    (hr : Room k (A.deeper (envOfC "telling_starts" (defScope s_telling_starts) s.heap.objs.size f cdv))) (B : Blt mg) (h_need_named : Has P w K mg base k "need_named" W_need_named) (h_need_scripts : Has P w K mg base k "need_scripts" W_need_scripts) (h_all_starts : Has P w K mg base k "all_starts" W_all_starts) (h_fewest_starts : Has P w K mg base k "fewest_starts" W_fewest_starts) (h_parting_views : Has P w K mg base k "parting_views" W_parting_views) :
    PSs (cxOf CX0 P w K mg base n_telling_starts "telling_starts" (defScope s_telling_starts) f cdv A outer s H E).nox (defBody s_telling_starts) (t_telling_starts ⟨P, w, K⟩ W_need_named W_need_scripts W_all_starts W_fewest_starts W_parting_views) :=
  (pss_cons (ps_expr (pe_callH h_need_named hr (Nat.le_refl _) (by rfl) (pa_cons (pv 0) pa_nil)))
    (pss_cons (ps_expr (pe_callH h_need_scripts hr (Nat.le_refl _) (by rfl) (pa_cons (pv 0) (pa_cons (pv 1) pa_nil))))
    (pss_cons (ps_set (i := 2) sc_telling_starts.nd rfl (.inl rfl) (pe_callH h_all_starts hr (Nat.le_refl _) (by rfl) (pa_cons (pv 0) pa_nil)))
    (pss_one (ps_ret (pe_callH h_fewest_starts hr (Nat.le_refl _) (by rfl) (pa_cons (pe_callTy (cr_dictQ rfl (u64 hr)) (by rfl) B.dict bt_dict (pa_cons (pe_lc (own := [("start", 3)]) rfl sc_telling_starts.nd (pi_list (pv 2)) (blkOk_by (by show blkC n_telling_starts (defScope s_telling_starts) _ _ = true; decide +kernel)) (fun _ _ _ _ _ => (pg_name (i := 3) sc_telling_starts.nd rfl (.inl rfl))) (fun _ _ _ _ _ => pts_nil) (fun _ _ _ _ _ => (pe_tup (pa_cons (pv 3) (pa_cons (pe_callB (cr_sortedQ rfl (u100 hr)) (by rfl) B.sorted bt_sorted (pa_cons (pe_callH h_parting_views hr (Nat.le_refl _) (by rfl) (pa_cons (pv 0) (pa_cons (pv 3) (pa_cons (pv 1) pa_nil)))) pa_nil)) pa_nil))))) pa_nil)) pa_nil)))))))
end DB2

section DB3
open PySem PySem.Spec PyProof.Rows L2
abbrev s__law_roll : Stmt := topS 42
abbrev n__law_roll : List Str := ["_law_cup_here", "_law_many", "_law_found", "_law_deep"]
abbrev p__law_roll : List Str := ["_law_cup_here", "_law_many"]
theorem sc__law_roll : FnScope n__law_roll p__law_roll (defScope s__law_roll) := ⟨rfl, rfl, rfl, by decide +kernel, rfl, by decide +kernel, by decide +kernel⟩
theorem bn__law_roll (kV doc pm : Value) (an : Option Addr) (cdv ct : Value) (us : List Value) (hl : us.length = (p__law_roll).length) : bindArgs (PySem.W.fnOf "_law_roll" "_law_roll" (defArgs s__law_roll) (defBody s__law_roll) (defScope s__law_roll) .none kV doc pm an cdv ct) ⟨us, []⟩ = pure ((p__law_roll).zip us) := match us, hl with | [_, _], _ => rfl
def t__law_roll (C : Ct) : TS :=
  (tSeq (tIfS (tTest (tOp (rT2 C gtT) (tOp (rIxL C.K) (tVar 0) (tC (.int 0))) (tC (.int 0)))) (tSeq (tAsg (tOp (rT2 C modT) (tCB (rTn C int1T) (tCons (tOp (rIxL C.K) (tVar 0) (tC (.int 0))) tNil)) (tVar 1)) (gName 2))
    (tSeq (tAsg (tOp (rT2 C divT) (tOp (rIxL C.K) (tVar 0) (tC (.int 0))) (tVar 1)) (gSub (tVar 0) (tC (.int 0)) rSetL))
    (tRet (tVar 2)))) tNext)
    (tSeq (tAsg (tOp (rT2 C modT) (tCB (rTn C int1T) (tCons (tOp (rT2 C addT) (tOp (rT2 C mulT) (tOp (rIxL C.K) (tVar 0) (tC (.int 1))) (tC (.int 30983))) (tC (.int 7933))) tNil)) (tC (.int 2147483563))) (gSub (tVar 0) (tC (.int 1)) rSetL))
    (tSeq (tAsg (tOp (rT2 C modT) (tCB (rTn C int1T) (tCons (tOp (rT2 C mulT) (tOp (rIxL C.K) (tVar 0) (tC (.int 1))) (tOp (rT2 C addT) (tOp (rIxL C.K) (tVar 0) (tC (.int 1))) (tC (.int 197)))) tNil)) (tC (.int 2147483587))) (gName 3))
    (tRet (tOp (rT2 C modT) (tCB (rTn C int1T) (tCons (tOp (rT2 C divT) (tVar 3) (tC (.int 773))) tNil)) (tVar 1))))))
theorem d__law_roll {P : Program} {w : World} {K : PySem.W.Frag} {mg : Str → Option Value} {base : Heap} {k : Nat} {f : Addr} {cdv : Value} {A : Around} {outer : List Env} {s : Shared} {H : Hp} {E : XK}
    (hr : Room k (A.deeper (envOfC "_law_roll" (defScope s__law_roll) s.heap.objs.size f cdv))) (B : Blt mg) :
    PSs (cxOf CX0 P w K mg base n__law_roll "_law_roll" (defScope s__law_roll) f cdv A outer s H E).nox (defBody s__law_roll) (t__law_roll ⟨P, w, K⟩) :=
  (pss_cons (ps_if (pt_cmpR op_gtQ (pe_ix ix_list (pv 0) pe_int (fun _ _ => rfl)) pe_int (nomark _)) (pss_cons (ps_set (i := 2) sc__law_roll.nd rfl (.inl rfl) (pe_op op_modQ (pe_callTy (cr_intQ) (by rfl) B.int bt_int (pa_cons (pe_ix ix_list (pv 0) pe_int (fun _ _ => rfl)) pa_nil)) (pv 1)))
    (pss_cons (ps_asg (pe_op op_divQ (pe_ix ix_list (pv 0) pe_int (fun _ _ => rfl)) (pv 1)) (pg_sub (pv 0) pe_int set_list))
    (pss_one (ps_ret (pv 2))))) pss_nil)
    (pss_cons (ps_asg (pe_op op_modQ (pe_callTy (cr_intQ) (by rfl) B.int bt_int (pa_cons (pe_op op_addQ (pe_op op_mulQ (pe_ix ix_list (pv 0) pe_int (fun _ _ => rfl)) pe_int) pe_int) pa_nil)) pe_int) (pg_sub (pv 0) pe_int set_list))
    (pss_cons (ps_set (i := 3) sc__law_roll.nd rfl (.inl rfl) (pe_op op_modQ (pe_callTy (cr_intQ) (by rfl) B.int bt_int (pa_cons (pe_op op_mulQ (pe_ix ix_list (pv 0) pe_int (fun _ _ => rfl)) (pe_op op_addQ (pe_ix ix_list (pv 0) pe_int (fun _ _ => rfl)) pe_int)) pa_nil)) pe_int))
    (pss_one (ps_ret (pe_op op_modQ (pe_callTy (cr_intQ) (by rfl) B.int bt_int (pa_cons (pe_op op_divQ (pv 3) pe_int) pa_nil)) (pv 1)))))))
abbrev s__law_some : Stmt := topS 43
abbrev n__law_some : List Str := ["_law_cup_here", "_law_things"]
abbrev p__law_some : List Str := ["_law_cup_here", "_law_things"]
theorem sc__law_some : FnScope n__law_some p__law_some (defScope s__law_some) := ⟨rfl, rfl, rfl, by decide +kernel, rfl, by decide +kernel, by decide +kernel⟩
theorem bn__law_some (kV doc pm : Value) (an : Option Addr) (cdv ct : Value) (us : List Value) (hl : us.length = (p__law_some).length) : bindArgs (PySem.W.fnOf "_law_some" "_law_some" (defArgs s__law_some) (defBody s__law_some) (defScope s__law_some) .none kV doc pm an cdv ct) ⟨us, []⟩ = pure ((p__law_some).zip us) := match us, hl with | [_, _], _ => rfl
def t__law_some (C : Ct) (W__law_roll : List Sl → PK → Prop) : TS :=
  (tRet (tOp (rT2 C ixT) (tVar 1) (tCall (spD C W__law_roll) [] E0 (tCons (tVar 0) (tCons (tCB (rTn C lenT) (tCons (tVar 1) tNil)) tNil)))))
theorem d__law_some {P : Program} {w : World} {K : PySem.W.Frag} {mg : Str → Option Value} {base : Heap} {k : Nat} {f : Addr} {cdv : Value} {A : Around} {outer : List Env} {s : Shared} {H : Hp} {E : XK} {W__law_roll : List Sl → PK → Prop}
    (hr : Room k (A.deeper (envOfC "_law_some" (defScope s__law_some) s.heap.objs.size f cdv))) (B : Blt mg) (h__law_roll : Has P w K mg base k "_law_roll" W__law_roll) :
    PSs (cxOf CX0 P w K mg base n__law_some "_law_some" (defScope s__law_some) f cdv A outer s H E).nox (defBody s__law_some) (t__law_some ⟨P, w, K⟩ W__law_roll) :=
  (pss_one (ps_ret (pe_ix ix_Q (pv 1) (pe_callH h__law_roll hr (Nat.le_refl _) (by rfl) (pa_cons (pv 0) (pa_cons (pe_callB (cr_lenQ) (by rfl) B.len bt_len (pa_cons (pv 1) pa_nil)) pa_nil))) (fun _ _ => rfl))))
abbrev s__law_two : Stmt := topS 44
abbrev n__law_two : List Str := ["_law_one", "_law_other"]
abbrev p__law_two : List Str := ["_law_one", "_law_other"]
theorem sc__law_two : FnScope n__law_two p__law_two (defScope s__law_two) := ⟨rfl, rfl, rfl, by decide +kernel, rfl, by decide +kernel, by decide +kernel⟩
theorem bn__law_two (kV doc pm : Value) (an : Option Addr) (cdv ct : Value) (us : List Value) (hl : us.length = (p__law_two).length) : bindArgs (PySem.W.fnOf "_law_two" "_law_two" (defArgs s__law_two) (defBody s__law_two) (defScope s__law_two) .none kV doc pm an cdv ct) ⟨us, []⟩ = pure ((p__law_two).zip us) := match us, hl with | [_, _], _ => rfl
def t__law_two (C : Ct) : TS :=
  (tRet (tIf (tTest (tOp (rT2 C ltT) (tVar 0) (tVar 1))) (tTup (tCons (tVar 0) (tCons (tVar 1) tNil))) (tTup (tCons (tVar 1) (tCons (tVar 0) tNil)))))
theorem d__law_two {P : Program} {w : World} {K : PySem.W.Frag} {mg : Str → Option Value} {base : Heap} {k : Nat} {f : Addr} {cdv : Value} {A : Around} {outer : List Env} {s : Shared} {H : Hp} {E : XK}
    (hr : Room k (A.deeper (envOfC "_law_two" (defScope s__law_two) s.heap.objs.size f cdv))) (B : Blt mg) :
    PSs (cxOf CX0 P w K mg base n__law_two "_law_two" (defScope s__law_two) f cdv A outer s H E).nox (defBody s__law_two) (t__law_two ⟨P, w, K⟩) :=
  (pss_one (ps_ret (pe_ifExp (pt_cmpR op_ltQ (pv 0) (pv 1) (nomark _)) (pe_tup (pa_cons (pv 0) (pa_cons (pv 1) pa_nil))) (pe_tup (pa_cons (pv 1) (pa_cons (pv 0) pa_nil))))))
abbrev s__law_pairs : Stmt := topS 45
abbrev n__law_pairs : List Str := ["_law_people", "_law_found", "_law_one", "_law_other"]
abbrev p__law_pairs : List Str := ["_law_people"]
theorem sc__law_pairs : FnScope n__law_pairs p__law_pairs (defScope s__law_pairs) := ⟨rfl, rfl, rfl, by decide +kernel, rfl, by decide +kernel, by decide +kernel⟩
theorem bn__law_pairs (kV doc pm : Value) (an : Option Addr) (cdv ct : Value) (us : List Value) (hl : us.length = (p__law_pairs).length) : bindArgs (PySem.W.fnOf "_law_pairs" "_law_pairs" (defArgs s__law_pairs) (defBody s__law_pairs) (defScope s__law_pairs) .none kV doc pm an cdv ct) ⟨us, []⟩ = pure ((p__law_pairs).zip us) := match us, hl with | [_], _ => rfl
def t__law_pairs (C : Ct) : TS :=
  (tSeq (tAsg (tLst tNil) (gName 1))
    (tSeq (tFor (iRng1 (tCons (tVar 0) tNil)) (gName 2) (tAsg (tOp (rT2 C addT) (tVar 1) (tLc (iRng2 (tCons (tOp (rT2 C addT) (tVar 2) (tC (.int 1))) (tCons (tVar 0) tNil))) (gName 3) tYes (tTup (tCons (tVar 2) (tCons (tVar 3) tNil))) [3])) (gName 1)))
    (tRet (tVar 1))))
theorem d__law_pairs {P : Program} {w : World} {K : PySem.W.Frag} {mg : Str → Option Value} {base : Heap} {k : Nat} {f : Addr} {cdv : Value} {A : Around} {outer : List Env} {s : Shared} {H : Hp} {E : XK}
    (hr : Room k (A.deeper (envOfC "_law_pairs" (defScope s__law_pairs) s.heap.objs.size f cdv))) (B : Blt mg) :
    PSs (cxOf CX0 P w K mg base n__law_pairs "_law_pairs" (defScope s__law_pairs) f cdv A outer s H E).nox (defBody s__law_pairs) (t__law_pairs ⟨P, w, K⟩) :=
  (pss_cons (ps_set (i := 1) sc__law_pairs.nd rfl (.inl rfl) (pe_lst pa_nil))
    (pss_cons (ps_for PassesOwn.never rfl (pi_range1 (by rfl) B.range (pa_cons (pv 0) pa_nil)) (pg_name (i := 2) sc__law_pairs.nd rfl (.inr rfl)) (pss_one (ps_set (i := 1) sc__law_pairs.nd rfl (.inl rfl) (pe_op op_addQ (pv 1) (pe_lc (own := [("_law_other", 3)]) rfl sc__law_pairs.nd (pi_range2 (by rfl) B.range (pa_cons (pe_op op_addQ (pv 2) pe_int) (pa_cons (pv 0) pa_nil))) (blkOk_by (by show blkC n__law_pairs (defScope s__law_pairs) _ _ = true; decide +kernel)) (fun _ _ _ _ _ => (pg_name (i := 3) sc__law_pairs.nd rfl (.inl rfl))) (fun _ _ _ _ _ => pts_nil) (fun _ _ _ _ _ => (pe_tup (pa_cons (pv 2) (pa_cons (pv 3) pa_nil)))))))))
    (pss_one (ps_ret (pv 1)))))
abbrev s__law_knows : Stmt := topS 46
abbrev n__law_knows : List Str := ["_law_company", "_law_one", "_law_other"]
abbrev p__law_knows : List Str := ["_law_company", "_law_one", "_law_other"]
theorem sc__law_knows : FnScope n__law_knows p__law_knows (defScope s__law_knows) := ⟨rfl, rfl, rfl, by decide +kernel, rfl, by decide +kernel, by decide +kernel⟩
theorem bn__law_knows (kV doc pm : Value) (an : Option Addr) (cdv ct : Value) (us : List Value) (hl : us.length = (p__law_knows).length) : bindArgs (PySem.W.fnOf "_law_knows" "_law_knows" (defArgs s__law_knows) (defBody s__law_knows) (defScope s__law_knows) .none kV doc pm an cdv ct) ⟨us, []⟩ = pure ((p__law_knows).zip us) := match us, hl with | [_, _, _], _ => rfl
def t__law_knows (C : Ct) (W__law_two : List Sl → PK → Prop) : TS :=
  (tRet (tOp (rT2 C (inT false)) (tCall (spD C W__law_two) [] E0 (tCons (tVar 1) (tCons (tVar 2) tNil))) (tOp (rT2 C ixT) (tVar 0) (tC (.int 1)))))
theorem d__law_knows {P : Program} {w : World} {K : PySem.W.Frag} {mg : Str → Option Value} {base : Heap} {k : Nat} {f : Addr} {cdv : Value} {A : Around} {outer : List Env} {s : Shared} {H : Hp} {E : XK} {W__law_two : List Sl → PK → Prop}
    (hr : Room k (A.deeper (envOfC "_law_knows" (defScope s__law_knows) s.heap.objs.size f cdv))) (B : Blt mg) (h__law_two : Has P w K mg base k "_law_two" W__law_two) :
    PSs (cxOf CX0 P w K mg base n__law_knows "_law_knows" (defScope s__law_knows) f cdv A outer s H E).nox (defBody s__law_knows) (t__law_knows ⟨P, w, K⟩ W__law_two) :=
  (pss_one (ps_ret (pe_cmpR (op_inQ (u65 hr)) (pe_callH h__law_two hr (Nat.le_refl _) (by rfl) (pa_cons (pv 1) (pa_cons (pv 2) pa_nil))) (pe_ix ix_Q (pv 0) pe_int (fun _ _ => rfl)) (by rfl))))
abbrev s__law_behind : Stmt := topS 47
abbrev n__law_behind : List Str := ["_law_company", "_law_deed_here", "_law_found", "_law_one", "_law_other", "_law_know", "_law_many", "_law_third", "_law_person"]
abbrev p__law_behind : List Str := ["_law_company", "_law_deed_here"]
theorem sc__law_behind : FnScope n__law_behind p__law_behind (defScope s__law_behind) := ⟨rfl, rfl, rfl, by decide +kernel, rfl, by decide +kernel, by decide +kernel⟩
theorem bn__law_behind (kV doc pm : Value) (an : Option Addr) (cdv ct : Value) (us : List Value) (hl : us.length = (p__law_behind).length) : bindArgs (PySem.W.fnOf "_law_behind" "_law_behind" (defArgs s__law_behind) (defBody s__law_behind) (defScope s__law_behind) .none kV doc pm an cdv ct) ⟨us, []⟩ = pure ((p__law_behind).zip us) := match us, hl with | [_, _], _ => rfl
def t__law_behind (C : Ct) (W__law_pairs : List Sl → PK → Prop) (W__law_knows : List Sl → PK → Prop) (W__law_two : List Sl → PK → Prop) : TS :=
  (tSeq (tAsg (tLst tNil) (gName 2))
    (tSeq (tFor (iList C.K (tCall (spD C W__law_pairs) [] E0 (tCons (tOp (rT2 C ixT) (tVar 0) (tC (.int 0))) tNil))) (gTup C.K 2 (gCons (gName 3) (gCons (gName 4) gNil))) (tSeq (tAsg (tCall (spD C W__law_knows) [] E0 (tCons (tVar 0) (tCons (tVar 3) (tCons (tVar 4) tNil)))) (gName 5))
    (tSeq (tIfS (tAnd (tTest (tOp (rT2 C eqT) (tOp (rT2 C ixT) (tVar 1) (tC (.int 0))) (tC (.str "pairs")))) (tTest (tOp (rT2 C (inT true)) (tOp (rT2 C ixT) (tVar 1) (tC (.int 1))) (tTup (tCons (tVar 3) (tCons (tVar 4) tNil)))))) (tSeq (tAsg (tBM C.K "list" (rCountT C) (tLc (iTup C.K (tTup (tCons (tVar 3) (tCons (tVar 4) tNil)))) (gName 8) tYes (tCall (spD C W__law_knows) [] E0 (tCons (tVar 0) (tCons (tOp (rT2 C ixT) (tVar 1) (tC (.int 1))) (tCons (tVar 8) tNil)))) [8]) (tCons (tC (.bl true)) tNil)) (gName 6))
    (tAsg (tOp (rT2 C eqT) (tOp (rT2 C ixT) (tOp (rT2 C ixT) (tVar 1) (tC (.int 2))) (tOp (rT2 C addT) (tIf (tB (tVar 5)) (tC (.int 3)) (tC (.int 0))) (tVar 6))) (tC (.int 1))) (gName 5))) (tIfS (tAnd (tTest (tOp (rT2 C eqT) (tOp (rT2 C ixT) (tVar 1) (tC (.int 0))) (tC (.str "takes")))) (tAnd (tTest (tOp (rT2 C (inT false)) (tOp (rT2 C ixT) (tVar 1) (tC (.int 1))) (tTup (tCons (tVar 3) (tCons (tVar 4) tNil))))) (tTest (tOp (rT2 C (inT true)) (tOp (rT2 C ixT) (tVar 1) (tC (.int 2))) (tTup (tCons (tVar 3) (tCons (tVar 4) tNil))))))) (tSeq (tAsg (tIf (tTest (tOp (rT2 C eqT) (tOp (rT2 C ixT) (tVar 1) (tC (.int 1))) (tVar 3))) (tVar 4) (tVar 3)) (gName 7))
    (tAsg (tOp (rT2 C eqT) (tOp (rT2 C ixT) (tOp (rT2 C ixT) (tVar 1) (tC (.int 3))) (tOp (rT2 C addT) (tIf (tB (tVar 5)) (tC (.int 2)) (tC (.int 0))) (tIf (tB (tCall (spD C W__law_knows) [] E0 (tCons (tVar 0) (tCons (tOp (rT2 C ixT) (tVar 1) (tC (.int 2))) (tCons (tVar 7) tNil))))) (tC (.int 1)) (tC (.int 0))))) (tC (.int 1))) (gName 5))) (tIfS (tAnd (tTest (tOp (rT2 C eqT) (tOp (rT2 C ixT) (tVar 1) (tC (.int 0))) (tC (.str "tie")))) (tTest (tOp (rT2 C eqT) (tCall (spD C W__law_two) [] E0 (tCons (tOp (rT2 C ixT) (tVar 1) (tC (.int 1))) (tCons (tOp (rT2 C ixT) (tVar 1) (tC (.int 2))) tNil))) (tTup (tCons (tVar 3) (tCons (tVar 4) tNil)))))) (tAsg (tDGet (tDisp [((tC (.str "know")), (tC (.bl true))), ((tC (.str "part")), (tC (.bl false))), ((tC (.str "turn")), (tNotV (tVar 5)))]) (tOp (rT2 C ixT) (tVar 1) (tC (.int 3)))) (gName 5)) tNext)))
    (tIfS (tB (tVar 5)) (tDrop (tBM C.K "list" rAppend (tVar 2) (tCons (tTup (tCons (tVar 3) (tCons (tVar 4) tNil))) tNil))) tNext))))
    (tRet (tTup (tCons (tOp (rT2 C ixT) (tVar 0) (tC (.int 0))) (tCons (tCB (rTn C tupleT) (tCons (tVar 2) tNil)) tNil))))))
theorem d__law_behind {P : Program} {w : World} {K : PySem.W.Frag} {mg : Str → Option Value} {base : Heap} {k : Nat} {f : Addr} {cdv : Value} {A : Around} {outer : List Env} {s : Shared} {H : Hp} {E : XK} {W__law_pairs : List Sl → PK → Prop} {W__law_knows : List Sl → PK → Prop} {W__law_two : List Sl → PK → Prop}
    (hr : Room k (A.deeper (envOfC "_law_behind" (defScope s__law_behind) s.heap.objs.size f cdv))) (B : Blt mg) (h__law_pairs : Has P w K mg base k "_law_pairs" W__law_pairs) (h__law_knows : Has P w K mg base k "_law_knows" W__law_knows) (h__law_two : Has P w K mg base k "_law_two" W__law_two) :
    PSs (cxOf CX0 P w K mg base n__law_behind "_law_behind" (defScope s__law_behind) f cdv A outer s H E).nox (defBody s__law_behind) (t__law_behind ⟨P, w, K⟩ W__law_pairs W__law_knows W__law_two) :=
  (pss_cons (ps_set (i := 2) sc__law_behind.nd rfl (.inl rfl) (pe_lst pa_nil))
    (pss_cons (ps_for PassesOwn.never rfl (pi_list (pe_callH h__law_pairs hr (Nat.le_refl _) (by rfl) (pa_cons (pe_ix ix_Q (pv 0) pe_int (fun _ _ => rfl)) pa_nil))) (pg_tup rfl (pgs_cons (pg_name (i := 3) sc__law_behind.nd rfl (.inl rfl)) (pgs_cons (pg_name (i := 4) sc__law_behind.nd rfl (.inl rfl)) pgs_nil))) (pss_cons (ps_set (i := 5) sc__law_behind.nd rfl (.inl rfl) (pe_callH h__law_knows hr (Nat.le_refl _) (by rfl) (pa_cons (pv 0) (pa_cons (pv 3) (pa_cons (pv 4) pa_nil)))))
    (pss_cons (ps_if (PW.pt (pw_and (pt_cmpR (op_eqQ (u64 hr)) (pe_ix ix_Q (pv 1) pe_int (fun _ _ => rfl)) pe_str (nomark _)) (pw_and1 (pt_cmpR (op_notInQ (u65 hr)) (pe_ix ix_Q (pv 1) pe_int (fun _ _ => rfl)) (pe_tup (pa_cons (pv 3) (pa_cons (pv 4) pa_nil))) (by rfl))))) (pss_cons (ps_set (i := 6) sc__law_behind.nd rfl (.inl rfl) (pe_bm PySem.F.plainAttrs_list PySem.F.slot_list_count PySem.F.type_list_count mt_countQ (pe_lc (own := [("_law_person", 8)]) rfl sc__law_behind.nd (pi_tup (pe_tup (pa_cons (pv 3) (pa_cons (pv 4) pa_nil)))) (blkOk_by (by show blkC n__law_behind (defScope s__law_behind) _ _ = true; decide +kernel)) (fun _ _ _ _ _ => (pg_name (i := 8) sc__law_behind.nd rfl (.inl rfl))) (fun _ _ _ _ _ => pts_nil) (fun _ _ _ _ _ => (pe_callH h__law_knows hr (Nat.le_refl _) (by rfl) (pa_cons (pv 0) (pa_cons (pe_ix ix_Q (pv 1) pe_int (fun _ _ => rfl)) (pa_cons (pv 8) pa_nil)))))) (pa_cons pe_bl pa_nil)))
    (pss_one (ps_set (i := 5) sc__law_behind.nd rfl (.inl rfl) (pe_cmpR (op_eqQ (u64 hr)) (pe_ix ix_Q (pe_ix ix_Q (pv 1) pe_int (fun _ _ => rfl)) (pe_op op_addQ (pe_ifExp (pt_val (pv 5)) pe_int pe_int) (pv 6)) (fun _ _ => rfl)) pe_int (nomark _))))) (pss_one (ps_if (PW.pt (pw_and (pt_cmpR (op_eqQ (u64 hr)) (pe_ix ix_Q (pv 1) pe_int (fun _ _ => rfl)) pe_str (nomark _)) (pw_and (pt_cmpR (op_inQ (u65 hr)) (pe_ix ix_Q (pv 1) pe_int (fun _ _ => rfl)) (pe_tup (pa_cons (pv 3) (pa_cons (pv 4) pa_nil))) (by rfl)) (pw_and1 (pt_cmpR (op_notInQ (u65 hr)) (pe_ix ix_Q (pv 1) pe_int (fun _ _ => rfl)) (pe_tup (pa_cons (pv 3) (pa_cons (pv 4) pa_nil))) (by rfl)))))) (pss_cons (ps_set (i := 7) sc__law_behind.nd rfl (.inl rfl) (pe_ifExp (pt_cmpR (op_eqQ (u64 hr)) (pe_ix ix_Q (pv 1) pe_int (fun _ _ => rfl)) (pv 3) (nomark _)) (pv 4) (pv 3)))
    (pss_one (ps_set (i := 5) sc__law_behind.nd rfl (.inl rfl) (pe_cmpR (op_eqQ (u64 hr)) (pe_ix ix_Q (pe_ix ix_Q (pv 1) pe_int (fun _ _ => rfl)) (pe_op op_addQ (pe_ifExp (pt_val (pv 5)) pe_int pe_int) (pe_ifExp (pt_val (pe_callH h__law_knows hr (Nat.le_refl _) (by rfl) (pa_cons (pv 0) (pa_cons (pe_ix ix_Q (pv 1) pe_int (fun _ _ => rfl)) (pa_cons (pv 7) pa_nil))))) pe_int pe_int)) (fun _ _ => rfl)) pe_int (nomark _))))) (pss_one (ps_if (PW.pt (pw_and (pt_cmpR (op_eqQ (u64 hr)) (pe_ix ix_Q (pv 1) pe_int (fun _ _ => rfl)) pe_str (nomark _)) (pw_and1 (pt_cmpR (op_eqQ (u64 hr)) (pe_callH h__law_two hr (Nat.le_refl _) (by rfl) (pa_cons (pe_ix ix_Q (pv 1) pe_int (fun _ _ => rfl)) (pa_cons (pe_ix ix_Q (pv 1) pe_int (fun _ _ => rfl)) pa_nil))) (pe_tup (pa_cons (pv 3) (pa_cons (pv 4) pa_nil))) (nomark _))))) (pss_one (ps_set (i := 5) sc__law_behind.nd rfl (.inl rfl) (pe_dget (u1 hr) (pe_disp (pps_cons pe_str pe_bl (pps_cons pe_str pe_bl (pps_cons pe_str (pe_not (pv 5)) pps_nil))) rfl rfl (by decide) (by decide)) (pe_ix ix_Q (pv 1) pe_int (fun _ _ => rfl)) (fun _ _ => rfl)))) pss_nil)))))
    (pss_one (ps_if (pt_val (pv 5)) (pss_one (ps_expr (pe_bm PySem.F.plainAttrs_list PySem.F.slot_list_append PySem.F.type_list_append mt_append (pv 2) (pa_cons (pe_tup (pa_cons (pv 3) (pa_cons (pv 4) pa_nil))) pa_nil)))) pss_nil)))))
    (pss_one (ps_ret (pe_tup (pa_cons (pe_ix ix_Q (pv 0) pe_int (fun _ _ => rfl)) (pa_cons (pe_callTy (cr_tupleQ) (by rfl) B.tuple bt_tuple (pa_cons (pv 2) pa_nil)) pa_nil)))))))
abbrev s__law_done : Stmt := topS 48
abbrev n__law_done : List Str := ["_law_company", "_law_script_here", "_law_item"]
abbrev p__law_done : List Str := ["_law_company", "_law_script_here"]
theorem sc__law_done : FnScope n__law_done p__law_done (defScope s__law_done) := ⟨rfl, rfl, rfl, by decide +kernel, rfl, by decide +kernel, by decide +kernel⟩
theorem bn__law_done (kV doc pm : Value) (an : Option Addr) (cdv ct : Value) (us : List Value) (hl : us.length = (p__law_done).length) : bindArgs (PySem.W.fnOf "_law_done" "_law_done" (defArgs s__law_done) (defBody s__law_done) (defScope s__law_done) .none kV doc pm an cdv ct) ⟨us, []⟩ = pure ((p__law_done).zip us) := match us, hl with | [_, _], _ => rfl
def t__law_done (C : Ct) (W__law_done : List Sl → PK → Prop) (W__law_knows : List Sl → PK → Prop) (W__law_behind : List Sl → PK → Prop) : TS :=
  (tSeq (tFor (iTup C.K (tVar 1)) (gName 2) (tIfS (tTest (tOp (rT2 C eqT) (tOp (rT2 C ixT) (tVar 2) (tC (.int 0))) (tC (.str "ask")))) (tAsg (tCall (spD C W__law_done) [] E0 (tCons (tVar 0) (tCons (tIf (tB (tCall (spD C W__law_knows) [] E0 (tCons (tVar 0) (tCons (tOp (rT2 C ixT) (tVar 2) (tC (.int 1))) (tCons (tOp (rT2 C ixT) (tVar 2) (tC (.int 2))) tNil))))) (tOp (rT2 C ixT) (tVar 2) (tC (.int 3))) (tOp (rT2 C ixT) (tVar 2) (tC (.int 4)))) tNil))) (gName 0)) (tAsg (tCall (spD C W__law_behind) [] E0 (tCons (tVar 0) (tCons (tVar 2) tNil))) (gName 0))))
    (tRet (tVar 0)))
theorem d__law_done {P : Program} {w : World} {K : PySem.W.Frag} {mg : Str → Option Value} {base : Heap} {k : Nat} {f : Addr} {cdv : Value} {A : Around} {outer : List Env} {s : Shared} {H : Hp} {E : XK} {W__law_done : List Sl → PK → Prop} {W__law_knows : List Sl → PK → Prop} {W__law_behind : List Sl → PK → Prop}
    (hr : Room k (A.deeper (envOfC "_law_done" (defScope s__law_done) s.heap.objs.size f cdv))) (B : Blt mg) (h__law_done : Has P w K mg base k "_law_done" W__law_done) (h__law_knows : Has P w K mg base k "_law_knows" W__law_knows) (h__law_behind : Has P w K mg base k "_law_behind" W__law_behind) :
    PSs (cxOf CX0 P w K mg base n__law_done "_law_done" (defScope s__law_done) f cdv A outer s H E).nox (defBody s__law_done) (t__law_done ⟨P, w, K⟩ W__law_done W__law_knows W__law_behind) :=
  (pss_cons (ps_for PassesOwn.never rfl (pi_tup (pv 1)) (pg_name (i := 2) sc__law_done.nd rfl (.inl rfl)) (pss_one (ps_if (pt_cmpR (op_eqQ (u64 hr)) (pe_ix ix_Q (pv 2) pe_int (fun _ _ => rfl)) pe_str (nomark _)) (pss_one (ps_set (i := 0) sc__law_done.nd rfl (.inl rfl) (pe_callH h__law_done hr (Nat.le_refl _) (by rfl) (pa_cons (pv 0) (pa_cons (pe_ifExp (pt_val (pe_callH h__law_knows hr (Nat.le_refl _) (by rfl) (pa_cons (pv 0) (pa_cons (pe_ix ix_Q (pv 2) pe_int (fun _ _ => rfl)) (pa_cons (pe_ix ix_Q (pv 2) pe_int (fun _ _ => rfl)) pa_nil))))) (pe_ix ix_Q (pv 2) pe_int (fun _ _ => rfl)) (pe_ix ix_Q (pv 2) pe_int (fun _ _ => rfl))) pa_nil))))) (pss_one (ps_set (i := 0) sc__law_done.nd rfl (.inl rfl) (pe_callH h__law_behind hr (Nat.le_refl _) (by rfl) (pa_cons (pv 0) (pa_cons (pv 2) pa_nil))))))))
    (pss_one (ps_ret (pv 0))))
abbrev s__law_answers : Stmt := topS 49
abbrev n__law_answers : List Str := ["_law_cup_here", "_law_many", "_law_answer"]
abbrev p__law_answers : List Str := ["_law_cup_here", "_law_many"]
theorem sc__law_answers : FnScope n__law_answers p__law_answers (defScope s__law_answers) := ⟨rfl, rfl, rfl, by decide +kernel, rfl, by decide +kernel, by decide +kernel⟩
theorem bn__law_answers (kV doc pm : Value) (an : Option Addr) (cdv ct : Value) (us : List Value) (hl : us.length = (p__law_answers).length) : bindArgs (PySem.W.fnOf "_law_answers" "_law_answers" (defArgs s__law_answers) (defBody s__law_answers) (defScope s__law_answers) .none kV doc pm an cdv ct) ⟨us, []⟩ = pure ((p__law_answers).zip us) := match us, hl with | [_, _], _ => rfl
def t__law_answers (C : Ct) (W__law_roll : List Sl → PK → Prop) : TS :=
  (tRet (tCB (rTn C tupleT) (tCons (tLc (iRng1 (tCons (tVar 1) tNil)) (gName 2) tYes (tCall (spD C W__law_roll) [] E0 (tCons (tVar 0) (tCons (tC (.int 2)) tNil))) [2]) tNil)))
theorem d__law_answers {P : Program} {w : World} {K : PySem.W.Frag} {mg : Str → Option Value} {base : Heap} {k : Nat} {f : Addr} {cdv : Value} {A : Around} {outer : List Env} {s : Shared} {H : Hp} {E : XK} {W__law_roll : List Sl → PK → Prop}
    (hr : Room k (A.deeper (envOfC "_law_answers" (defScope s__law_answers) s.heap.objs.size f cdv))) (B : Blt mg) (h__law_roll : Has P w K mg base k "_law_roll" W__law_roll) :
    PSs (cxOf CX0 P w K mg base n__law_answers "_law_answers" (defScope s__law_answers) f cdv A outer s H E).nox (defBody s__law_answers) (t__law_answers ⟨P, w, K⟩ W__law_roll) :=
  (pss_one (ps_ret (pe_callTy (cr_tupleQ) (by rfl) B.tuple bt_tuple (pa_cons (pe_lc (own := [("_law_answer", 2)]) rfl sc__law_answers.nd (pi_range1 (by rfl) B.range (pa_cons (pv 1) pa_nil)) (blkOk_by (by show blkC n__law_answers (defScope s__law_answers) _ _ = true; decide +kernel)) (fun _ _ _ _ _ => (pg_name (i := 2) sc__law_answers.nd rfl (.inl rfl))) (fun _ _ _ _ _ => pts_nil) (fun _ _ _ _ _ => (pe_callH h__law_roll hr (Nat.le_refl _) (by rfl) (pa_cons (pv 0) (pa_cons pe_int pa_nil))))) pa_nil))))
abbrev s__law_deed : Stmt := topS 50
abbrev n__law_deed : List Str := ["_law_cup_here", "_law_named", "_law_doer", "_law_some_here", "_law_other", "_law_person"]
abbrev p__law_deed : List Str := ["_law_cup_here", "_law_named"]
theorem sc__law_deed : FnScope n__law_deed p__law_deed (defScope s__law_deed) := ⟨rfl, rfl, rfl, by decide +kernel, rfl, by decide +kernel, by decide +kernel⟩
theorem bn__law_deed (kV doc pm : Value) (an : Option Addr) (cdv ct : Value) (us : List Value) (hl : us.length = (p__law_deed).length) : bindArgs (PySem.W.fnOf "_law_deed" "_law_deed" (defArgs s__law_deed) (defBody s__law_deed) (defScope s__law_deed) .none kV doc pm an cdv ct) ⟨us, []⟩ = pure ((p__law_deed).zip us) := match us, hl with | [_, _], _ => rfl
def t__law_deed (C : Ct) (W__law_roll : List Sl → PK → Prop) (W__law_some : List Sl → PK → Prop) (W__law_answers : List Sl → PK → Prop) : TS :=
  (tSeq (tAsg (tCall (spD C W__law_roll) [] E0 (tCons (tVar 0) (tCons (tVar 1) tNil))) (gName 2))
    (tSeq (tIfS (tOr (tTest (tOp (rT2 C eqT) (tVar 1) (tC (.int 1)))) (tTest (tOp (rT2 C ltT) (tCall (spD C W__law_roll) [] E0 (tCons (tVar 0) (tCons (tC (.int 5)) tNil))) (tC (.int 2))))) (tSeq (tAsg (tLst (tCons (tTup (tCons (tC (.int 0)) (tCons (tC (.int 0)) (tCons (tC (.int 1)) (tCons (tC (.int 1)) (tCons (tC (.int 1)) (tCons (tC (.int 1)) tNil))))))) (tCons (tTup (tCons (tC (.int 0)) (tCons (tC (.int 0)) (tCons (tC (.int 0)) (tCons (tC (.int 1)) (tCons (tC (.int 1)) (tCons (tC (.int 0)) tNil))))))) (tCons (tTup (tCons (tC (.int 1)) (tCons (tC (.int 0)) (tCons (tC (.int 0)) (tCons (tC (.int 1)) (tCons (tC (.int 1)) (tCons (tC (.int 1)) tNil))))))) (tCons (tTup (tCons (tC (.int 0)) (tCons (tC (.int 0)) (tCons (tC (.int 1)) (tCons (tC (.int 1)) (tCons (tC (.int 1)) (tCons (tC (.int 0)) tNil))))))) (tCons (tTup (tCons (tC (.int 1)) (tCons (tC (.int 1)) (tCons (tC (.int 1)) (tCons (tC (.int 0)) (tCons (tC (.int 0)) (tCons (tC (.int 0)) tNil))))))) (tCons (tTup (tCons (tC (.int 0)) (tCons (tC (.int 0)) (tCons (tC (.int 0)) (tCons (tC (.int 1)) (tCons (tC (.int 1)) (tCons (tC (.int 1)) tNil))))))) (tCons (tTup (tCons (tC (.int 0)) (tCons (tC (.int 1)) (tCons (tC (.int 0)) (tCons (tC (.int 0)) (tCons (tC (.int 1)) (tCons (tC (.int 0)) tNil))))))) tNil)))))))) (gName 3))
    (tRet (tTup (tCons (tC (.str "pairs")) (tCons (tVar 2) (tCons (tCall (spD C W__law_some) [] E0 (tCons (tVar 0) (tCons (tOp (rT2 C addT) (tVar 3) (tLst (tCons (tCall (spD C W__law_answers) [] E0 (tCons (tVar 0) (tCons (tC (.int 6)) tNil))) (tCons (tCall (spD C W__law_answers) [] E0 (tCons (tVar 0) (tCons (tC (.int 6)) tNil))) (tCons (tCall (spD C W__law_answers) [] E0 (tCons (tVar 0) (tCons (tC (.int 6)) tNil))) tNil))))) tNil))) tNil)))))) tNext)
    (tSeq (tAsg (tCall (spD C W__law_some) [] E0 (tCons (tVar 0) (tCons (tLc (iRng1 (tCons (tVar 1) tNil)) (gName 5) (tTest (tOp (rT2 C neT) (tVar 5) (tVar 2))) (tVar 5) [5]) tNil))) (gName 4))
    (tSeq (tIfS (tTest (tOp (rT2 C gtT) (tCall (spD C W__law_roll) [] E0 (tCons (tVar 0) (tCons (tC (.int 3)) tNil))) (tC (.int 0)))) (tSeq (tAsg (tLst (tCons (tTup (tCons (tC (.int 0)) (tCons (tC (.int 1)) (tCons (tC (.int 0)) (tCons (tC (.int 1)) tNil))))) (tCons (tTup (tCons (tC (.int 0)) (tCons (tC (.int 1)) (tCons (tC (.int 1)) (tCons (tC (.int 0)) tNil))))) (tCons (tTup (tCons (tC (.int 0)) (tCons (tC (.int 1)) (tCons (tC (.int 1)) (tCons (tC (.int 1)) tNil))))) (tCons (tTup (tCons (tC (.int 0)) (tCons (tC (.int 0)) (tCons (tC (.int 0)) (tCons (tC (.int 1)) tNil))))) (tCons (tTup (tCons (tC (.int 0)) (tCons (tC (.int 0)) (tCons (tC (.int 1)) (tCons (tC (.int 1)) tNil))))) (tCons (tCall (spD C W__law_answers) [] E0 (tCons (tVar 0) (tCons (tC (.int 4)) tNil))) (tCons (tCall (spD C W__law_answers) [] E0 (tCons (tVar 0) (tCons (tC (.int 4)) tNil))) tNil)))))))) (gName 3))
    (tRet (tTup (tCons (tC (.str "takes")) (tCons (tVar 2) (tCons (tVar 4) (tCons (tCall (spD C W__law_some) [] E0 (tCons (tVar 0) (tCons (tVar 3) tNil))) tNil))))))) tNext)
    (tRet (tTup (tCons (tC (.str "tie")) (tCons (tVar 2) (tCons (tVar 4) (tCons (tCall (spD C W__law_some) [] E0 (tCons (tVar 0) (tCons (tLst (tCons (tC (.str "know")) (tCons (tC (.str "part")) (tCons (tC (.str "turn")) tNil)))) tNil))) tNil))))))))))
theorem d__law_deed {P : Program} {w : World} {K : PySem.W.Frag} {mg : Str → Option Value} {base : Heap} {k : Nat} {f : Addr} {cdv : Value} {A : Around} {outer : List Env} {s : Shared} {H : Hp} {E : XK} {W__law_roll : List Sl → PK → Prop} {W__law_some : List Sl → PK → Prop} {W__law_answers : List Sl → PK → Prop}
    (hr : Room k (A.deeper (envOfC "_law_deed" (defScope s__law_deed) s.heap.objs.size f cdv))) (B : Blt mg) (h__law_roll : Has P w K mg base k "_law_roll" W__law_roll) (h__law_some : Has P w K mg base k "_law_some" W__law_some) (h__law_answers : Has P w K mg base k "_law_answers" W__law_answers) :
    PSs (cxOf CX0 P w K mg base n__law_deed "_law_deed" (defScope s__law_deed) f cdv A outer s H E).nox (defBody s__law_deed) (t__law_deed ⟨P, w, K⟩ W__law_roll W__law_some W__law_answers) :=
  (pss_cons (ps_set (i := 2) sc__law_deed.nd rfl (.inr rfl) (pe_callH h__law_roll hr (Nat.le_refl _) (by rfl) (pa_cons (pv 0) (pa_cons (pv 1) pa_nil))))
    (pss_cons (ps_if (PW.pt (pw_or (pt_cmpR (op_eqQ (u64 hr)) (pv 1) pe_int (nomark _)) (pw_or1 (pt_cmpR op_ltQ (pe_callH h__law_roll hr (Nat.le_refl _) (by rfl) (pa_cons (pv 0) (pa_cons pe_int pa_nil))) pe_int (nomark _))))) (pss_cons (ps_set (i := 3) sc__law_deed.nd rfl (.inl rfl) (pe_lst (pa_cons (pe_tup (pa_cons pe_int (pa_cons pe_int (pa_cons pe_int (pa_cons pe_int (pa_cons pe_int (pa_cons pe_int pa_nil))))))) (pa_cons (pe_tup (pa_cons pe_int (pa_cons pe_int (pa_cons pe_int (pa_cons pe_int (pa_cons pe_int (pa_cons pe_int pa_nil))))))) (pa_cons (pe_tup (pa_cons pe_int (pa_cons pe_int (pa_cons pe_int (pa_cons pe_int (pa_cons pe_int (pa_cons pe_int pa_nil))))))) (pa_cons (pe_tup (pa_cons pe_int (pa_cons pe_int (pa_cons pe_int (pa_cons pe_int (pa_cons pe_int (pa_cons pe_int pa_nil))))))) (pa_cons (pe_tup (pa_cons pe_int (pa_cons pe_int (pa_cons pe_int (pa_cons pe_int (pa_cons pe_int (pa_cons pe_int pa_nil))))))) (pa_cons (pe_tup (pa_cons pe_int (pa_cons pe_int (pa_cons pe_int (pa_cons pe_int (pa_cons pe_int (pa_cons pe_int pa_nil))))))) (pa_cons (pe_tup (pa_cons pe_int (pa_cons pe_int (pa_cons pe_int (pa_cons pe_int (pa_cons pe_int (pa_cons pe_int pa_nil))))))) pa_nil)))))))))
    (pss_one (ps_ret (pe_tup (pa_cons pe_str (pa_cons (pv 2) (pa_cons (pe_callH h__law_some hr (Nat.le_refl _) (by rfl) (pa_cons (pv 0) (pa_cons (pe_op op_addQ (pv 3) (pe_lst (pa_cons (pe_callH h__law_answers hr (Nat.le_refl _) (by rfl) (pa_cons (pv 0) (pa_cons pe_int pa_nil))) (pa_cons (pe_callH h__law_answers hr (Nat.le_refl _) (by rfl) (pa_cons (pv 0) (pa_cons pe_int pa_nil))) (pa_cons (pe_callH h__law_answers hr (Nat.le_refl _) (by rfl) (pa_cons (pv 0) (pa_cons pe_int pa_nil))) pa_nil))))) pa_nil))) pa_nil))))))) pss_nil)
    (pss_cons (ps_set (i := 4) sc__law_deed.nd rfl (.inl rfl) (pe_callH h__law_some hr (Nat.le_refl _) (by rfl) (pa_cons (pv 0) (pa_cons (pe_lc (own := [("_law_person", 5)]) rfl sc__law_deed.nd (pi_range1 (by rfl) B.range (pa_cons (pv 1) pa_nil)) (blkOk_by (by show blkC n__law_deed (defScope s__law_deed) _ _ = true; decide +kernel)) (fun _ _ _ _ _ => (pg_name (i := 5) sc__law_deed.nd rfl (.inl rfl))) (fun _ _ _ _ _ => (pts_one (pt_cmpR (op_neQ (u64 hr)) (pv 5) (pv 2) (nomark _)))) (fun _ _ _ _ _ => (pv 5))) pa_nil))))
    (pss_cons (ps_if (pt_cmpR op_gtQ (pe_callH h__law_roll hr (Nat.le_refl _) (by rfl) (pa_cons (pv 0) (pa_cons pe_int pa_nil))) pe_int (nomark _)) (pss_cons (ps_set (i := 3) sc__law_deed.nd rfl (.inl rfl) (pe_lst (pa_cons (pe_tup (pa_cons pe_int (pa_cons pe_int (pa_cons pe_int (pa_cons pe_int pa_nil))))) (pa_cons (pe_tup (pa_cons pe_int (pa_cons pe_int (pa_cons pe_int (pa_cons pe_int pa_nil))))) (pa_cons (pe_tup (pa_cons pe_int (pa_cons pe_int (pa_cons pe_int (pa_cons pe_int pa_nil))))) (pa_cons (pe_tup (pa_cons pe_int (pa_cons pe_int (pa_cons pe_int (pa_cons pe_int pa_nil))))) (pa_cons (pe_tup (pa_cons pe_int (pa_cons pe_int (pa_cons pe_int (pa_cons pe_int pa_nil))))) (pa_cons (pe_callH h__law_answers hr (Nat.le_refl _) (by rfl) (pa_cons (pv 0) (pa_cons pe_int pa_nil))) (pa_cons (pe_callH h__law_answers hr (Nat.le_refl _) (by rfl) (pa_cons (pv 0) (pa_cons pe_int pa_nil))) pa_nil)))))))))
    (pss_one (ps_ret (pe_tup (pa_cons pe_str (pa_cons (pv 2) (pa_cons (pv 4) (pa_cons (pe_callH h__law_some hr (Nat.le_refl _) (by rfl) (pa_cons (pv 0) (pa_cons (pv 3) pa_nil))) pa_nil)))))))) pss_nil)
    (pss_one (ps_ret (pe_tup (pa_cons pe_str (pa_cons (pv 2) (pa_cons (pv 4) (pa_cons (pe_callH h__law_some hr (Nat.le_refl _) (by rfl) (pa_cons (pv 0) (pa_cons (pe_lst (pa_cons pe_str (pa_cons pe_str (pa_cons pe_str pa_nil)))) pa_nil))) pa_nil)))))))))))
abbrev s__law_items : Stmt := topS 51
abbrev n__law_items : List Str := ["_law_cup_here", "_law_named", "_law_most", "_law_deep", "_law_found", "_law_turn", "_law_one", "_law_other", "_law_yes", "_law_no", "_law_person"]
abbrev p__law_items : List Str := ["_law_cup_here", "_law_named", "_law_most", "_law_deep"]
theorem sc__law_items : FnScope n__law_items p__law_items (defScope s__law_items) := ⟨rfl, rfl, rfl, by decide +kernel, rfl, by decide +kernel, by decide +kernel⟩
theorem bn__law_items (kV doc pm : Value) (an : Option Addr) (cdv ct : Value) (us : List Value) (hl : us.length = (p__law_items).length) : bindArgs (PySem.W.fnOf "_law_items" "_law_items" (defArgs s__law_items) (defBody s__law_items) (defScope s__law_items) .none kV doc pm an cdv ct) ⟨us, []⟩ = pure ((p__law_items).zip us) := match us, hl with | [_, _, _, _], _ => rfl
def t__law_items (C : Ct) (W__law_roll : List Sl → PK → Prop) (W__law_some : List Sl → PK → Prop) (W__law_items : List Sl → PK → Prop) (W__law_deed : List Sl → PK → Prop) : TS :=
  (tSeq (tAsg (tTup tNil) (gName 4))
    (tSeq (tFor (iRng1 (tCons (tCall (spD C W__law_roll) [] E0 (tCons (tVar 0) (tCons (tOp (rT2 C addT) (tVar 2) (tC (.int 1))) tNil))) tNil)) (gName 5) (tIfS (tAnd (tTest (tOp (rT2 C gtT) (tVar 1) (tC (.int 1)))) (tAnd (tTest (tOp (rT2 C gtT) (tVar 3) (tC (.int 0)))) (tTest (tOp (rT2 C eqT) (tCall (spD C W__law_roll) [] E0 (tCons (tVar 0) (tCons (tC (.int 4)) tNil))) (tC (.int 0)))))) (tSeq (tAsg (tCall (spD C W__law_roll) [] E0 (tCons (tVar 0) (tCons (tVar 1) tNil))) (gName 6))
    (tSeq (tAsg (tCall (spD C W__law_some) [] E0 (tCons (tVar 0) (tCons (tLc (iRng1 (tCons (tVar 1) tNil)) (gName 10) (tTest (tOp (rT2 C neT) (tVar 10) (tVar 6))) (tVar 10) [10]) tNil))) (gName 7))
    (tSeq (tPar 8 9 (tCons (tCall (spD C W__law_items) [] E0 (tCons (tVar 0) (tCons (tVar 1) (tCons (tOp (rT2 C divT) (tVar 2) (tC (.int 2))) (tCons (tOp (rT2 C subT) (tVar 3) (tC (.int 1))) tNil))))) (tCons (tCall (spD C W__law_items) [] E0 (tCons (tVar 0) (tCons (tVar 1) (tCons (tOp (rT2 C divT) (tVar 2) (tC (.int 2))) (tCons (tOp (rT2 C subT) (tVar 3) (tC (.int 1))) tNil))))) tNil)))
    (tAsg (tOp (rT2 C addT) (tVar 4) (tTup (tCons (tTup (tCons (tC (.str "ask")) (tCons (tVar 6) (tCons (tVar 7) (tCons (tVar 8) (tCons (tVar 9) tNil)))))) tNil))) (gName 4))))) (tAsg (tOp (rT2 C addT) (tVar 4) (tTup (tCons (tCall (spD C W__law_deed) [] E0 (tCons (tVar 0) (tCons (tVar 1) tNil))) tNil))) (gName 4))))
    (tRet (tVar 4))))
theorem d__law_items {P : Program} {w : World} {K : PySem.W.Frag} {mg : Str → Option Value} {base : Heap} {k : Nat} {f : Addr} {cdv : Value} {A : Around} {outer : List Env} {s : Shared} {H : Hp} {E : XK} {W__law_roll : List Sl → PK → Prop} {W__law_some : List Sl → PK → Prop} {W__law_items : List Sl → PK → Prop} {W__law_deed : List Sl → PK → Prop}
    (hr : Room k (A.deeper (envOfC "_law_items" (defScope s__law_items) s.heap.objs.size f cdv))) (B : Blt mg) (h__law_roll : Has P w K mg base k "_law_roll" W__law_roll) (h__law_some : Has P w K mg base k "_law_some" W__law_some) (h__law_items : Has P w K mg base k "_law_items" W__law_items) (h__law_deed : Has P w K mg base k "_law_deed" W__law_deed) :
    PSs (cxOf CX0 P w K mg base n__law_items "_law_items" (defScope s__law_items) f cdv A outer s H E).nox (defBody s__law_items) (t__law_items ⟨P, w, K⟩ W__law_roll W__law_some W__law_items W__law_deed) :=
  (pss_cons (ps_set (i := 4) sc__law_items.nd rfl (.inl rfl) (pe_tup pa_nil))
    (pss_cons (ps_for PassesOwn.never rfl (pi_range1 (by rfl) B.range (pa_cons (pe_callH h__law_roll hr (Nat.le_refl _) (by rfl) (pa_cons (pv 0) (pa_cons (pe_op op_addQ (pv 2) pe_int) pa_nil))) pa_nil)) (pg_name (i := 5) sc__law_items.nd rfl (.inl rfl)) (pss_one (ps_if (PW.pt (pw_and (pt_cmpR op_gtQ (pv 1) pe_int (nomark _)) (pw_and (pt_cmpR op_gtQ (pv 3) pe_int (nomark _)) (pw_and1 (pt_cmpR (op_eqQ (u64 hr)) (pe_callH h__law_roll hr (Nat.le_refl _) (by rfl) (pa_cons (pv 0) (pa_cons pe_int pa_nil))) pe_int (nomark _)))))) (pss_cons (ps_set (i := 6) sc__law_items.nd rfl (.inr rfl) (pe_callH h__law_roll hr (Nat.le_refl _) (by rfl) (pa_cons (pv 0) (pa_cons (pv 1) pa_nil))))
    (pss_cons (ps_set (i := 7) sc__law_items.nd rfl (.inl rfl) (pe_callH h__law_some hr (Nat.le_refl _) (by rfl) (pa_cons (pv 0) (pa_cons (pe_lc (own := [("_law_person", 10)]) rfl sc__law_items.nd (pi_range1 (by rfl) B.range (pa_cons (pv 1) pa_nil)) (blkOk_by (by show blkC n__law_items (defScope s__law_items) _ _ = true; decide +kernel)) (fun _ _ _ _ _ => (pg_name (i := 10) sc__law_items.nd rfl (.inl rfl))) (fun _ _ _ _ _ => (pts_one (pt_cmpR (op_neQ (u64 hr)) (pv 10) (pv 6) (nomark _)))) (fun _ _ _ _ _ => (pv 10))) pa_nil))))
    (pss_cons (ps_par (i := 8) (j := 9) rfl sc__law_items.nd rfl rfl (by decide) rfl rfl (pa_cons (pe_callH h__law_items hr (Nat.le_refl _) (by rfl) (pa_cons (pv 0) (pa_cons (pv 1) (pa_cons (pe_op op_divQ (pv 2) pe_int) (pa_cons (pe_op op_subQ (pv 3) pe_int) pa_nil))))) (pa_cons (pe_callH h__law_items hr (Nat.le_refl _) (by rfl) (pa_cons (pv 0) (pa_cons (pv 1) (pa_cons (pe_op op_divQ (pv 2) pe_int) (pa_cons (pe_op op_subQ (pv 3) pe_int) pa_nil))))) pa_nil)) (by rfl))
    (pss_one (ps_set (i := 4) sc__law_items.nd rfl (.inl rfl) (pe_op op_addQ (pv 4) (pe_tup (pa_cons (pe_tup (pa_cons pe_str (pa_cons (pv 6) (pa_cons (pv 7) (pa_cons (pv 8) (pa_cons (pv 9) pa_nil)))))) pa_nil)))))))) (pss_one (ps_set (i := 4) sc__law_items.nd rfl (.inl rfl) (pe_op op_addQ (pv 4) (pe_tup (pa_cons (pe_callH h__law_deed hr (Nat.le_refl _) (by rfl) (pa_cons (pv 0) (pa_cons (pv 1) pa_nil))) pa_nil))))))))
    (pss_one (ps_ret (pv 4)))))
abbrev s__law_count : Stmt := topS 52
abbrev n__law_count : List Str := ["_law_script_here", "_law_found", "_law_item"]
abbrev p__law_count : List Str := ["_law_script_here"]
theorem sc__law_count : FnScope n__law_count p__law_count (defScope s__law_count) := ⟨rfl, rfl, rfl, by decide +kernel, rfl, by decide +kernel, by decide +kernel⟩
theorem bn__law_count (kV doc pm : Value) (an : Option Addr) (cdv ct : Value) (us : List Value) (hl : us.length = (p__law_count).length) : bindArgs (PySem.W.fnOf "_law_count" "_law_count" (defArgs s__law_count) (defBody s__law_count) (defScope s__law_count) .none kV doc pm an cdv ct) ⟨us, []⟩ = pure ((p__law_count).zip us) := match us, hl with | [_], _ => rfl
def t__law_count (C : Ct) (W__law_count : List Sl → PK → Prop) : TS :=
  (tSeq (tAsg (tC (.int 0)) (gName 1))
    (tSeq (tFor (iTup C.K (tVar 0)) (gName 2) (tAsg (tOp (rT2 C addT) (tOp (rT2 C addT) (tVar 1) (tC (.int 1))) (tIf (tTest (tOp (rT2 C eqT) (tOp (rT2 C ixT) (tVar 2) (tC (.int 0))) (tC (.str "ask")))) (tOp (rT2 C addT) (tCall (spD C W__law_count) [] E0 (tCons (tOp (rT2 C ixT) (tVar 2) (tC (.int 3))) tNil)) (tCall (spD C W__law_count) [] E0 (tCons (tOp (rT2 C ixT) (tVar 2) (tC (.int 4))) tNil))) (tC (.int 0)))) (gName 1)))
    (tRet (tVar 1))))
theorem d__law_count {P : Program} {w : World} {K : PySem.W.Frag} {mg : Str → Option Value} {base : Heap} {k : Nat} {f : Addr} {cdv : Value} {A : Around} {outer : List Env} {s : Shared} {H : Hp} {E : XK} {W__law_count : List Sl → PK → Prop}
    (hr : Room k (A.deeper (envOfC "_law_count" (defScope s__law_count) s.heap.objs.size f cdv))) (B : Blt mg) (h__law_count : Has P w K mg base k "_law_count" W__law_count) :
    PSs (cxOf CX0 P w K mg base n__law_count "_law_count" (defScope s__law_count) f cdv A outer s H E).nox (defBody s__law_count) (t__law_count ⟨P, w, K⟩ W__law_count) :=
  (pss_cons (ps_set (i := 1) sc__law_count.nd rfl (.inl rfl) pe_int)
    (pss_cons (ps_for PassesOwn.never rfl (pi_tup (pv 0)) (pg_name (i := 2) sc__law_count.nd rfl (.inl rfl)) (pss_one (ps_set (i := 1) sc__law_count.nd rfl (.inl rfl) (pe_op op_addQ (pe_op op_addQ (pv 1) pe_int) (pe_ifExp (pt_cmpR (op_eqQ (u64 hr)) (pe_ix ix_Q (pv 2) pe_int (fun _ _ => rfl)) pe_str (nomark _)) (pe_op op_addQ (pe_callH h__law_count hr (Nat.le_refl _) (by rfl) (pa_cons (pe_ix ix_Q (pv 2) pe_int (fun _ _ => rfl)) pa_nil)) (pe_callH h__law_count hr (Nat.le_refl _) (by rfl) (pa_cons (pe_ix ix_Q (pv 2) pe_int (fun _ _ => rfl)) pa_nil))) pe_int)))))
    (pss_one (ps_ret (pv 1)))))
abbrev s__law_script : Stmt := topS 53
abbrev n__law_script : List Str := ["_law_cup_here", "_law_named", "_law_most", "_law_deep", "_law_found"]
abbrev p__law_script : List Str := ["_law_cup_here", "_law_named", "_law_most", "_law_deep"]
theorem sc__law_script : FnScope n__law_script p__law_script (defScope s__law_script) := ⟨rfl, rfl, rfl, by decide +kernel, rfl, by decide +kernel, by decide +kernel⟩
theorem bn__law_script (kV doc pm : Value) (an : Option Addr) (cdv ct : Value) (us : List Value) (hl : us.length = (p__law_script).length) : bindArgs (PySem.W.fnOf "_law_script" "_law_script" (defArgs s__law_script) (defBody s__law_script) (defScope s__law_script) .none kV doc pm an cdv ct) ⟨us, []⟩ = pure ((p__law_script).zip us) := match us, hl with | [_, _, _, _], _ => rfl
def t__law_script (C : Ct) (W__law_items : List Sl → PK → Prop) (W__law_count : List Sl → PK → Prop) : TS :=
  (tSeq (tAsg (tCall (spD C W__law_items) [] E0 (tCons (tVar 0) (tCons (tVar 1) (tCons (tVar 2) (tCons (tVar 3) tNil))))) (gName 4))
    (tSeq (tWhile (tTest (tOp (rT2 C gtT) (tCall (spD C W__law_count) [] E0 (tCons (tVar 4) tNil)) (tC (.int 30)))) (tAsg (tSl (rSlA C.K) (tVar 4) (tPart (tC (.int 1))) tNoPart) (gName 4)))
    (tRet (tVar 4))))
theorem d__law_script {P : Program} {w : World} {K : PySem.W.Frag} {mg : Str → Option Value} {base : Heap} {k : Nat} {f : Addr} {cdv : Value} {A : Around} {outer : List Env} {s : Shared} {H : Hp} {E : XK} {W__law_items : List Sl → PK → Prop} {W__law_count : List Sl → PK → Prop}
    (hr : Room k (A.deeper (envOfC "_law_script" (defScope s__law_script) s.heap.objs.size f cdv))) (B : Blt mg) (h__law_items : Has P w K mg base k "_law_items" W__law_items) (h__law_count : Has P w K mg base k "_law_count" W__law_count) :
    PSs (cxOf CX0 P w K mg base n__law_script "_law_script" (defScope s__law_script) f cdv A outer s H E).nox (defBody s__law_script) (t__law_script ⟨P, w, K⟩ W__law_items W__law_count) :=
  (pss_cons (ps_set (i := 4) sc__law_script.nd rfl (.inl rfl) (pe_callH h__law_items hr (Nat.le_refl _) (by rfl) (pa_cons (pv 0) (pa_cons (pv 1) (pa_cons (pv 2) (pa_cons (pv 3) pa_nil))))))
    (pss_cons (ps_while PassesOwn.never (pt_cmpR op_gtQ (pe_callH h__law_count hr (Nat.le_refl _) (by rfl) (pa_cons (pv 4) pa_nil)) pe_int (nomark _)) (pss_one (ps_set (i := 4) sc__law_script.nd rfl (.inl rfl) (pe_slice sl_tupA (pv 4) (po_some pe_int) po_none))))
    (pss_one (ps_ret (pv 4)))))
abbrev s__law_scripts : Stmt := topS 54
abbrev n__law_scripts : List Str := ["_law_cup_here", "_law_named", "_law_found", "_law_turn", "_law_way", "_law_last", "_law_fresh"]
abbrev p__law_scripts : List Str := ["_law_cup_here", "_law_named"]
theorem sc__law_scripts : FnScope n__law_scripts p__law_scripts (defScope s__law_scripts) := ⟨rfl, rfl, rfl, by decide +kernel, rfl, by decide +kernel, by decide +kernel⟩
theorem bn__law_scripts (kV doc pm : Value) (an : Option Addr) (cdv ct : Value) (us : List Value) (hl : us.length = (p__law_scripts).length) : bindArgs (PySem.W.fnOf "_law_scripts" "_law_scripts" (defArgs s__law_scripts) (defBody s__law_scripts) (defScope s__law_scripts) .none kV doc pm an cdv ct) ⟨us, []⟩ = pure ((p__law_scripts).zip us) := match us, hl with | [_, _], _ => rfl
def t__law_scripts (C : Ct) (W__law_script : List Sl → PK → Prop) (W__law_roll : List Sl → PK → Prop) (W__law_count : List Sl → PK → Prop) : TS :=
  (tSeq (tAsg (tTup (tCons (tCall (spD C W__law_script) [] E0 (tCons (tVar 0) (tCons (tVar 1) (tCons (tC (.int 2)) (tCons (tC (.int 1)) tNil))))) tNil)) (gName 2))
    (tSeq (tFor (iRng1 (tCons (tOp (rT2 C addT) (tC (.int 1)) (tCall (spD C W__law_roll) [] E0 (tCons (tVar 0) (tCons (tC (.int 2)) tNil)))) tNil)) (gName 3) (tSeq (tPar 4 5 (tCons (tCall (spD C W__law_roll) [] E0 (tCons (tVar 0) (tCons (tC (.int 4)) tNil))) (tCons (tOp (rT2 C ixT) (tVar 2) (tUn (rT1 C negT) (tC (.int 1)))) tNil)))
    (tSeq (tAsg (tCall (spD C W__law_script) [] E0 (tCons (tVar 0) (tCons (tVar 1) (tCons (tC (.int 2)) (tCons (tC (.int 1)) tNil))))) (gName 6))
    (tAsg (tOp (rT2 C addT) (tVar 2) (tTup (tCons (tIf (tTest (tOp (rT2 C eqT) (tVar 4) (tC (.int 0)))) (tVar 5) (tIf (tAnd (tTest (tOp (rT2 C eqT) (tVar 4) (tC (.int 1)))) (tTest (tOp (rT2 C ltT) (tCall (spD C W__law_count) [] E0 (tCons (tOp (rT2 C addT) (tVar 5) (tVar 6)) tNil)) (tC (.int 31))))) (tOp (rT2 C addT) (tVar 5) (tVar 6)) (tVar 6))) tNil))) (gName 2)))))
    (tRet (tVar 2))))
theorem d__law_scripts {P : Program} {w : World} {K : PySem.W.Frag} {mg : Str → Option Value} {base : Heap} {k : Nat} {f : Addr} {cdv : Value} {A : Around} {outer : List Env} {s : Shared} {H : Hp} {E : XK} {W__law_script : List Sl → PK → Prop} {W__law_roll : List Sl → PK → Prop} {W__law_count : List Sl → PK → Prop}
    (hr : Room k (A.deeper (envOfC "_law_scripts" (defScope s__law_scripts) s.heap.objs.size f cdv))) (B : Blt mg) (h__law_script : Has P w K mg base k "_law_script" W__law_script) (h__law_roll : Has P w K mg base k "_law_roll" W__law_roll) (h__law_count : Has P w K mg base k "_law_count" W__law_count) :
    PSs (cxOf CX0 P w K mg base n__law_scripts "_law_scripts" (defScope s__law_scripts) f cdv A outer s H E).nox (defBody s__law_scripts) (t__law_scripts ⟨P, w, K⟩ W__law_script W__law_roll W__law_count) :=
  (pss_cons (ps_set (i := 2) sc__law_scripts.nd rfl (.inl rfl) (pe_tup (pa_cons (pe_callH h__law_script hr (Nat.le_refl _) (by rfl) (pa_cons (pv 0) (pa_cons (pv 1) (pa_cons pe_int (pa_cons pe_int pa_nil))))) pa_nil)))
    (pss_cons (ps_for PassesOwn.never rfl (pi_range1 (by rfl) B.range (pa_cons (pe_op op_addQ pe_int (pe_callH h__law_roll hr (Nat.le_refl _) (by rfl) (pa_cons (pv 0) (pa_cons pe_int pa_nil)))) pa_nil)) (pg_name (i := 3) sc__law_scripts.nd rfl (.inl rfl)) (pss_cons (ps_par (i := 4) (j := 5) rfl sc__law_scripts.nd rfl rfl (by decide) rfl rfl (pa_cons (pe_callH h__law_roll hr (Nat.le_refl _) (by rfl) (pa_cons (pv 0) (pa_cons pe_int pa_nil))) (pa_cons (pe_ix ix_Q (pv 2) (pe_un un_negQ pe_int) (fun _ _ => rfl)) pa_nil)) (by rfl))
    (pss_cons (ps_set (i := 6) sc__law_scripts.nd rfl (.inl rfl) (pe_callH h__law_script hr (Nat.le_refl _) (by rfl) (pa_cons (pv 0) (pa_cons (pv 1) (pa_cons pe_int (pa_cons pe_int pa_nil))))))
    (pss_one (ps_set (i := 2) sc__law_scripts.nd rfl (.inl rfl) (pe_op op_addQ (pv 2) (pe_tup (pa_cons (pe_ifExp (pt_cmpR (op_eqQ (u64 hr)) (pv 4) pe_int (nomark _)) (pv 5) (pe_ifExp (PW.pt (pw_and (pt_cmpR (op_eqQ (u64 hr)) (pv 4) pe_int (nomark _)) (pw_and1 (pt_cmpR op_ltQ (pe_callH h__law_count hr (Nat.le_refl _) (by rfl) (pa_cons (pe_op op_addQ (pv 5) (pv 6)) pa_nil)) pe_int (nomark _))))) (pe_op op_addQ (pv 5) (pv 6)) (pv 6))) pa_nil))))))))
    (pss_one (ps_ret (pv 2)))))
abbrev s__law_parted : Stmt := topS 55
abbrev n__law_parted : List Str := ["_law_company", "_law_scripts_here", "_law_ends", "_law_script_here", "_law_pair"]
abbrev p__law_parted : List Str := ["_law_company", "_law_scripts_here"]
theorem sc__law_parted : FnScope n__law_parted p__law_parted (defScope s__law_parted) := ⟨rfl, rfl, rfl, by decide +kernel, rfl, by decide +kernel, by decide +kernel⟩
theorem bn__law_parted (kV doc pm : Value) (an : Option Addr) (cdv ct : Value) (us : List Value) (hl : us.length = (p__law_parted).length) : bindArgs (PySem.W.fnOf "_law_parted" "_law_parted" (defArgs s__law_parted) (defBody s__law_parted) (defScope s__law_parted) .none kV doc pm an cdv ct) ⟨us, []⟩ = pure ((p__law_parted).zip us) := match us, hl with | [_, _], _ => rfl
def t__law_parted (C : Ct) (W__law_done : List Sl → PK → Prop) (W__law_pairs : List Sl → PK → Prop) : TS :=
  (tSeq (tAsg (tLc (iTup C.K (tVar 1)) (gName 3) tYes (tCall (spD C W__law_done) [] E0 (tCons (tVar 0) (tCons (tVar 3) tNil))) [3]) (gName 2))
    (tRet (tLc (iList C.K (tCall (spD C W__law_pairs) [] E0 (tCons (tCB (rTn C lenT) (tCons (tVar 1) tNil)) tNil))) (gName 4) (tTest (tOp (rT2 C neT) (tOp (rT2 C ixT) (tVar 2) (tOp (rT2 C ixT) (tVar 4) (tC (.int 0)))) (tOp (rT2 C ixT) (tVar 2) (tOp (rT2 C ixT) (tVar 4) (tC (.int 1)))))) (tVar 4) [4])))
theorem d__law_parted {P : Program} {w : World} {K : PySem.W.Frag} {mg : Str → Option Value} {base : Heap} {k : Nat} {f : Addr} {cdv : Value} {A : Around} {outer : List Env} {s : Shared} {H : Hp} {E : XK} {W__law_done : List Sl → PK → Prop} {W__law_pairs : List Sl → PK → Prop}
    (hr : Room k (A.deeper (envOfC "_law_parted" (defScope s__law_parted) s.heap.objs.size f cdv))) (B : Blt mg) (h__law_done : Has P w K mg base k "_law_done" W__law_done) (h__law_pairs : Has P w K mg base k "_law_pairs" W__law_pairs) :
    PSs (cxOf CX0 P w K mg base n__law_parted "_law_parted" (defScope s__law_parted) f cdv A outer s H E).nox (defBody s__law_parted) (t__law_parted ⟨P, w, K⟩ W__law_done W__law_pairs) :=
  (pss_cons (ps_set (i := 2) sc__law_parted.nd rfl (.inr rfl) (pe_lc (own := [("_law_script_here", 3)]) rfl sc__law_parted.nd (pi_tup (pv 1)) (blkOk_by (by show blkC n__law_parted (defScope s__law_parted) _ _ = true; decide +kernel)) (fun _ _ _ _ _ => (pg_name (i := 3) sc__law_parted.nd rfl (.inl rfl))) (fun _ _ _ _ _ => pts_nil) (fun _ _ _ _ _ => (pe_callH h__law_done hr (Nat.le_refl _) (by rfl) (pa_cons (pv 0) (pa_cons (pv 3) pa_nil))))))
    (pss_one (ps_ret (pe_lc (own := [("_law_pair", 4)]) rfl sc__law_parted.nd (pi_list (pe_callH h__law_pairs hr (Nat.le_refl _) (by rfl) (pa_cons (pe_callB (cr_lenQ) (by rfl) B.len bt_len (pa_cons (pv 1) pa_nil)) pa_nil))) (blkOk_by (by show blkC n__law_parted (defScope s__law_parted) _ _ = true; decide +kernel)) (fun _ _ _ _ _ => (pg_name (i := 4) sc__law_parted.nd rfl (.inl rfl))) (fun _ _ _ _ _ => (pts_one (pt_cmpR (op_neQ (u64 hr)) (pe_ix ix_Q (pv 2) (pe_ix ix_Q (pv 4) pe_int (fun _ _ => rfl)) (fun _ _ => rfl)) (pe_ix ix_Q (pv 2) (pe_ix ix_Q (pv 4) pe_int (fun _ _ => rfl)) (fun _ _ => rfl)) (nomark _)))) (fun _ _ _ _ _ => (pv 4))))))
abbrev s__law_starts : Stmt := topS 56
abbrev n__law_starts : List Str := ["_law_named", "_law_found", "_law_pair", "_law_ties"]
abbrev p__law_starts : List Str := ["_law_named"]
theorem sc__law_starts : FnScope n__law_starts p__law_starts (defScope s__law_starts) := ⟨rfl, rfl, rfl, by decide +kernel, rfl, by decide +kernel, by decide +kernel⟩
theorem bn__law_starts (kV doc pm : Value) (an : Option Addr) (cdv ct : Value) (us : List Value) (hl : us.length = (p__law_starts).length) : bindArgs (PySem.W.fnOf "_law_starts" "_law_starts" (defArgs s__law_starts) (defBody s__law_starts) (defScope s__law_starts) .none kV doc pm an cdv ct) ⟨us, []⟩ = pure ((p__law_starts).zip us) := match us, hl with | [_], _ => rfl
def t__law_starts (C : Ct) (W__law_pairs : List Sl → PK → Prop) : TS :=
  (tSeq (tAsg (tLst (tCons (tTup tNil) tNil)) (gName 1))
    (tSeq (tFor (iList C.K (tCall (spD C W__law_pairs) [] E0 (tCons (tVar 0) tNil))) (gName 2) (tAsg (tOp (rT2 C addT) (tVar 1) (tLc (iList C.K (tVar 1)) (gName 3) tYes (tOp (rT2 C addT) (tVar 3) (tTup (tCons (tVar 2) tNil))) [3])) (gName 1)))
    (tRet (tLc (iList C.K (tCB (rTn C sortedT) (tCons (tVar 1) tNil))) (gName 3) tYes (tTup (tCons (tVar 0) (tCons (tVar 3) tNil))) [3]))))
theorem d__law_starts {P : Program} {w : World} {K : PySem.W.Frag} {mg : Str → Option Value} {base : Heap} {k : Nat} {f : Addr} {cdv : Value} {A : Around} {outer : List Env} {s : Shared} {H : Hp} {E : XK} {W__law_pairs : List Sl → PK → Prop}
    (hr : Room k (A.deeper (envOfC "_law_starts" (defScope s__law_starts) s.heap.objs.size f cdv))) (B : Blt mg) (h__law_pairs : Has P w K mg base k "_law_pairs" W__law_pairs) :
    PSs (cxOf CX0 P w K mg base n__law_starts "_law_starts" (defScope s__law_starts) f cdv A outer s H E).nox (defBody s__law_starts) (t__law_starts ⟨P, w, K⟩ W__law_pairs) :=
  (pss_cons (ps_set (i := 1) sc__law_starts.nd rfl (.inl rfl) (pe_lst (pa_cons (pe_tup pa_nil) pa_nil)))
    (pss_cons (ps_for PassesOwn.never rfl (pi_list (pe_callH h__law_pairs hr (Nat.le_refl _) (by rfl) (pa_cons (pv 0) pa_nil))) (pg_name (i := 2) sc__law_starts.nd rfl (.inr rfl)) (pss_one (ps_set (i := 1) sc__law_starts.nd rfl (.inl rfl) (pe_op op_addQ (pv 1) (pe_lc (own := [("_law_ties", 3)]) rfl sc__law_starts.nd (pi_list (pv 1)) (blkOk_by (by show blkC n__law_starts (defScope s__law_starts) _ _ = true; decide +kernel)) (fun _ _ _ _ _ => (pg_name (i := 3) sc__law_starts.nd rfl (.inl rfl))) (fun _ _ _ _ _ => pts_nil) (fun _ _ _ _ _ => (pe_op op_addQ (pv 3) (pe_tup (pa_cons (pv 2) pa_nil)))))))))
    (pss_one (ps_ret (pe_lc (own := [("_law_ties", 3)]) rfl sc__law_starts.nd (pi_list (pe_callB (cr_sortedQ rfl (u100 hr)) (by rfl) B.sorted bt_sorted (pa_cons (pv 1) pa_nil))) (blkOk_by (by show blkC n__law_starts (defScope s__law_starts) _ _ = true; decide +kernel)) (fun _ _ _ _ _ => (pg_name (i := 3) sc__law_starts.nd rfl (.inl rfl))) (fun _ _ _ _ _ => pts_nil) (fun _ _ _ _ _ => (pe_tup (pa_cons (pv 0) (pa_cons (pv 3) pa_nil)))))))))
abbrev s__law_parted_at : Stmt := topS 57
abbrev n__law_parted_at : List Str := ["_law_named", "_law_start", "_law_scripts_here", "_law_found", "_law_lots", "_law_pair", "_law_lot", "_law_two_here"]
abbrev p__law_parted_at : List Str := ["_law_named", "_law_start", "_law_scripts_here"]
theorem sc__law_parted_at : FnScope n__law_parted_at p__law_parted_at (defScope s__law_parted_at) := ⟨rfl, rfl, rfl, by decide +kernel, rfl, by decide +kernel, by decide +kernel⟩
theorem bn__law_parted_at (kV doc pm : Value) (an : Option Addr) (cdv ct : Value) (us : List Value) (hl : us.length = (p__law_parted_at).length) : bindArgs (PySem.W.fnOf "_law_parted_at" "_law_parted_at" (defArgs s__law_parted_at) (defBody s__law_parted_at) (defScope s__law_parted_at) .none kV doc pm an cdv ct) ⟨us, []⟩ = pure ((p__law_parted_at).zip us) := match us, hl with | [_, _, _], _ => rfl
def t__law_parted_at (C : Ct) (W__law_pairs : List Sl → PK → Prop) (W__law_parted : List Sl → PK → Prop) : TS :=
  (tSeq (tAsg (tTup (tCons (tLst tNil) (tCons (tLst (tCons (tTup tNil) tNil)) tNil))) (gTup C.K 2 (gCons (gName 3) (gCons (gName 4) gNil))))
    (tSeq (tFor (iList C.K (tLc (iList C.K (tCall (spD C W__law_pairs) [] E0 (tCons (tOp (rT2 C addT) (tVar 0) (tC (.int 2))) tNil))) (gName 7) (tTest (tOp (rT2 C geT) (tOp (rT2 C ixT) (tVar 7) (tC (.int 1))) (tVar 0))) (tVar 7) [7])) (gName 5) (tAsg (tOp (rT2 C addT) (tVar 4) (tLc (iList C.K (tVar 4)) (gName 6) tYes (tOp (rT2 C addT) (tVar 6) (tTup (tCons (tVar 5) tNil))) [6])) (gName 4)))
    (tSeq (tFor (iList C.K (tVar 4)) (gName 6) (tAsg (tOp (rT2 C addT) (tVar 3) (tLc (iList C.K (tCall (spD C W__law_parted) [] E0 (tCons (tTup (tCons (tOp (rT2 C addT) (tVar 0) (tC (.int 2))) (tCons (tCB (rTn C tupleT) (tCons (tCB (rTn C sortedT) (tCons (tOp (rT2 C addT) (tOp (rT2 C ixT) (tVar 1) (tC (.int 1))) (tVar 6)) tNil)) tNil)) tNil))) (tCons (tVar 2) tNil)))) (gName 5) (tTest (tOp (rT2 C (inT true)) (tVar 5) (tVar 3))) (tVar 5) [5])) (gName 3)))
    (tRet (tCB (rTn C sortedT) (tCons (tVar 3) tNil))))))
theorem d__law_parted_at {P : Program} {w : World} {K : PySem.W.Frag} {mg : Str → Option Value} {base : Heap} {k : Nat} {f : Addr} {cdv : Value} {A : Around} {outer : List Env} {s : Shared} {H : Hp} {E : XK} {W__law_pairs : List Sl → PK → Prop} {W__law_parted : List Sl → PK → Prop}
    (hr : Room k (A.deeper (envOfC "_law_parted_at" (defScope s__law_parted_at) s.heap.objs.size f cdv))) (B : Blt mg) (h__law_pairs : Has P w K mg base k "_law_pairs" W__law_pairs) (h__law_parted : Has P w K mg base k "_law_parted" W__law_parted) :
    PSs (cxOf CX0 P w K mg base n__law_parted_at "_law_parted_at" (defScope s__law_parted_at) f cdv A outer s H E).nox (defBody s__law_parted_at) (t__law_parted_at ⟨P, w, K⟩ W__law_pairs W__law_parted) :=
  (pss_cons (ps_asg (pe_tup (pa_cons (pe_lst pa_nil) (pa_cons (pe_lst (pa_cons (pe_tup pa_nil) pa_nil)) pa_nil))) (pg_tup rfl (pgs_cons (pg_name (i := 3) sc__law_parted_at.nd rfl (.inr rfl)) (pgs_cons (pg_name (i := 4) sc__law_parted_at.nd rfl (.inl rfl)) pgs_nil))))
    (pss_cons (ps_for PassesOwn.never rfl (pi_list (pe_lc (own := [("_law_two_here", 7)]) rfl sc__law_parted_at.nd (pi_list (pe_callH h__law_pairs hr (Nat.le_refl _) (by rfl) (pa_cons (pe_op op_addQ (pv 0) pe_int) pa_nil))) (blkOk_by (by show blkC n__law_parted_at (defScope s__law_parted_at) _ _ = true; decide +kernel)) (fun _ _ _ _ _ => (pg_name (i := 7) sc__law_parted_at.nd rfl (.inl rfl))) (fun _ _ _ _ _ => (pts_one (pt_cmpR op_geQ (pe_ix ix_Q (pv 7) pe_int (fun _ _ => rfl)) (pv 0) (nomark _)))) (fun _ _ _ _ _ => (pv 7)))) (pg_name (i := 5) sc__law_parted_at.nd rfl (.inr rfl)) (pss_one (ps_set (i := 4) sc__law_parted_at.nd rfl (.inl rfl) (pe_op op_addQ (pv 4) (pe_lc (own := [("_law_lot", 6)]) rfl sc__law_parted_at.nd (pi_list (pv 4)) (blkOk_by (by show blkC n__law_parted_at (defScope s__law_parted_at) _ _ = true; decide +kernel)) (fun _ _ _ _ _ => (pg_name (i := 6) sc__law_parted_at.nd rfl (.inl rfl))) (fun _ _ _ _ _ => pts_nil) (fun _ _ _ _ _ => (pe_op op_addQ (pv 6) (pe_tup (pa_cons (pv 5) pa_nil)))))))))
    (pss_cons (ps_for PassesOwn.never rfl (pi_list (pv 4)) (pg_name (i := 6) sc__law_parted_at.nd rfl (.inl rfl)) (pss_one (ps_set (i := 3) sc__law_parted_at.nd rfl (.inr rfl) (pe_op op_addQ (pv 3) (pe_lc (own := [("_law_pair", 5)]) rfl sc__law_parted_at.nd (pi_list (pe_callH h__law_parted hr (Nat.le_refl _) (by rfl) (pa_cons (pe_tup (pa_cons (pe_op op_addQ (pv 0) pe_int) (pa_cons (pe_callTy (cr_tupleQ) (by rfl) B.tuple bt_tuple (pa_cons (pe_callB (cr_sortedQ rfl (u100 hr)) (by rfl) B.sorted bt_sorted (pa_cons (pe_op op_addQ (pe_ix ix_Q (pv 1) pe_int (fun _ _ => rfl)) (pv 6)) pa_nil)) pa_nil)) pa_nil))) (pa_cons (pv 2) pa_nil)))) (blkOk_by (by show blkC n__law_parted_at (defScope s__law_parted_at) _ _ = true; decide +kernel)) (fun _ _ _ _ _ => (pg_name (i := 5) sc__law_parted_at.nd rfl (.inl rfl))) (fun _ _ _ _ _ => (pts_one (pt_cmpR (op_notInQ (u65 hr)) (pv 5) (pv 3) (by rfl)))) (fun _ _ _ _ _ => (pv 5)))))))
    (pss_one (ps_ret (pe_callB (cr_sortedQ rfl (u100 hr)) (by rfl) B.sorted bt_sorted (pa_cons (pv 3) pa_nil)))))))
abbrev s__law_least : Stmt := topS 58
abbrev n__law_least : List Str := ["_law_named", "_law_scripts_here", "_law_starts_here", "_law_parted_here", "_law_wanted", "_law_lots", "_law_at", "_law_lot", "_law_many", "_law_start"]
abbrev p__law_least : List Str := ["_law_named", "_law_scripts_here"]
theorem sc__law_least : FnScope n__law_least p__law_least (defScope s__law_least) := ⟨rfl, rfl, rfl, by decide +kernel, rfl, by decide +kernel, by decide +kernel⟩
theorem bn__law_least (kV doc pm : Value) (an : Option Addr) (cdv ct : Value) (us : List Value) (hl : us.length = (p__law_least).length) : bindArgs (PySem.W.fnOf "_law_least" "_law_least" (defArgs s__law_least) (defBody s__law_least) (defScope s__law_least) .none kV doc pm an cdv ct) ⟨us, []⟩ = pure ((p__law_least).zip us) := match us, hl with | [_, _], _ => rfl
def t__law_least (C : Ct) (W__law_starts : List Sl → PK → Prop) (W__law_parted_at : List Sl → PK → Prop) : TS :=
  (tSeq (tAsg (tCall (spD C W__law_starts) [] E0 (tCons (tVar 0) tNil)) (gName 2))
    (tSeq (tAsg (tLc (iList C.K (tVar 2)) (gName 9) tYes (tCall (spD C W__law_parted_at) [] E0 (tCons (tVar 0) (tCons (tVar 9) (tCons (tVar 1) tNil)))) [9]) (gName 3))
    (tSeq (tAsg (tCB (rSortedT C.K C.P C.w) (tCons (tCB (rSetOfT C.K C.P C.w) (tCons (tCB (rTn C sumLT) (tCons (tVar 3) (tCons (tLst tNil) tNil))) tNil)) tNil)) (gName 4))
    (tSeq (tAsg (tLst (tCons (tTup tNil) tNil)) (gName 5))
    (tSeq (tFor (iRng1 (tCons (tCB (rTn C lenT) (tCons (tVar 2) tNil)) tNil)) (gName 6) (tAsg (tOp (rT2 C addT) (tVar 5) (tLc (iList C.K (tVar 5)) (gName 7) tYes (tOp (rT2 C addT) (tVar 7) (tTup (tCons (tVar 6) tNil))) [7])) (gName 5)))
    (tSeq (tFor (iList C.K (tCB (rTn C sortedT) (tCons (tLc (iList C.K (tVar 5)) (gName 7) tYes (tTup (tCons (tCB (rTn C lenT) (tCons (tVar 7) tNil)) (tCons (tVar 7) tNil))) [7]) tNil))) (gTup C.K 2 (gCons (gName 8) (gCons (gName 7) gNil))) (tIfS (tTest (tOp (rT2 C eqT) (tCB (rSortedT C.K C.P C.w) (tCons (tCB (rSetOfT C.K C.P C.w) (tCons (tCB (rTn C sumLT) (tCons (tLc (iTup C.K (tVar 7)) (gName 6) tYes (tOp (rT2 C ixT) (tVar 3) (tVar 6)) [6]) (tCons (tLst tNil) tNil))) tNil)) tNil)) (tVar 4))) (tRet (tCB (rTn C tupleT) (tCons (tLc (iTup C.K (tVar 7)) (gName 6) tYes (tOp (rT2 C ixT) (tVar 2) (tVar 6)) [6]) tNil))) tNext))
    (tRet (tC .non))))))))
theorem d__law_least {P : Program} {w : World} {K : PySem.W.Frag} {mg : Str → Option Value} {base : Heap} {k : Nat} {f : Addr} {cdv : Value} {A : Around} {outer : List Env} {s : Shared} {H : Hp} {E : XK} {W__law_starts : List Sl → PK → Prop} {W__law_parted_at : List Sl → PK → Prop}
    (hr : Room k (A.deeper (envOfC "_law_least" (defScope s__law_least) s.heap.objs.size f cdv))) (B : Blt mg) (h__law_starts : Has P w K mg base k "_law_starts" W__law_starts) (h__law_parted_at : Has P w K mg base k "_law_parted_at" W__law_parted_at) :
    PSs (cxOf CX0 P w K mg base n__law_least "_law_least" (defScope s__law_least) f cdv A outer s H E).nox (defBody s__law_least) (t__law_least ⟨P, w, K⟩ W__law_starts W__law_parted_at) :=
  (pss_cons (ps_set (i := 2) sc__law_least.nd rfl (.inr rfl) (pe_callH h__law_starts hr (Nat.le_refl _) (by rfl) (pa_cons (pv 0) pa_nil)))
    (pss_cons (ps_set (i := 3) sc__law_least.nd rfl (.inr rfl) (pe_lc (own := [("_law_start", 9)]) rfl sc__law_least.nd (pi_list (pv 2)) (blkOk_by (by show blkC n__law_least (defScope s__law_least) _ _ = true; decide +kernel)) (fun _ _ _ _ _ => (pg_name (i := 9) sc__law_least.nd rfl (.inl rfl))) (fun _ _ _ _ _ => pts_nil) (fun _ _ _ _ _ => (pe_callH h__law_parted_at hr (Nat.le_refl _) (by rfl) (pa_cons (pv 0) (pa_cons (pv 9) (pa_cons (pv 1) pa_nil)))))))
    (pss_cons (ps_set (i := 4) sc__law_least.nd rfl (.inl rfl) (pe_callB (cr_sortedT rfl) (by rfl) B.sorted bt_sorted (pa_cons (pe_callTy (cr_setOfT rfl (u64 hr)) (by rfl) B.set bt_set (pa_cons (pe_callB (cr_sumLQ rfl) (by rfl) B.sum bt_sum (pa_cons (pv 3) (pa_cons (pe_lst pa_nil) pa_nil))) pa_nil)) pa_nil)))
    (pss_cons (ps_set (i := 5) sc__law_least.nd rfl (.inl rfl) (pe_lst (pa_cons (pe_tup pa_nil) pa_nil)))
    (pss_cons (ps_for PassesOwn.never rfl (pi_range1 (by rfl) B.range (pa_cons (pe_callB (cr_lenQ) (by rfl) B.len bt_len (pa_cons (pv 2) pa_nil)) pa_nil)) (pg_name (i := 6) sc__law_least.nd rfl (.inr rfl)) (pss_one (ps_set (i := 5) sc__law_least.nd rfl (.inl rfl) (pe_op op_addQ (pv 5) (pe_lc (own := [("_law_lot", 7)]) rfl sc__law_least.nd (pi_list (pv 5)) (blkOk_by (by show blkC n__law_least (defScope s__law_least) _ _ = true; decide +kernel)) (fun _ _ _ _ _ => (pg_name (i := 7) sc__law_least.nd rfl (.inl rfl))) (fun _ _ _ _ _ => pts_nil) (fun _ _ _ _ _ => (pe_op op_addQ (pv 7) (pe_tup (pa_cons (pv 6) pa_nil)))))))))
    (pss_cons (ps_for PassesOwn.never rfl (pi_list (pe_callB (cr_sortedQ rfl (u100 hr)) (by rfl) B.sorted bt_sorted (pa_cons (pe_lc (own := [("_law_lot", 7)]) rfl sc__law_least.nd (pi_list (pv 5)) (blkOk_by (by show blkC n__law_least (defScope s__law_least) _ _ = true; decide +kernel)) (fun _ _ _ _ _ => (pg_name (i := 7) sc__law_least.nd rfl (.inl rfl))) (fun _ _ _ _ _ => pts_nil) (fun _ _ _ _ _ => (pe_tup (pa_cons (pe_callB (cr_lenQ) (by rfl) B.len bt_len (pa_cons (pv 7) pa_nil)) (pa_cons (pv 7) pa_nil))))) pa_nil))) (pg_tup rfl (pgs_cons (pg_name (i := 8) sc__law_least.nd rfl (.inl rfl)) (pgs_cons (pg_name (i := 7) sc__law_least.nd rfl (.inl rfl)) pgs_nil))) (pss_one (ps_if (pt_cmpR (op_eqQ (u64 hr)) (pe_callB (cr_sortedT rfl) (by rfl) B.sorted bt_sorted (pa_cons (pe_callTy (cr_setOfT rfl (u64 hr)) (by rfl) B.set bt_set (pa_cons (pe_callB (cr_sumLQ rfl) (by rfl) B.sum bt_sum (pa_cons (pe_lc (own := [("_law_at", 6)]) rfl sc__law_least.nd (pi_tup (pv 7)) (blkOk_by (by show blkC n__law_least (defScope s__law_least) _ _ = true; decide +kernel)) (fun _ _ _ _ _ => (pg_name (i := 6) sc__law_least.nd rfl (.inl rfl))) (fun _ _ _ _ _ => pts_nil) (fun _ _ _ _ _ => (pe_ix ix_Q (pv 3) (pv 6) (fun _ _ => rfl)))) (pa_cons (pe_lst pa_nil) pa_nil))) pa_nil)) pa_nil)) (pv 4) (nomark _)) (pss_one (ps_ret (pe_callTy (cr_tupleQ) (by rfl) B.tuple bt_tuple (pa_cons (pe_lc (own := [("_law_at", 6)]) rfl sc__law_least.nd (pi_tup (pv 7)) (blkOk_by (by show blkC n__law_least (defScope s__law_least) _ _ = true; decide +kernel)) (fun _ _ _ _ _ => (pg_name (i := 6) sc__law_least.nd rfl (.inl rfl))) (fun _ _ _ _ _ => pts_nil) (fun _ _ _ _ _ => (pe_ix ix_Q (pv 2) (pv 6) (fun _ _ => rfl)))) pa_nil)))) pss_nil)))
    (pss_one (ps_ret pe_non))))))))
abbrev s_law : Stmt := topS 59
abbrev n_law : List Str := ["_law_script_here", "_law_cup_here", "_law_turn", "_law_named", "_law_scripts_here", "_law_k", "_law_none", "_law_tied", "_law_part", "_law_know", "_law_rows", "_law_row"]
abbrev p_law : List Str := ["_law_script_here"]
theorem sc_law : FnScope n_law p_law (defScope s_law) := ⟨rfl, rfl, rfl, by decide +kernel, rfl, by decide +kernel, by decide +kernel⟩
theorem bn_law (kV doc pm : Value) (an : Option Addr) (cdv ct : Value) (us : List Value) (hl : us.length = (p_law).length) : bindArgs (PySem.W.fnOf "law" "law" (defArgs s_law) (defBody s_law) (defScope s_law) .none kV doc pm an cdv ct) ⟨us, []⟩ = pure ((p_law).zip us) := match us, hl with | [_], _ => rfl
def t_law (C : Ct) (W__law_some : List Sl → PK → Prop) (W__law_scripts : List Sl → PK → Prop) (W_telling_starts : List Sl → PK → Prop) (W__law_least : List Sl → PK → Prop) : TS :=
  (tSeq (tFor (iRng1 (tCons (tC (.int 2)) tNil)) (gName 2) (tSeq (tAsg (tCall (spD C W__law_some) [] E0 (tCons (tVar 1) (tCons (tLst (tCons (tC (.int 1)) (tCons (tC (.int 2)) (tCons (tC (.int 2)) (tCons (tC (.int 2)) tNil))))) tNil))) (gName 3))
    (tSeq (tAsg (tCall (spD C W__law_scripts) [] E0 (tCons (tVar 1) (tCons (tVar 3) tNil))) (gName 4))
    (tIfS (tTest (tOp (rT2 C neT) (tCall (spD C W_telling_starts) [] E0 (tCons (tVar 3) (tCons (tVar 4) tNil))) (tCall (spD C W__law_least) [] E0 (tCons (tVar 3) (tCons (tVar 4) tNil))))) (tRet (tC (.bl false))) tNext))))
    (tSeq (tAsg (tTup (tCons (tTup (tCons (tTup (tCons (tC (.str "pairs")) (tCons (tC (.int 0)) (tCons (tTup (tCons (tC (.int 0)) (tCons (tC (.int 0)) (tCons (tC (.int 1)) (tCons (tC (.int 1)) (tCons (tC (.int 1)) (tCons (tC (.int 0)) tNil))))))) tNil)))) tNil)) (tCons (tTup (tCons (tC (.int 2)) (tCons (tTup tNil) tNil))) (tCons (tTup (tCons (tC (.int 2)) (tCons (tTup (tCons (tTup (tCons (tC (.int 0)) (tCons (tC (.int 1)) tNil))) tNil)) tNil))) tNil)))) (gTup C.K 3 (gCons (gName 5) (gCons (gName 6) (gCons (gName 7) gNil)))))
    (tSeq (tAsg (tTup (tCons (tTup (tCons (tTup (tCons (tC (.str "tie")) (tCons (tC (.int 0)) (tCons (tC (.int 1)) (tCons (tC (.str "part")) tNil))))) tNil)) (tCons (tTup (tCons (tTup (tCons (tC (.str "tie")) (tCons (tC (.int 0)) (tCons (tC (.int 1)) (tCons (tC (.str "know")) tNil))))) tNil)) (tCons (tTup (tCons (tTup (tCons (tC (.str "tie")) (tCons (tC (.int 0)) (tCons (tC (.int 1)) (tCons (tC (.str "turn")) tNil))))) tNil)) tNil)))) (gTup C.K 3 (gCons (gName 8) (gCons (gName 9) (gCons (gName 2) gNil)))))
    (tSeq (tAsg (tLst (tCons (tTup (tCons (tC (.int 1)) (tCons (tTup (tCons (tVar 5) (tCons (tVar 5) (tCons (tTup tNil) tNil)))) (tCons (tTup (tCons (tTup (tCons (tC (.int 1)) (tCons (tTup tNil) tNil))) tNil)) tNil)))) (tCons (tTup (tCons (tC (.int 1)) (tCons (tTup (tCons (tVar 5) (tCons (tVar 5) tNil))) (tCons (tTup tNil) tNil)))) (tCons (tTup (tCons (tC (.int 2)) (tCons (tTup (tCons (tTup tNil) (tCons (tVar 8) (tCons (tVar 9) tNil)))) (tCons (tTup (tCons (tVar 6) (tCons (tVar 7) tNil))) tNil)))) (tCons (tTup (tCons (tC (.int 2)) (tCons (tTup (tCons (tTup tNil) (tCons (tVar 8) tNil))) (tCons (tTup (tCons (tVar 7) tNil)) tNil)))) (tCons (tTup (tCons (tC (.int 2)) (tCons (tTup (tCons (tTup tNil) (tCons (tVar 9) tNil))) (tCons (tTup (tCons (tVar 6) tNil)) tNil)))) (tCons (tTup (tCons (tC (.int 2)) (tCons (tTup (tCons (tTup tNil) (tCons (tVar 2) tNil))) (tCons (tTup (tCons (tVar 6) tNil)) tNil)))) tNil))))))) (gName 10))
    (tSeq (tAsg (tOp (rT2 C addT) (tVar 10) (tLst (tCons (tTup (tCons (tC (.int 2)) (tCons (tTup (tCons (tTup (tCons (tTup (tCons (tC (.str "ask")) (tCons (tC (.int 0)) (tCons (tC (.int 1)) (tCons (tVar 5) (tCons (tTup tNil) tNil)))))) tNil)) (tCons (tTup tNil) tNil))) (tCons (tTup (tCons (tVar 7) tNil)) tNil)))) (tCons (tTup (tCons (tC (.int 2)) (tCons (tTup (tCons (tTup (tCons (tTup (tCons (tC (.str "ask")) (tCons (tC (.int 0)) (tCons (tC (.int 1)) (tCons (tVar 5) (tCons (tTup tNil) tNil)))))) tNil)) (tCons (tTup tNil) (tCons (tTup (tCons (tTup (tCons (tC (.str "ask")) (tCons (tC (.int 0)) (tCons (tC (.int 1)) (tCons (tTup tNil) (tCons (tVar 5) tNil)))))) tNil)) tNil)))) (tCons (tTup (tCons (tVar 6) (tCons (tVar 7) tNil))) tNil)))) (tCons (tTup (tCons (tC (.int 2)) (tCons (tTup (tCons (tVar 5) (tCons (tTup tNil) (tCons (tVar 2) tNil)))) (tCons (tTup (tCons (tVar 6) tNil)) tNil)))) tNil))))) (gName 10))
    (tSeq (tAsg (tOp (rT2 C addT) (tVar 10) (tLst (tCons (tTup (tCons (tC (.int 2)) (tCons (tTup (tCons (tVar 8) (tCons (tVar 9) (tCons (tVar 2) tNil)))) (tCons (tTup (tCons (tVar 6) (tCons (tVar 7) tNil))) tNil)))) (tCons (tTup (tCons (tC (.int 2)) (tCons (tTup (tCons (tOp (rT2 C addT) (tVar 2) (tVar 2)) (tCons (tTup tNil) tNil))) (tCons (tTup tNil) tNil)))) tNil)))) (gName 10))
    (tRet (tOp (rT2 C eqT) (tLc (iList C.K (tVar 10)) (gName 11) (tOr (tTest (tOp (rT2 C neT) (tCall (spD C W_telling_starts) [] E0 (tCons (tOp (rT2 C ixT) (tVar 11) (tC (.int 0))) (tCons (tOp (rT2 C ixT) (tVar 11) (tC (.int 1))) tNil))) (tOp (rT2 C ixT) (tVar 11) (tC (.int 2))))) (tTest (tOp (rT2 C neT) (tCall (spD C W__law_least) [] E0 (tCons (tOp (rT2 C ixT) (tVar 11) (tC (.int 0))) (tCons (tOp (rT2 C ixT) (tVar 11) (tC (.int 1))) tNil))) (tOp (rT2 C ixT) (tVar 11) (tC (.int 2)))))) (tVar 11) [11]) (tLst tNil)))))))))
theorem d_law {P : Program} {w : World} {K : PySem.W.Frag} {mg : Str → Option Value} {base : Heap} {k : Nat} {f : Addr} {cdv : Value} {A : Around} {outer : List Env} {s : Shared} {H : Hp} {E : XK} {W__law_some : List Sl → PK → Prop} {W__law_scripts : List Sl → PK → Prop} {W_telling_starts : List Sl → PK → Prop} {W__law_least : List Sl → PK → Prop}
    (hr : Room k (A.deeper (envOfC "law" (defScope s_law) s.heap.objs.size f cdv))) (B : Blt mg) (h__law_some : Has P w K mg base k "_law_some" W__law_some) (h__law_scripts : Has P w K mg base k "_law_scripts" W__law_scripts) (h_telling_starts : Has P w K mg base k "telling_starts" W_telling_starts) (h__law_least : Has P w K mg base k "_law_least" W__law_least) :
    PSs (cxOf CX0 P w K mg base n_law "law" (defScope s_law) f cdv A outer s H E).nox ((defBody s_law).tail) (t_law ⟨P, w, K⟩ W__law_some W__law_scripts W_telling_starts W__law_least) :=
  (pss_cons (ps_for PassesOwn.never rfl (pi_range1 (by rfl) B.range (pa_cons pe_int pa_nil)) (pg_name (i := 2) sc_law.nd rfl (.inl rfl)) (pss_cons (ps_set (i := 3) sc_law.nd rfl (.inl rfl) (pe_callH h__law_some hr (Nat.le_refl _) (by rfl) (pa_cons (pv 1) (pa_cons (pe_lst (pa_cons pe_int (pa_cons pe_int (pa_cons pe_int (pa_cons pe_int pa_nil))))) pa_nil))))
    (pss_cons (ps_set (i := 4) sc_law.nd rfl (.inl rfl) (pe_callH h__law_scripts hr (Nat.le_refl _) (by rfl) (pa_cons (pv 1) (pa_cons (pv 3) pa_nil))))
    (pss_one (ps_if (pt_cmpR (op_neQ (u64 hr)) (pe_callH h_telling_starts hr (Nat.le_refl _) (by rfl) (pa_cons (pv 3) (pa_cons (pv 4) pa_nil))) (pe_callH h__law_least hr (Nat.le_refl _) (by rfl) (pa_cons (pv 3) (pa_cons (pv 4) pa_nil))) (nomark _)) (pss_one (ps_ret pe_bl)) pss_nil)))))
    (pss_cons (ps_asg (pe_tup (pa_cons (pe_tup (pa_cons (pe_tup (pa_cons pe_str (pa_cons pe_int (pa_cons (pe_tup (pa_cons pe_int (pa_cons pe_int (pa_cons pe_int (pa_cons pe_int (pa_cons pe_int (pa_cons pe_int pa_nil))))))) pa_nil)))) pa_nil)) (pa_cons (pe_tup (pa_cons pe_int (pa_cons (pe_tup pa_nil) pa_nil))) (pa_cons (pe_tup (pa_cons pe_int (pa_cons (pe_tup (pa_cons (pe_tup (pa_cons pe_int (pa_cons pe_int pa_nil))) pa_nil)) pa_nil))) pa_nil)))) (pg_tup rfl (pgs_cons (pg_name (i := 5) sc_law.nd rfl (.inl rfl)) (pgs_cons (pg_name (i := 6) sc_law.nd rfl (.inl rfl)) (pgs_cons (pg_name (i := 7) sc_law.nd rfl (.inl rfl)) pgs_nil)))))
    (pss_cons (ps_asg (pe_tup (pa_cons (pe_tup (pa_cons (pe_tup (pa_cons pe_str (pa_cons pe_int (pa_cons pe_int (pa_cons pe_str pa_nil))))) pa_nil)) (pa_cons (pe_tup (pa_cons (pe_tup (pa_cons pe_str (pa_cons pe_int (pa_cons pe_int (pa_cons pe_str pa_nil))))) pa_nil)) (pa_cons (pe_tup (pa_cons (pe_tup (pa_cons pe_str (pa_cons pe_int (pa_cons pe_int (pa_cons pe_str pa_nil))))) pa_nil)) pa_nil)))) (pg_tup rfl (pgs_cons (pg_name (i := 8) sc_law.nd rfl (.inl rfl)) (pgs_cons (pg_name (i := 9) sc_law.nd rfl (.inl rfl)) (pgs_cons (pg_name (i := 2) sc_law.nd rfl (.inl rfl)) pgs_nil)))))
    (pss_cons (ps_set (i := 10) sc_law.nd rfl (.inl rfl) (pe_lst (pa_cons (pe_tup (pa_cons pe_int (pa_cons (pe_tup (pa_cons (pv 5) (pa_cons (pv 5) (pa_cons (pe_tup pa_nil) pa_nil)))) (pa_cons (pe_tup (pa_cons (pe_tup (pa_cons pe_int (pa_cons (pe_tup pa_nil) pa_nil))) pa_nil)) pa_nil)))) (pa_cons (pe_tup (pa_cons pe_int (pa_cons (pe_tup (pa_cons (pv 5) (pa_cons (pv 5) pa_nil))) (pa_cons (pe_tup pa_nil) pa_nil)))) (pa_cons (pe_tup (pa_cons pe_int (pa_cons (pe_tup (pa_cons (pe_tup pa_nil) (pa_cons (pv 8) (pa_cons (pv 9) pa_nil)))) (pa_cons (pe_tup (pa_cons (pv 6) (pa_cons (pv 7) pa_nil))) pa_nil)))) (pa_cons (pe_tup (pa_cons pe_int (pa_cons (pe_tup (pa_cons (pe_tup pa_nil) (pa_cons (pv 8) pa_nil))) (pa_cons (pe_tup (pa_cons (pv 7) pa_nil)) pa_nil)))) (pa_cons (pe_tup (pa_cons pe_int (pa_cons (pe_tup (pa_cons (pe_tup pa_nil) (pa_cons (pv 9) pa_nil))) (pa_cons (pe_tup (pa_cons (pv 6) pa_nil)) pa_nil)))) (pa_cons (pe_tup (pa_cons pe_int (pa_cons (pe_tup (pa_cons (pe_tup pa_nil) (pa_cons (pv 2) pa_nil))) (pa_cons (pe_tup (pa_cons (pv 6) pa_nil)) pa_nil)))) pa_nil))))))))
    (pss_cons (ps_set (i := 10) sc_law.nd rfl (.inl rfl) (pe_op op_addQ (pv 10) (pe_lst (pa_cons (pe_tup (pa_cons pe_int (pa_cons (pe_tup (pa_cons (pe_tup (pa_cons (pe_tup (pa_cons pe_str (pa_cons pe_int (pa_cons pe_int (pa_cons (pv 5) (pa_cons (pe_tup pa_nil) pa_nil)))))) pa_nil)) (pa_cons (pe_tup pa_nil) pa_nil))) (pa_cons (pe_tup (pa_cons (pv 7) pa_nil)) pa_nil)))) (pa_cons (pe_tup (pa_cons pe_int (pa_cons (pe_tup (pa_cons (pe_tup (pa_cons (pe_tup (pa_cons pe_str (pa_cons pe_int (pa_cons pe_int (pa_cons (pv 5) (pa_cons (pe_tup pa_nil) pa_nil)))))) pa_nil)) (pa_cons (pe_tup pa_nil) (pa_cons (pe_tup (pa_cons (pe_tup (pa_cons pe_str (pa_cons pe_int (pa_cons pe_int (pa_cons (pe_tup pa_nil) (pa_cons (pv 5) pa_nil)))))) pa_nil)) pa_nil)))) (pa_cons (pe_tup (pa_cons (pv 6) (pa_cons (pv 7) pa_nil))) pa_nil)))) (pa_cons (pe_tup (pa_cons pe_int (pa_cons (pe_tup (pa_cons (pv 5) (pa_cons (pe_tup pa_nil) (pa_cons (pv 2) pa_nil)))) (pa_cons (pe_tup (pa_cons (pv 6) pa_nil)) pa_nil)))) pa_nil))))))
    (pss_cons (ps_set (i := 10) sc_law.nd rfl (.inl rfl) (pe_op op_addQ (pv 10) (pe_lst (pa_cons (pe_tup (pa_cons pe_int (pa_cons (pe_tup (pa_cons (pv 8) (pa_cons (pv 9) (pa_cons (pv 2) pa_nil)))) (pa_cons (pe_tup (pa_cons (pv 6) (pa_cons (pv 7) pa_nil))) pa_nil)))) (pa_cons (pe_tup (pa_cons pe_int (pa_cons (pe_tup (pa_cons (pe_op op_addQ (pv 2) (pv 2)) (pa_cons (pe_tup pa_nil) pa_nil))) (pa_cons (pe_tup pa_nil) pa_nil)))) pa_nil)))))
    (pss_one (ps_ret (pe_cmpR (op_eqQ (u64 hr)) (pe_lc (own := [("_law_row", 11)]) rfl sc_law.nd (pi_list (pv 10)) (blkOk_by (by show blkC n_law (defScope s_law) _ _ = true; decide +kernel)) (fun _ _ _ _ _ => (pg_name (i := 11) sc_law.nd rfl (.inl rfl))) (fun _ _ _ _ _ => (pts_one (PW.pt (pw_or (pt_cmpR (op_neQ (u64 hr)) (pe_callH h_telling_starts hr (Nat.le_refl _) (by rfl) (pa_cons (pe_ix ix_Q (pv 11) pe_int (fun _ _ => rfl)) (pa_cons (pe_ix ix_Q (pv 11) pe_int (fun _ _ => rfl)) pa_nil))) (pe_ix ix_Q (pv 11) pe_int (fun _ _ => rfl)) (nomark _)) (pw_or1 (pt_cmpR (op_neQ (u64 hr)) (pe_callH h__law_least hr (Nat.le_refl _) (by rfl) (pa_cons (pe_ix ix_Q (pv 11) pe_int (fun _ _ => rfl)) (pa_cons (pe_ix ix_Q (pv 11) pe_int (fun _ _ => rfl)) pa_nil))) (pe_ix ix_Q (pv 11) pe_int (fun _ _ => rfl)) (nomark _))))))) (fun _ _ _ _ _ => (pv 11))) (pe_lst pa_nil) (nomark _))))))))))
end DB3

/-! Data of fixed forms: sizes, equality, order. -/
section DM1
open PySem PySem.Spec PyProof.Rows L2

theorem map_inj {α β : Type} {f : α → β} (hf : ∀ a b, f a = f b → a = b) : ∀ {l m : List α}, l.map f = m.map f → l = m
  | [], [], _ => rfl
  | [], _ :: _, h => nomatch h
  | _ :: _, [], h => nomatch h
  | a :: l, b :: m, h => by
    rw [List.map_cons, List.map_cons, List.cons.injEq] at h
    rw [hf _ _ h.1, map_inj hf h.2]
/-! ### what may be compared -/
structure OkN (m : Nat) (d : PyData) : Prop where
  nd : nodict d = true
  cl : d.canLay0 = true
  dp : d.depth ≤ m
theorem OkN.mono {m n : Nat} {d : PyData} (h : OkN m d) (l : m ≤ n) : OkN n d := ⟨h.nd, h.cl, Nat.le_trans h.dp l⟩
theorem OkN.ok {m : Nat} {d : PyData} (h : OkN m d) (l : m ≤ 64) : okD d = true := by
  unfold okD SeqAt.shaped
  rw [h.nd, h.cl, decide_eq_true (Nat.le_trans h.dp l)]
  rfl
theorem okN_all {m : Nat} : ∀ {ds : List PyData}, (∀ d ∈ ds, OkN m d) → nodicts ds = true ∧ PyData.canLayAll0 ds = true ∧ PyData.depthAll ds ≤ m
  | [], _ => ⟨rfl, rfl, Nat.zero_le _⟩
  | d :: ds, h => by
    obtain ⟨h1, h2, h3⟩ := okN_all (ds := ds) fun x hx => h x (List.mem_cons_of_mem _ hx)
    have h0 := h d List.mem_cons_self
    refine ⟨?_, ?_, ?_⟩
    · rw [nodicts, h0.nd, h1]
      rfl
    · rw [PyData.canLayAll0, h0.cl, h2]
      rfl
    · rw [PyData.depthAll]
      exact Nat.max_le.mpr ⟨h0.dp, h3⟩
theorem OkN.tup {m : Nat} {ds : List PyData} (h : ∀ d ∈ ds, OkN m d) : OkN (m + 1) (.tuple ds) := by
  obtain ⟨h1, h2, h3⟩ := okN_all h
  refine ⟨by rw [nodict]; exact h1, by rw [PyData.canLay0]; exact h2, ?_⟩
  rw [PyData.depth]
  exact Nat.succ_le_succ h3
theorem OkN.lst {m : Nat} {ds : List PyData} (h : ∀ d ∈ ds, OkN m d) : OkN (m + 1) (.list ds) := by
  obtain ⟨h1, h2, h3⟩ := okN_all h
  refine ⟨by rw [nodict]; exact h1, by rw [PyData.canLay0]; exact h2, ?_⟩
  rw [PyData.depth]
  exact Nat.succ_le_succ h3
theorem OkN.int {m : Nat} (i : Int) : OkN m (.int i) := ⟨rfl, rfl, Nat.zero_le _⟩
theorem OkN.bool {m : Nat} (i : Bool) : OkN m (.bool i) := ⟨rfl, rfl, Nat.zero_le _⟩
theorem OkN.pair {m : Nat} (p : Int × Int) : OkN (m + 1) (encP p) := OkN.tup fun d hd => by
  rcases List.mem_cons.mp hd with rfl | hd
  · exact OkN.int _
  · rcases List.mem_cons.mp hd with rfl | hd
    · exact OkN.int _
    · exact nomatch hd
theorem OkN.pairsT {m : Nat} (ts : List (Int × Int)) : OkN (m + 2) (.tuple (ts.map encP)) := OkN.tup fun d hd => by
  obtain ⟨p, _, rfl⟩ := List.mem_map.mp hd
  exact OkN.pair p
theorem OkN.pairsL {m : Nat} (ts : List (Int × Int)) : OkN (m + 2) (.list (ts.map encP)) := OkN.lst fun d hd => by
  obtain ⟨p, _, rfl⟩ := List.mem_map.mp hd
  exact OkN.pair p
theorem okD_int (i : Int) : okD (.int i) = true := (OkN.int (m := 0) i).ok (by decide)
theorem okD_pair (p : Int × Int) : okD (encP p) = true := (OkN.pair (m := 0) p).ok (by decide)
theorem okD_pairsT (ts : List (Int × Int)) : okD (.tuple (ts.map encP)) = true := (OkN.pairsT (m := 0) ts).ok (by decide)
theorem okD_pairsL (ts : List (Int × Int)) : okD (.list (ts.map encP)) = true := (OkN.pairsL (m := 0) ts).ok (by decide)

/-! ### companies -/
abbrev Co := Nat × List (Int × Int)
abbrev encC (c : Co) : PyData := .tuple [.int c.1, .tuple (c.2.map encP)]
theorem OkN.co {m : Nat} (c : Co) : OkN (m + 3) (encC c) := OkN.tup fun d hd => by
  rcases List.mem_cons.mp hd with rfl | hd
  · exact OkN.int _
  · rcases List.mem_cons.mp hd with rfl | hd
    · exact OkN.pairsT _
    · exact nomatch hd
theorem okD_co (c : Co) : okD (encC c) = true := (OkN.co (m := 0) c).ok (by decide)
theorem OkN.cosT {m : Nat} (cs : List Co) : OkN (m + 4) (.tuple (cs.map encC)) := OkN.tup fun d hd => by
  obtain ⟨p, _, rfl⟩ := List.mem_map.mp hd
  exact OkN.co p
theorem okD_cosT (cs : List Co) : okD (.tuple (cs.map encC)) = true := (OkN.cosT (m := 0) cs).ok (by decide)

/-! ### equality -/
theorem eqv_int (a b : Int) : PyData.eqv (.int a) (.int b) = decide (a = b) := PySem.W.Datum.eqv a b
theorem eqv_pair (p q : Int × Int) : PyData.eqv (encP p) (encP q) = decide (p = q) := PySem.W.Datum.eqv p q
theorem eqv_str (p q : Str) : PyData.eqv (.str p) (.str q) = decide (p = q) := PySem.W.Datum.eqv p q
theorem toD_pairs (ps : List (Int × Int)) : PyData.tuple (ps.map encP) = PySem.W.Datum.toD (PySem.W.Tup.mk ps) := rfl
theorem eqv_pairsT (p q : List (Int × Int)) : PyData.eqv (.tuple (p.map encP)) (.tuple (q.map encP)) = decide (p = q) := by
  rw [toD_pairs, toD_pairs, PySem.W.Datum.eqv]
  exact decide_eq_decide.mpr ⟨fun e => by cases e; rfl, fun e => by rw [e]⟩
theorem eqv_pairsL (p q : List (Int × Int)) : PyData.eqv (.list (p.map encP)) (.list (q.map encP)) = decide (p = q) :=
  PySem.W.Datum.eqv p q
abbrev coD (c : Co) : Int × PySem.W.Tup (Int × Int) := ((c.1 : Int), PySem.W.Tup.mk c.2)
theorem coD_inj {c e : Co} (h : coD c = coD e) : c = e := by
  obtain ⟨n, t⟩ := c
  obtain ⟨m, u⟩ := e
  simp only [coD, Prod.mk.injEq, PySem.W.Tup.mk.injEq] at h
  rw [Int.ofNat.inj h.1, h.2]
theorem eqv_co (c e : Co) : PyData.eqv (encC c) (encC e) = decide (c = e) := by
  show PyData.eqv (PySem.W.Datum.toD (coD c)) (PySem.W.Datum.toD (coD e)) = _
  rw [PySem.W.Datum.eqv]
  exact decide_eq_decide.mpr ⟨coD_inj, fun e => by rw [e]⟩
theorem eqv_cosT (c e : List Co) : PyData.eqv (.tuple (c.map encC)) (.tuple (e.map encC)) = decide (c = e) := by
  have h : ∀ l : List Co, PyData.tuple (l.map encC) = PySem.W.Datum.toD (PySem.W.Tup.mk (l.map coD)) := fun l => by
    show PyData.tuple (l.map encC) = PyData.tuple ((l.map coD).map PySem.W.Datum.toD)
    rw [List.map_map]
    rfl
  rw [h, h, PySem.W.Datum.eqv]
  refine decide_eq_decide.mpr ⟨fun k => ?_, fun e => by rw [e]⟩
  simp only [PySem.W.Tup.mk.injEq] at k
  exact map_inj (fun _ _ => coD_inj) k

/-! ### membership -/
theorem inAny_pair (ts : List (Int × Int)) (p : Int × Int) : inAny (ts.map encP) (encP p) = decide (p ∈ ts) := by
  unfold inAny
  rw [Bool.eq_iff_iff, List.any_eq_true, decide_eq_true_eq]
  constructor
  · rintro ⟨d, hd, e⟩
    obtain ⟨q, hq, rfl⟩ := List.mem_map.mp hd
    rw [eqv_pair, decide_eq_true_eq] at e
    rw [← e]
    exact hq
  · intro h
    exact ⟨_, List.mem_map_of_mem h, by rw [eqv_pair]; exact decide_eq_true rfl⟩
theorem inAny_int (ts : List Int) (p : Int) : inAny (ts.map PyData.int) (.int p) = decide (p ∈ ts) := by
  unfold inAny
  rw [Bool.eq_iff_iff, List.any_eq_true, decide_eq_true_eq]
  constructor
  · rintro ⟨d, hd, e⟩
    obtain ⟨q, hq, rfl⟩ := List.mem_map.mp hd
    rw [eqv_int, decide_eq_true_eq] at e
    rw [← e]
    exact hq
  · intro h
    exact ⟨_, List.mem_map_of_mem h, by rw [eqv_int]; exact decide_eq_true rfl⟩

/-! ### keys -/
theorem keyOk_pair (p : Int × Int) : keyOk (encP p) = true := by
  unfold keyOk
  simp [keyB, keyBs, nk, nks, NestedKey.depth, NestedKey.depthAll]
theorem nk_pair_inj {p q : Int × Int} (h : nk (encP p) = nk (encP q)) : p = q := by
  obtain ⟨a, b⟩ := p
  obtain ⟨c, d⟩ := q
  simp [nk, nks] at h
  rw [h.1, h.2]
theorem lookK_pairs (f : Int × Int → PyData) (p : Int × Int) : ∀ ts : List (Int × Int), p ∈ ts → lookK (ts.map fun q => (encP q, f q)) (encP p) = some (f p)
  | [], h => nomatch h
  | q :: ts, h => by
    unfold lookK
    rw [List.map_cons, List.find?_cons]
    by_cases e : q = p
    · rw [e]
      simp
    · rw [decide_eq_false fun z => e (nk_pair_inj z)]
      have := lookK_pairs f p ts ((List.mem_cons.mp h).resolve_left fun z => e z.symm)
      unfold lookK at this
      exact this
theorem nodup_nk {ts : List (Int × Int)} (h : ts.Nodup) (f : Int × Int → PyData) : ((ts.map fun q => (encP q, f q)).map fun p => nk p.1).Nodup := by
  rw [List.map_map]
  exact List.Pairwise.map _ (fun a b hab e => hab (nk_pair_inj e)) h
end DM1

/-! What the program is about: companies, deeds, scripts, what they part. -/
section DM2
open PySem PySem.Spec PyProof.Rows L2

/-! ### pairs -/
def rowP (n i : Nat) : List (Int × Int) := (List.range (n - (i + 1))).map fun j => (((i : Nat) : Int), ((i : Nat) : Int) + 1 + ((j : Nat) : Int))
def prs (n : Nat) : List (Int × Int) := (List.range n).flatMap (rowP n)
theorem mem_prs {n : Nat} {p : Int × Int} : p ∈ prs n ↔ 0 ≤ p.1 ∧ p.1 < p.2 ∧ p.2 < n := by
  unfold prs rowP
  simp only [List.mem_flatMap, List.mem_range, List.mem_map]
  constructor
  · rintro ⟨i, hi, j, hj, rfl⟩
    simp only
    omega
  · rintro ⟨h1, h2, h3⟩
    refine ⟨p.1.toNat, by omega, (p.2 - p.1 - 1).toNat, by omega, ?_⟩
    obtain ⟨a, b⟩ := p
    simp only at h1 h2 h3 ⊢
    rw [Prod.mk.injEq]
    omega
theorem ltP_trans {p q r : Int × Int} (h1 : ltP p q) (h2 : ltP q r) : ltP p r := by
  unfold ltP at *
  omega
theorem ltP_irr {p : Int × Int} (h : ltP p p) : False := by
  unfold ltP at h
  omega
theorem ltP_asym {p q : Int × Int} (h1 : ltP p q) (h2 : ltP q p) : False := ltP_irr (ltP_trans h1 h2)
theorem ltP_tri (p q : Int × Int) : ltP p q ∨ p = q ∨ ltP q p := by
  obtain ⟨a, b⟩ := p
  obtain ⟨c, d⟩ := q
  unfold ltP
  rw [Prod.mk.injEq]
  simp only
  omega
theorem prs_sorted (n : Nat) : (prs n).Pairwise ltP := by
  unfold prs
  rw [List.pairwise_flatMap]
  constructor
  · intro i _
    unfold rowP
    rw [List.pairwise_map]
    refine List.Pairwise.imp (fun {a b} h => ?_) List.pairwise_lt_range
    exact .inr ⟨rfl, by simp only; omega⟩
  · refine List.Pairwise.imp (fun {a b} h x hx y hy => ?_) List.pairwise_lt_range
    unfold rowP at hx hy
    obtain ⟨j, _, rfl⟩ := List.mem_map.mp hx
    obtain ⟨k, _, rfl⟩ := List.mem_map.mp hy
    exact .inl (by simp only; omega)
theorem nodup_of_ltP {l : List (Int × Int)} (h : l.Pairwise ltP) : l.Nodup := List.Pairwise.imp (S := fun a b => a ≠ b) (fun {a b} (hab : ltP a b) (e : a = b) => ltP_irr (by rw [e] at hab; exact hab)) h
theorem prs_nodup (n : Nat) : (prs n).Nodup := nodup_of_ltP (prs_sorted n)
theorem ltP_unique : ∀ {l m : List (Int × Int)}, l.Pairwise ltP → m.Pairwise ltP → (∀ p, p ∈ l ↔ p ∈ m) → l = m := fun {l m} h1 h2 h =>
  List.Perm.eq_of_pairwise (le := ltP) (fun a b _ _ x y => (ltP_asym x y).elim) h1 h2 ((List.perm_ext_iff_of_nodup (nodup_of_ltP h1) (nodup_of_ltP h2)).mpr h)
/-- the pairs of n of which f is true -/
abbrev those (n : Nat) (f : Int × Int → Bool) : List (Int × Int) := (prs n).filter f
theorem those_sorted (n : Nat) (f : Int × Int → Bool) : (those n f).Pairwise ltP := (prs_sorted n).sublist List.filter_sublist

/-! ### companies -/
def knows (ts : List (Int × Int)) (a b : Int) : Bool := decide ((min a b, max a b) ∈ ts)
inductive Wd3
  | know | part | turn
  deriving DecidableEq
def Wd3.s : Wd3 → Str
  | .know => "know"
  | .part => "part"
  | .turn => "turn"
inductive Deed
  | pairs (a : Int) (an : List Int)
  | takes (a b : Int) (an : List Int)
  | tie (a b : Int) (w : Wd3)
def encD : Deed → PyData
  | .pairs a an => .tuple [.str "pairs", .int a, .tuple (an.map PyData.int)]
  | .takes a b an => .tuple [.str "takes", .int a, .int b, .tuple (an.map PyData.int)]
  | .tie a b w => .tuple [.str "tie", .int a, .int b, .str w.s]
def bit (b : Bool) : Nat := if b then 1 else 0
/-- who knows whom behind a deed: of a pair -/
def ansD (ts : List (Int × Int)) : Deed → Int × Int → Bool
  | .pairs a an, p => if a = p.1 ∨ a = p.2 then decide (p ∈ ts) else decide (an[3 * bit (decide (p ∈ ts)) + (bit (knows ts a p.1) + bit (knows ts a p.2))]? = some 1)
  | .takes a b an, p => if (a = p.1 ∨ a = p.2) ∧ ¬(b = p.1 ∨ b = p.2) then decide (an[2 * bit (decide (p ∈ ts)) + bit (knows ts b (p.1 + p.2 - a))]? = some 1) else decide (p ∈ ts)
  | .tie a b w, p => if (min a b, max a b) = p then (match w with | .know => true | .part => false | .turn => !decide (p ∈ ts)) else decide (p ∈ ts)
def behindD (c : Co) (d : Deed) : Co := (c.1, (prs c.1).filter (ansD c.2 d))
inductive Item
  | deed (d : Deed)
  | ask (a b : Int) (y n : List Deed)
def encI : Item → PyData
  | .deed d => encD d
  | .ask a b y n => .tuple [.str "ask", .int a, .int b, .tuple (y.map encD), .tuple (n.map encD)]
abbrev Scr := List Item
abbrev encS (s : Scr) : PyData := .tuple (s.map encI)
def stepI (c : Co) : Item → Co
  | .deed d => behindD c d
  | .ask a b y n => (if knows c.2 a b then y else n).foldl behindD c
def doneS (c : Co) (s : Scr) : Co := s.foldl stepI c
def bitsOk (an : List Int) (n : Nat) : Prop := an.length = n ∧ ∀ x ∈ an, 0 ≤ x ∧ x ≤ 1
def DOk (n : Nat) : Deed → Prop
  | .pairs a an => (0 ≤ a ∧ a < n) ∧ bitsOk an 6
  | .takes a b an => (0 ≤ a ∧ a < n) ∧ (0 ≤ b ∧ b < n) ∧ a ≠ b ∧ bitsOk an 4
  | .tie a b _ => (0 ≤ a ∧ a < n) ∧ (0 ≤ b ∧ b < n) ∧ a ≠ b
def IOk (n : Nat) : Item → Prop
  | .deed d => DOk n d
  | .ask a b y m => (0 ≤ a ∧ a < n) ∧ (0 ≤ b ∧ b < n) ∧ a ≠ b ∧ (∀ d ∈ y, DOk n d) ∧ ∀ d ∈ m, DOk n d
def cntI : Item → Nat
  | .deed _ => 1
  | .ask _ _ y n => 1 + (y.length + n.length)
def cntS (s : Scr) : Nat := (s.map cntI).sum
/-- a script as the law makes them -/
structure SOk (n : Nat) (s : Scr) : Prop where
  it : ∀ i ∈ s, IOk n i
  cn : cntS s ≤ 30

/-! ### what scripts part -/
def endOf (c : Co) (ss : List Scr) (i : Int) : Co := doneS c (ss.getD i.toNat [])
def ptd (c : Co) (ss : List Scr) : List (Int × Int) := those ss.length fun p => !decide (endOf c ss p.1 = endOf c ss p.2)
def lots {α : Type} (xs : List α) : List (List α) := xs.foldl (fun f x => f ++ f.map fun l => l ++ [x]) [[]]
def freshP (n : Nat) : List (Int × Int) := those (n + 2) fun p => decide ((n : Int) ≤ p.2)
def view (n : Nat) (ts : List (Int × Int)) : Co := (n + 2, those (n + 2) fun p => decide (p ∈ ts))
/-- what the views of a start part -/
def ptAt (n : Nat) (ts : List (Int × Int)) (ss : List Scr) : List (Int × Int) := those ss.length fun p => (lots (freshP n)).any fun l => decide (p ∈ ptd (view n (ts ++ l)) ss)
def starts (n : Nat) : List Co := (lots (prs n)).map fun l => (n, l)
/-- the fewest starts that part what all do (of one start or two) -/
def few (n : Nat) (ss : List Scr) : List Co :=
  if n = 1 then (if ptAt 1 [] ss = [] then [] else [(1, [])])
  else
    let x := ptAt 2 [] ss
    let y := ptAt 2 [(0, 1)] ss
    let z := those ss.length fun p => decide (p ∈ x) || decide (p ∈ y)
    if z = [] then [] else if x = z then [(2, [])] else if y = z then [(2, [(0, 1)])] else [(2, []), (2, [(0, 1)])]
end DM2

/-! Sorting and keys of pairs. -/
section DM3
open PySem PySem.Spec PyProof.Rows L2
open PySem.W (AllAlike AllAlike.of dataLe dataLt alike alikeAll Sortable Sortable.tuples dataLe_ii)
theorem srt_self {ds : List PyData} (h : ds.Pairwise fun a b => dataLt b a = false) : srt ds = ds := List.mergeSort_of_pairwise (List.Pairwise.imp (fun {a b} e => by
  show (!dataLt b a) = true
  rw [e]
  rfl) h)
theorem srt_perm (ds : List PyData) : (srt ds).Perm ds := List.mergeSort_perm ds _
theorem srt_mem {ds : List PyData} {d : PyData} : d ∈ srt ds ↔ d ∈ ds := (srt_perm ds).mem_iff
def leP (p q : Int × Int) : Bool := decide (p.1 < q.1 ∨ (p.1 = q.1 ∧ p.2 ≤ q.2))
theorem srt_pairs {xs ms : List (Int × Int)} (hn : xs.Nodup) (h1 : ms.Pairwise ltP) (h2 : ∀ p, p ∈ ms ↔ p ∈ xs) : srt (xs.map encP) = ms.map encP := by
  have e : ∀ a ∈ xs, ∀ b ∈ xs, leP a b = dataLe false (fun d => d) (encP a) (encP b) := fun a _ b _ =>
    (congrFun (congrFun (dataLe_ii (β := Int × Int) (fun p => p.1) (fun p => p.2)) a) b).symm
  unfold srt
  rw [← List.map_mergeSort e]
  congr 1
  have tr : ∀ a b c : Int × Int, leP a b = true → leP b c = true → leP a c = true := fun a b c x y => by
    unfold leP at *
    rw [decide_eq_true_eq] at *
    omega
  have to : ∀ a b : Int × Int, (leP a b || leP b a) = true := fun a b => by
    unfold leP
    rw [Bool.or_eq_true, decide_eq_true_eq, decide_eq_true_eq]
    omega
  have p1 := List.pairwise_mergeSort tr to xs
  have pm := List.mergeSort_perm xs leP
  have nd : (xs.mergeSort leP).Nodup := pm.nodup_iff.mpr hn
  refine ltP_unique ?_ h1 fun p => by rw [pm.mem_iff, h2]
  refine List.Pairwise.imp₂ (fun a b x y => ?_) p1 nd
  unfold leP at x
  rw [decide_eq_true_eq] at x
  have y : a ≠ b := y
  obtain ⟨a1, a2⟩ := a
  obtain ⟨b1, b2⟩ := b
  unfold ltP
  simp only at x ⊢
  have : ¬(a1 = b1 ∧ a2 = b2) := fun z => y (by rw [z.1, z.2])
  omega
theorem mem_those {n : Nat} {f : Int × Int → Bool} {p : Int × Int} : p ∈ those n f ↔ p ∈ prs n ∧ f p = true := List.mem_filter
theorem srt_those {n : Nat} {xs : List (Int × Int)} (hn : xs.Nodup) (hm : ∀ p ∈ xs, p ∈ prs n) : srt (xs.map encP) = (those n fun p => decide (p ∈ xs)).map encP :=
  srt_pairs hn (those_sorted n _) fun p => by
    rw [mem_those, decide_eq_true_eq]
    exact ⟨fun h => h.2, fun h => ⟨hm p h, h⟩⟩
theorem alike_pair (p q : Int × Int) : alike (encP p) (encP q) = true := by simp [alike, alikeAll]
theorem alikeAll_pairs : ∀ xs ys : List (Int × Int), alikeAll (xs.map encP) (ys.map encP) = true
  | [], _ => by simp [alikeAll]
  | _ :: _, [] => by simp [alikeAll]
  | x :: xs, y :: ys => by
    rw [List.map_cons, List.map_cons, alikeAll, alike_pair, alikeAll_pairs xs ys]
    rfl
theorem alike_pairsT (xs ys : List (Int × Int)) : alike (.tuple (xs.map encP)) (.tuple (ys.map encP)) = true := by
  rw [alike]
  exact alikeAll_pairs xs ys
theorem okN_nds' {m : Nat} {ds : List PyData} (h : ∀ d ∈ ds, OkN m d) : nodicts ds = true := (okN_all h).1
theorem srtOk_pairs {xs : List (Int × Int)} (hl : xs.length ≤ 10000) : SrtOk (xs.map encP) := by
  have h : ∀ d ∈ xs.map encP, OkN 1 d := fun d hd => by
    obtain ⟨p, _, rfl⟩ := List.mem_map.mp hd
    exact OkN.pair p
  exact ⟨okN_nds' h, AllAlike.of alike_pair, .inl (Sortable.tuples fun b => ⟨_, _, rfl⟩), by rw [List.length_map]; exact hl, fun d hd => Nat.le_trans (h d hd).dp (by decide)⟩
abbrev encT (l : List (Int × Int)) : PyData := .tuple (l.map encP)
theorem srtOk_ties {L : List (List (Int × Int))} (hl : L.length ≤ 10000) (hk : (∃ r, L = [] :: r) ∨ ∀ l ∈ L, l ≠ []) : SrtOk (L.map encT) := by
  have h : ∀ d ∈ L.map encT, OkN 2 d := fun d hd => by
    obtain ⟨p, _, rfl⟩ := List.mem_map.mp hd
    exact OkN.pairsT p
  refine ⟨okN_nds' h, AllAlike.of alike_pairsT, ?_, by rw [List.length_map]; exact hl, fun d hd => Nat.le_trans (h d hd).dp (by decide)⟩
  rcases hk with ⟨r, rfl⟩ | hk
  · exact .inr ⟨r.map encT, rfl, fun d hd => by
      obtain ⟨p, _, rfl⟩ := List.mem_map.mp hd
      exact ⟨_, rfl⟩⟩
  · refine .inl (.inl fun d hd => ?_)
    obtain ⟨p, hp, rfl⟩ := List.mem_map.mp hd
    cases p with
    | nil => exact absurd rfl (hk [] hp)
    | cons a r => exact ⟨_, _, rfl⟩
/-! keys -/
theorem isTup_pair (p : Int × Int) : isTup (encP p) = true := rfl
def hp3 (p : Int × Int) : Int := reduceHash (Builtin.Tuple.tupleHashOf [hashInt p.1, hashInt p.2])
theorem hash_pair (w : World) (p : Int × Int) : (nk (encP p)).hash w = hp3 p := by
  unfold hp3
  simp only [nk, nks, NestedKey.hash, NestedKey.hashes]
theorem hp3_a : hp3 (0, 1) ≠ hp3 (0, 2) := by decide +kernel
theorem hp3_b : hp3 (0, 1) ≠ hp3 (1, 2) := by decide +kernel
theorem hp3_c : hp3 (0, 2) ≠ hp3 (1, 2) := by decide +kernel
theorem mem3 {p : Int × Int} (h : p ∈ prs 3) : p = (0, 1) ∨ p = (0, 2) ∨ p = (1, 2) := by
  obtain ⟨h1, h2, h3⟩ := mem_prs.mp h
  obtain ⟨a, b⟩ := p
  simp only [Prod.mk.injEq] at *
  omega
theorem hp3_inj {p q : Int × Int} (hp : p ∈ prs 3) (hq : q ∈ prs 3) (h : hp3 p = hp3 q) : p = q := by
  rcases mem3 hp with rfl | rfl | rfl <;> rcases mem3 hq with rfl | rfl | rfl
  all_goals first
    | rfl
    | exact absurd h hp3_a
    | exact absurd h hp3_b
    | exact absurd h hp3_c
    | exact absurd h.symm hp3_a
    | exact absurd h.symm hp3_b
    | exact absurd h.symm hp3_c
theorem hashes_nodup (w : World) : ∀ {kvs : List ((Int × Int) × PyData)}, (kvs.map (·.1)).Nodup → (∀ p ∈ kvs, p.1 ∈ prs 3) → (kvs.map fun p => hp3 p.1).Nodup
  | [], _, _ => List.nodup_nil
  | k :: kvs, hn, hm => by
    rw [List.map_cons, List.nodup_cons] at hn ⊢
    refine ⟨fun h => hn.1 ?_, hashes_nodup w hn.2 fun p hp => hm p (List.mem_cons_of_mem _ hp)⟩
    obtain ⟨q, hq, e⟩ := List.mem_map.mp h
    have e2 := hp3_inj (hm q (List.mem_cons_of_mem _ hq)) (hm k List.mem_cons_self) e
    rw [← e2]
    exact List.mem_map_of_mem hq
theorem hashes_map (w : World) : ∀ kvs : List ((Int × Int) × PyData), ((kvs.map fun p => (encP p.1, p.2)).map fun p => (nk p.1).hash w) = kvs.map fun p => hp3 p.1
  | [] => rfl
  | k :: kvs => by
    rw [List.map_cons, List.map_cons, List.map_cons, hashes_map w kvs, hash_pair]
theorem isTups (kvs : List ((Int × Int) × PyData)) : ∀ p ∈ kvs.map fun p => (encP p.1, p.2), isTup p.1 = true := fun p hp => by
  obtain ⟨q, _, rfl⟩ := List.mem_map.mp hp
  exact isTup_pair _
theorem hashes_good {C : Ct} {kvs : List ((Int × Int) × PyData)} (hn : (kvs.map (·.1)).Nodup) (hm : ∀ p ∈ kvs, p.1 ∈ prs 3) : KeysGood C (kvs.map fun p => (encP p.1, p.2)) :=
  ⟨by rw [hashes_map]; exact hashes_nodup C.w hn hm, isTups kvs⟩
theorem lookK_some {kvs : List ((Int × Int) × PyData)} {p : Int × Int} : (lookK (kvs.map fun p => (encP p.1, p.2)) (encP p)).isSome = decide (p ∈ kvs.map (·.1)) := by
  unfold lookK
  rw [Option.isSome_map, Bool.eq_iff_iff, List.find?_isSome, decide_eq_true_eq]
  constructor
  · rintro ⟨x, hx, e⟩
    obtain ⟨y, hy, rfl⟩ := List.mem_map.mp hx
    rw [decide_eq_true_eq] at e
    rw [← nk_pair_inj e]
    exact List.mem_map_of_mem hy
  · intro h
    obtain ⟨y, hy, rfl⟩ := List.mem_map.mp h
    exact ⟨_, List.mem_map_of_mem hy, decide_eq_true rfl⟩
theorem iT_notInK {Φ : PK} {kvs : List ((Int × Int) × PyData)} {p : Int × Int} (h : Φ (.bool (!decide (p ∈ kvs.map (·.1))))) : notInKT (encP p) (.dict (kvs.map fun p => (encP p.1, p.2))) Φ :=
  ⟨keyOk_pair p, by rw [show lookK (kvs.map fun p => (encP p.1, p.2)) (.tuple [.int p.1, .int p.2]) = lookK (kvs.map fun p => (encP p.1, p.2)) (encP p) from rfl, lookK_some]; exact h⟩
theorem nk_nodup {kvs : List ((Int × Int) × PyData)} (hn : (kvs.map (·.1)).Nodup) : ((kvs.map fun p => (encP p.1, p.2)).map fun p => nk p.1).Nodup := by
  rw [List.map_map]
  have hn2 : kvs.Pairwise fun a b => a.1 ≠ b.1 := List.pairwise_map.mp hn
  exact List.pairwise_map.mpr (List.Pairwise.imp (fun {a b} hab z => hab (nk_pair_inj z)) hn2)
theorem pairsD_kvs (kvs : List ((Int × Int) × PyData)) : pairsD (kvs.map fun p => .tuple [encP p.1, p.2]) = some (kvs.map fun p => (encP p.1, p.2)) := by
  induction kvs with
  | nil => rfl
  | cons t ts ih =>
    rw [List.map_cons, pairsD, ih]
    rfl
theorem iT_dictK {Φ : PK} {kvs : List ((Int × Int) × PyData)} (hn : (kvs.map (·.1)).Nodup) (h : Φ (.dict (kvs.map fun p => (encP p.1, p.2)))) : dictT [.list (kvs.map fun p => .tuple [encP p.1, p.2])] Φ :=
  ⟨_, pairsD_kvs kvs, fun p hp => by
    obtain ⟨q, _, rfl⟩ := List.mem_map.mp hp
    exact ⟨keyOk_pair _, rfl⟩, nk_nodup hn, h⟩
end DM3

/-! Operations of known forms; a word that steps. -/
section DW0
open PySem PySem.Spec PyProof.Rows L2
section
variable {C : Ct} {c : Option Addr} {Γ : List Sl} {Φ : PK}
theorem iT_sub {a b : Int} (h : Φ (.int (a - b))) : subT (.int a) (.int b) Φ := ⟨trivial, h⟩
theorem iT_mul {a b : Int} (h1 : CMul a b) (h : Φ (.int (a * b))) : mulT (.int a) (.int b) Φ := ⟨h1, h⟩
theorem iT_mul' {a b : Int} (h1 : -18446744073709551616 < a) (h2 : a < 18446744073709551616) (h : Φ (.int (a * b))) : mulT (.int a) (.int b) Φ := ⟨.inl ⟨h1, h2⟩, h⟩
theorem iT_div {a b : Int} (h1 : CDivN a b) (h : Φ (.int (a.fdiv b))) : divT (.int a) (.int b) Φ := ⟨h1, h⟩
theorem iT_mod {a b : Int} (h1 : b ≠ 0) (h : Φ (.int (a.fmod b))) : modT (.int a) (.int b) Φ := ⟨h1, h⟩
theorem iT_lt {a b : Int} (h : Φ (.bool (decide (a < b)))) : ltT (.int a) (.int b) Φ := ⟨trivial, h⟩
theorem iT_le {a b : Int} (h : Φ (.bool (decide (a ≤ b)))) : leT (.int a) (.int b) Φ := ⟨trivial, h⟩
theorem iT_gt {a b : Int} (h : Φ (.bool (decide (b < a)))) : gtT (.int a) (.int b) Φ := ⟨trivial, h⟩
theorem iT_ge {a b : Int} (h : Φ (.bool (decide (b ≤ a)))) : geT (.int a) (.int b) Φ := ⟨trivial, h⟩
theorem iT_neg {a : Int} (h : Φ (.int (-a))) : negT (.int a) Φ := h
theorem iT_eqI {a b : Int} (h : Φ (.bool (decide (a = b)))) : eqT (.int a) (.int b) Φ := ⟨⟨okD_int a, okD_int b⟩, by rw [eqv_int]; exact h⟩
theorem iT_neI {a b : Int} (h : Φ (.bool (!decide (a = b)))) : neT (.int a) (.int b) Φ := ⟨⟨okD_int a, okD_int b⟩, by rw [eqv_int]; exact h⟩
theorem iT_eqS {a b : Str} (k : Bool) (h1 : okD (.str a) = true) (h2 : okD (.str b) = true) (e : decide (a = b) = k) (h : Φ (.bool k)) : eqT (.str a) (.str b) Φ := ⟨⟨h1, h2⟩, by rw [eqv_str, e]; exact h⟩
theorem iT_neS {a b : Str} (k : Bool) (h1 : okD (.str a) = true) (h2 : okD (.str b) = true) (e : decide (a = b) = k) (h : Φ (.bool (!k))) : neT (.str a) (.str b) Φ := ⟨⟨h1, h2⟩, by rw [eqv_str, e]; exact h⟩
theorem iT_eqP {a b c d : Int} (h : Φ (.bool (decide ((a, b) = (c, d))))) : eqT (.tuple [.int a, .int b]) (.tuple [.int c, .int d]) Φ := ⟨⟨okD_pair (a, b), okD_pair (c, d)⟩, by rw [show PyData.eqv (.tuple [.int a, .int b]) (.tuple [.int c, .int d]) = _ from eqv_pair (a, b) (c, d)]; exact h⟩
theorem iT_neP {a b c d : Int} (h : Φ (.bool (!decide ((a, b) = (c, d))))) : neT (.tuple [.int a, .int b]) (.tuple [.int c, .int d]) Φ := ⟨⟨okD_pair (a, b), okD_pair (c, d)⟩, by rw [show PyData.eqv (.tuple [.int a, .int b]) (.tuple [.int c, .int d]) = _ from eqv_pair (a, b) (c, d)]; exact h⟩
theorem iT_eqPL {p q : List (Int × Int)} (h : Φ (.bool (decide (p = q)))) : eqT (.list (p.map encP)) (.list (q.map encP)) Φ := ⟨⟨okD_pairsL p, okD_pairsL q⟩, by rw [eqv_pairsL]; exact h⟩
theorem iT_neC {p q : Co} (h : Φ (.bool (!decide (p = q)))) : neT (encC p) (encC q) Φ := ⟨⟨okD_co p, okD_co q⟩, by rw [eqv_co]; exact h⟩
theorem iT_neCT {p q : List Co} (h : Φ (.bool (!decide (p = q)))) : neT (.tuple (p.map encC)) (.tuple (q.map encC)) Φ := ⟨⟨okD_cosT p, okD_cosT q⟩, by rw [eqv_cosT]; exact h⟩
/-- x in (a, b), x not in (a, b) -/
theorem iT_in2 {x a b : Int} (h : Φ (.bool (decide (x = a ∨ x = b)))) : inT false (.int x) (.tuple [.int a, .int b]) Φ := by
  refine ⟨okD_int x, okD_pair (a, b), ?_⟩
  have e := inAny_int [a, b] x
  show Φ (.bool (inAny ([a, b].map PyData.int) (.int x)))
  rw [e]
  have e2 : decide (x ∈ [a, b]) = decide (x = a ∨ x = b) := by simp
  rw [e2]
  exact h
theorem iT_nin2 {x a b : Int} (h : Φ (.bool (!decide (x = a ∨ x = b)))) : inT true (.int x) (.tuple [.int a, .int b]) Φ := by
  refine ⟨okD_int x, okD_pair (a, b), ?_⟩
  have e := inAny_int [a, b] x
  show Φ (.bool (!inAny ([a, b].map PyData.int) (.int x)))
  rw [e]
  have e2 : decide (x ∈ [a, b]) = decide (x = a ∨ x = b) := by simp
  rw [e2]
  exact h
theorem iT_inPT {p : Int × Int} {ts : List (Int × Int)} (h : Φ (.bool (decide (p ∈ ts)))) : inT false (encP p) (.tuple (ts.map encP)) Φ := ⟨okD_pair p, okD_pairsT ts, by rw [if_neg Bool.false_ne_true, inAny_pair]; exact h⟩
theorem iT_ninPL {p : Int × Int} {ts : List (Int × Int)} (h : Φ (.bool (!decide (p ∈ ts)))) : inT true (encP p) (.list (ts.map encP)) Φ := ⟨okD_pair p, okD_pairsL ts, by rw [if_pos rfl, inAny_pair]; exact h⟩
theorem iT_ixL {ds : List PyData} {i : Int} {z : PyData} (h1 : atI ds i = some z) (h : Φ z) : ixT (.list ds) (.int i) Φ := ⟨z, h1, h⟩
theorem iT_ixT {ds : List PyData} {i : Int} {z : PyData} (h1 : atI ds i = some z) (h : Φ z) : ixT (.tuple ds) (.int i) Φ := ⟨z, h1, h⟩
theorem iT_lenL {xs : List PyData} (h : Φ (.int xs.length)) : lenT [.list xs] Φ := h
theorem iT_lenT {xs : List PyData} (h : Φ (.int xs.length)) : lenT [.tuple xs] Φ := h
theorem iT_listL {xs : List PyData} (h : Φ (.list xs)) : listT [.list xs] Φ := h
theorem iT_listT {xs : List PyData} (h : Φ (.list xs)) : listT [.tuple xs] Φ := h
theorem iT_tupL {xs : List PyData} (h : Φ (.tuple xs)) : tupleT [.list xs] Φ := h
theorem iT_tupT {xs : List PyData} (h : Φ (.tuple xs)) : tupleT [.tuple xs] Φ := h
theorem iT_min {a b : Int} (h : Φ (.int (min a b))) : minT [.int a, .int b] Φ := by
  show Φ (.int (if b < a then b else a))
  have e : (if b < a then b else a) = min a b := by
    split <;> omega
  rw [e]
  exact h
theorem iT_max {a b : Int} (h : Φ (.int (max a b))) : maxT [.int a, .int b] Φ := by
  show Φ (.int (if b > a then b else a))
  have e : (if b > a then b else a) = max a b := by
    split <;> omega
  rw [e]
  exact h
theorem iT_int {a : Int} (h : Φ (.int a)) : int1T [.int a] Φ := h
theorem iT_intB {a : Bool} (h : Φ (.int (if a then 1 else 0))) : int1T [.bool a] Φ := h
theorem boolsOf_map (bs : List Bool) : boolsOf (bs.map PyData.bool) = some bs := by
  induction bs with
  | nil => rfl
  | cons b bs ih =>
    rw [List.map_cons, boolsOf, ih]
    rfl
theorem intsOf_map (bs : List Int) : intsOf (bs.map PyData.int) = some bs := by
  induction bs with
  | nil => rfl
  | cons b bs ih =>
    rw [List.map_cons, intsOf, ih]
    rfl
theorem iT_all {bs : List Bool} (h : Φ (.bool (bs.all id))) : allT [.list (bs.map PyData.bool)] Φ := ⟨bs, boolsOf_map bs, h⟩
theorem iT_sum {bs : List Int} (h : Φ (.int bs.sum)) : sumT [.list (bs.map PyData.int)] Φ := ⟨bs, intsOf_map bs, h⟩
theorem iT_allM {α : Type} {xs : List α} {f : α → Bool} (h : Φ (.bool (xs.all f))) : allT [.list (xs.map fun x => PyData.bool (f x))] Φ := by
  have := iT_all (Φ := Φ) (bs := xs.map f) (by rw [List.all_map]; exact h)
  rw [List.map_map] at this
  exact this
theorem iT_sumM {α : Type} {xs : List α} {f : α → Int} (h : Φ (.int (xs.map f).sum)) : sumT [.list (xs.map fun x => PyData.int (f x))] Φ := by
  have := iT_sum (Φ := Φ) (bs := xs.map f) h
  rw [List.map_map] at this
  exact this
/-! the ends of tests -/
theorem iB {b : Bool} {Φb : Bool → Prop} (h : Φb b) : ∃ b', PyData.bool b = .bool b' ∧ Φb b' := ⟨b, rfl, h⟩
theorem iBt {A B : Prop} (h : A) : (true = true → A) ∧ (true = false → B) := ⟨fun _ => h, fun z => nomatch z⟩
theorem iBf {A B : Prop} (h : B) : (false = true → A) ∧ (false = false → B) := ⟨fun z => (nomatch z), fun _ => h⟩
theorem iBt' {A B : Prop} (h : A) : (true = false → B) ∧ (true = true → A) := ⟨fun z => (nomatch z), fun _ => h⟩
theorem iBf' {A B : Prop} (h : B) : (false = false → B) ∧ (false = true → A) := ⟨fun _ => h, fun z => (nomatch z)⟩
theorem iBA {b : Bool} {P : Bool → Prop} {A B : Prop} (h : (b = true → A) ∧ (b = false → B)) : ∃ b', PyData.bool b = .bool b' ∧ (b' = true → A) ∧ (b' = false → B) := ⟨b, rfl, h.1, h.2⟩
end
theorem iI_ii {i : Int} {P : Bool → Prop} (h : P true) : nodict (.int i) = true ∧ ∃ b, kitB (tyD (.int i)) "int" = some b ∧ P b := ⟨rfl, true, (by decide +kernel : kitB "int" "int" = some true), h⟩
theorem iI_ib {i : Int} {P : Bool → Prop} (h : P false) : nodict (.int i) = true ∧ ∃ b, kitB (tyD (.int i)) "bool" = some b ∧ P b := ⟨rfl, false, (by decide +kernel : kitB "int" "bool" = some false), h⟩
theorem iI_ss {i : Str} {P : Bool → Prop} (h : P true) : nodict (.str i) = true ∧ ∃ b, kitB (tyD (.str i)) "str" = some b ∧ P b := ⟨rfl, true, (by decide +kernel : kitB "str" "str" = some true), h⟩
theorem iI_tt {ds : List PyData} {P : Bool → Prop} (hn : nodicts ds = true) (h : P true) : nodict (.tuple ds) = true ∧ ∃ b, kitB (tyD (.tuple ds)) "tuple" = some b ∧ P b := ⟨by rw [nodict]; exact hn, true, (by decide +kernel : kitB "tuple" "tuple" = some true), h⟩
theorem iBnf {A B : Prop} (h : A) : ((!false) = true → A) ∧ ((!false) = false → B) := ⟨fun _ => h, fun z => nomatch z⟩
theorem iBnt {A B : Prop} (h : B) : ((!true) = true → A) ∧ ((!true) = false → B) := ⟨fun z => (nomatch z), fun _ => h⟩
theorem iBnf' {A B : Prop} (h : A) : ((!false) = false → B) ∧ ((!false) = true → A) := ⟨fun z => (nomatch z), fun _ => h⟩
theorem iBnt' {A B : Prop} (h : B) : ((!true) = false → B) ∧ ((!true) = true → A) := ⟨fun _ => h, fun z => (nomatch z)⟩
theorem iBd {p A B : Prop} [Decidable p] (h1 : p → A) (h2 : ¬p → B) : (decide p = true → A) ∧ (decide p = false → B) := ⟨fun z => h1 (of_decide_eq_true z), fun z => h2 (of_decide_eq_false z)⟩
theorem iBd' {p A B : Prop} [Decidable p] (h1 : p → A) (h2 : ¬p → B) : (decide p = false → B) ∧ (decide p = true → A) := ⟨fun z => h2 (of_decide_eq_false z), fun z => h1 (of_decide_eq_true z)⟩
theorem iBnd {p A B : Prop} [Decidable p] (h1 : ¬p → A) (h2 : p → B) : ((!decide p) = true → A) ∧ ((!decide p) = false → B) := by
  by_cases hp : p
  · rw [decide_eq_true hp]
    exact ⟨fun z => (nomatch z), fun _ => h2 hp⟩
  · rw [decide_eq_false hp]
    exact ⟨fun _ => h1 hp, fun z => nomatch z⟩
theorem iBnd' {p A B : Prop} [Decidable p] (h1 : ¬p → A) (h2 : p → B) : ((!decide p) = false → B) ∧ ((!decide p) = true → A) := ⟨(iBnd h1 h2).2, (iBnd h1 h2).1⟩
theorem iExT {X : List PyData} {P : List PyData → Prop} (h : P X) : ∃ ds, PyData.tuple X = .tuple ds ∧ P ds := ⟨X, rfl, h⟩
theorem iExL {X : List PyData} {P : List PyData → Prop} (h : P X) : ∃ ds, PyData.list X = .list ds ∧ P ds := ⟨X, rfl, h⟩
theorem iLn0 {P : Prop} (h : P) : ([] : List PyData).length ≤ 10000 ∧ P := ⟨Nat.le_of_ble_eq_true rfl, h⟩
theorem iLn1 {a : PyData} {P : Prop} (h : P) : [a].length ≤ 10000 ∧ P := ⟨Nat.le_of_ble_eq_true rfl, h⟩
theorem iLn2 {a b : PyData} {P : Prop} (h : P) : [a, b].length ≤ 10000 ∧ P := ⟨Nat.le_of_ble_eq_true rfl, h⟩
theorem iLn3 {a b c : PyData} {P : Prop} (h : P) : [a, b, c].length ≤ 10000 ∧ P := ⟨Nat.le_of_ble_eq_true rfl, h⟩
theorem iLn4 {a b c d : PyData} {P : Prop} (h : P) : [a, b, c, d].length ≤ 10000 ∧ P := ⟨Nat.le_of_ble_eq_true rfl, h⟩
theorem iLn5 {a b c d e : PyData} {P : Prop} (h : P) : [a, b, c, d, e].length ≤ 10000 ∧ P := ⟨Nat.le_of_ble_eq_true rfl, h⟩
theorem iLn6 {a b c d e f : PyData} {P : Prop} (h : P) : [a, b, c, d, e, f].length ≤ 10000 ∧ P := ⟨Nat.le_of_ble_eq_true rfl, h⟩
theorem iLn7 {a b c d e f g : PyData} {P : Prop} (h : P) : [a, b, c, d, e, f, g].length ≤ 10000 ∧ P := ⟨Nat.le_of_ble_eq_true rfl, h⟩
section
variable {C : Ct} {c : Option Addr} {Γ : List Sl} {Φ : PK} {te : TE} {tt : TT} {Ψ : Out → Prop} {α : Type}
/-! loops over data that encode typed things -/
theorem ws_forT (enc : α → PyData) {wi : TI} {g : TG} {tb : TS} (js : List Nat)
    (h : WI C c wi Γ fun ds => ∃ xs : List α, ds = xs.map enc ∧ ∃ I : Nat → List Sl → Prop, I 0 Γ ∧ (∀ i x Γ', xs[i]? = some x → I i Γ' → WG C c js g (enc x) Γ' fun Γ2 => WS C c tb Γ2 (loopP (I (i + 1)) Ψ)) ∧ ∀ Γ', I xs.length Γ' → Ψ (.nx Γ')) :
    WS C c (tFor wi g tb) Γ Ψ := ws_for js fun G H σ R w en q => h G H σ R w en fun ds J G1 H1 h1 s1 hJ => q ds J G1 H1 (by
      obtain ⟨xs, rfl, I, h0, hs, hd⟩ := h1
      refine ⟨I, h0, fun i d Γ' hi hI => ?_, by rw [List.length_map]; exact hd⟩
      rw [List.getElem?_map, Option.map_eq_some_iff] at hi
      obtain ⟨x, hx, rfl⟩ := hi
      exact hs i x Γ' hx hI) s1 hJ
theorem we_lcT (enc : α → PyData) {wi : TI} {g : TG} {vs : List Nat}
    (h : WI C c wi Γ fun ds => ∃ xs : List α, ds = xs.map enc ∧ xs.length ≤ 10000 ∧ ∃ I : Nat → List PyData → Prop, I 0 [] ∧
      (∀ i x acc, xs[i]? = some x → I i acc → WG C c vs g (enc x) (wipeG Γ vs) fun Γ2 => WT C c tt Γ2 fun b => (b = true → WE C c te Γ2 fun y => I (i + 1) (acc ++ [y])) ∧ (b = false → I (i + 1) acc)) ∧
      ∀ acc, I xs.length acc → Φ (.list acc)) :
    WE C c (tLc wi g tt te vs) Γ Φ := we_lc fun G H σ R w en q => h G H σ R w en fun ds J G1 H1 h1 s1 hJ => q ds J G1 H1 (by
      obtain ⟨xs, rfl, hl, I, h0, hs, hd⟩ := h1
      refine ⟨by rw [List.length_map]; exact hl, I, h0, fun i d acc hi hI => ?_, by rw [List.length_map]; exact hd⟩
      rw [List.getElem?_map, Option.map_eq_some_iff] at hi
      obtain ⟨x, hx, rfl⟩ := hi
      exact hs i x acc hx hI) s1 hJ
theorem we_lcMapT (enc f : α → PyData) {wi : TI} {g : TG} {vs : List Nat}
    (h : WI C c wi Γ fun ds => ∃ xs : List α, ds = xs.map enc ∧ xs.length ≤ 10000 ∧ (∀ x ∈ xs, WG C c vs g (enc x) (wipeG Γ vs) fun Γ2 => WE C c te Γ2 fun y => y = f x) ∧ Φ (.list (xs.map f))) :
    WE C c (tLc wi g tYes te vs) Γ Φ := we_lcT enc fun G H σ R w en q => h G H σ R w en fun ds J G1 H1 h1 s1 hJ => q ds J G1 H1 (by
      obtain ⟨xs, rfl, hl, hs, hd⟩ := h1
      refine ⟨xs, rfl, hl, fun i acc => acc = (xs.take i).map f, rfl, fun i x acc hx ha => ?_, fun acc ha => ?_⟩
      · subst ha
        intro G2 H2 σ2 v Q2 w2 en2 r2 k2
        exact hs x (List.mem_of_getElem? hx) G2 H2 σ2 v Q2 w2 en2 r2 fun Γ' σ' hW en' hl hk => k2 Γ' σ' (wt_yes ⟨fun _ => WE.mono hW fun y hy => by
          show (xs.take i).map f ++ [y] = (xs.take (i + 1)).map f
          rw [hy, List.take_add_one, hx, List.map_append]
          rfl, fun z => nomatch z⟩) en' hl hk
      · have e : acc = xs.map f := by rw [ha, List.take_length]
        rw [e]
        exact hd) s1 hJ
theorem we_lcFilT (enc : α → PyData) (p : α → Bool) (f : α → PyData) {wi : TI} {g : TG} {vs : List Nat}
    (h : WI C c wi Γ fun ds => ∃ xs : List α, ds = xs.map enc ∧ xs.length ≤ 10000 ∧ (∀ x ∈ xs, WG C c vs g (enc x) (wipeG Γ vs) fun Γ2 => WT C c tt Γ2 fun b => b = p x ∧ (b = true → WE C c te Γ2 fun y => y = f x)) ∧ Φ (.list ((xs.filter p).map f))) :
    WE C c (tLc wi g tt te vs) Γ Φ := we_lcT enc fun G H σ R w en q => h G H σ R w en fun ds J G1 H1 h1 s1 hJ => q ds J G1 H1 (by
      obtain ⟨xs, rfl, hl, hs, hd⟩ := h1
      refine ⟨xs, rfl, hl, fun i acc => acc = ((xs.take i).filter p).map f, rfl, fun i x acc hx ha => ?_, fun acc ha => ?_⟩
      · subst ha
        intro G2 H2 σ2 v Q2 w2 en2 r2 k2
        refine hs x (List.mem_of_getElem? hx) G2 H2 σ2 v Q2 w2 en2 r2 fun Γ' σ' hW en' hl hk => k2 Γ' σ' (WT.mono hW fun b hb => ⟨fun e => WE.mono (hb.2 e) fun y hy => ?_, fun e => ?_⟩) en' hl hk
        · show ((xs.take i).filter p).map f ++ [y] = ((xs.take (i + 1)).filter p).map f
          rw [hy, List.take_add_one, hx, List.filter_append, List.map_append]
          have e2 : p x = true := by rw [← hb.1, e]
          simp [e2]
        · show ((xs.take i).filter p).map f = ((xs.take (i + 1)).filter p).map f
          rw [List.take_add_one, hx, List.filter_append, List.map_append]
          have e2 : p x = false := by rw [← hb.1, e]
          simp [e2]
      · have e : acc = (xs.filter p).map f := by rw [ha, List.take_length]
        rw [e]
        exact hd) s1 hJ
end
theorem WG.mono {C : Ct} {c : Option Addr} {Γ : List Sl} {js : List Nat} {g : TG} {d : PyData} {Ψ Ψ' : List Sl → Prop} (h : WG C c js g d Γ Ψ) (k : ∀ G, Ψ G → Ψ' G) : WG C c js g d Γ Ψ' := fun G H σ v Q w en r q => h G H σ v Q w en r fun Γ' σ' h1 => q Γ' σ' (k Γ' h1)
theorem WI.mono {C : Ct} {c : Option Addr} {Γ : List Sl} {wi : TI} {Ψ Ψ' : List PyData → Prop} (h : WI C c wi Γ Ψ) (k : ∀ G, Ψ G → Ψ' G) : WI C c wi Γ Ψ' := fun G H σ Q w en q => h G H σ Q w en fun ds J G' H' h1 => q ds J G' H' (k ds h1)
theorem we_lc2M {α β : Type} {C : Ct} {c : Option Addr} {Γ : List Sl} {Φ : PK} {te : TE} {tt1 : TT} (e1 : α → PyData) (e2 : β → PyData) (ys : α → List β) (p : α → β → Bool) (f : α → β → PyData) {wi wi1 : TI} {g g1 : TG} {vs vs1 : List Nat}
    (h : WI C c wi Γ fun ds => ∃ xs : List α, ds = xs.map e1 ∧ xs.length ≤ 100 ∧ (∀ x ∈ xs, WG C c vs g (e1 x) (wipeG Γ vs) fun Γ2 => WI C c wi1 Γ2 fun ds1 => ds1 = (ys x).map e2 ∧ (ys x).length ≤ 100 ∧
      ∀ y ∈ ys x, WG C c vs1 g1 (e2 y) (wipeG Γ2 vs1) fun Γ3 => WT C c tt1 Γ3 fun b => b = p x y ∧ (b = true → WE C c te Γ3 fun z => z = f x y)) ∧ Φ (.list (xs.flatMap fun x => ((ys x).filter (p x)).map (f x)))) :
    WE C c (tLc2 wi g tYes wi1 g1 tt1 te vs vs1) Γ Φ := we_lc2 (WI.mono h fun ds h1 => by
  obtain ⟨xs, rfl, hl, hs, hd⟩ := h1
  refine ⟨by rw [List.length_map]; exact hl, fun i acc => acc = (xs.take i).flatMap fun x => ((ys x).filter (p x)).map (f x), rfl, fun acc ha => ?_, fun i d acc hi ha => ?_⟩
  · rw [List.length_map, List.take_length] at ha
    rw [ha]
    exact hd
  · rw [List.getElem?_map, Option.map_eq_some_iff] at hi
    obtain ⟨x, hx, rfl⟩ := hi
    refine WG.mono (hs x (List.mem_of_getElem? hx)) fun Γ2 h2 => wt_yes ⟨fun z => (nomatch z), fun _ => WI.mono h2 fun ds1 h3 => ?_⟩
    obtain ⟨rfl, hl1, hy⟩ := h3
    refine ⟨by rw [List.length_map]; exact hl1, fun j acc1 => acc1 = acc ++ (((ys x).take j).filter (p x)).map (f x), by simp, fun acc1 h4 => ?_, fun j e acc1 hj h4 => ?_⟩
    · show acc1 = (xs.take (i + 1)).flatMap _
      rw [List.length_map, List.take_length] at h4
      rw [h4, ha, List.take_add_one, hx, List.flatMap_append]
      simp
    · rw [List.getElem?_map, Option.map_eq_some_iff] at hj
      obtain ⟨y, hy2, rfl⟩ := hj
      refine WG.mono (hy y (List.mem_of_getElem? hy2)) fun Γ3 h5 => WT.mono h5 fun b hb => ⟨fun e => WE.mono (hb.2 e) fun z hz => ?_, fun e => ?_⟩
      · show acc1 ++ [z] = acc ++ (((ys x).take (j + 1)).filter (p x)).map (f x)
        have e2 : p x y = true := by rw [← hb.1, e]
        rw [h4, hz, List.take_add_one, hy2, List.filter_append, List.map_append]
        simp [e2]
      · show acc1 = acc ++ (((ys x).take (j + 1)).filter (p x)).map (f x)
        have e2 : p x y = false := by rw [← hb.1, e]
        rw [h4, List.take_add_one, hy2, List.filter_append, List.map_append]
        simp [e2])
theorem iR1 {n : Nat} {P : List PyData → Prop} (hn : n ≤ 100000) (h : P ((List.range n).map fun (k : Nat) => PyData.int (0 + (k : Int)))) : ∃ j : Int, PyData.int (n : Int) = .int j ∧ -1000 ≤ j ∧ j ≤ 100000 ∧ P (rng 0 j.toNat) := ⟨n, rfl, by omega, by omega, h⟩
theorem fm_congr {α β : Type} {f g : α → List β} : ∀ {l : List α}, (∀ x ∈ l, f x = g x) → l.flatMap f = l.flatMap g
  | [], _ => rfl
  | x :: l, h => by rw [List.flatMap_cons, List.flatMap_cons, h x List.mem_cons_self, fm_congr fun y hy => h y (List.mem_cons_of_mem _ hy)]
theorem iT_get {Φ : PK} {ts : List (Int × Int)} {f : Int × Int → PyData} {p : Int × Int} (hp : p ∈ ts) (h : Φ (f p)) : getT (.dict (ts.map fun q => (encP q, f q))) (encP p) Φ := ⟨keyOk_pair p, f p, lookK_pairs f p ts hp, h⟩
theorem pairsD_map {ts : List (Int × Int)} {f : Int × Int → PyData} : pairsD (ts.map fun q => .tuple [encP q, f q]) = some (ts.map fun q => (encP q, f q)) := by
  induction ts with
  | nil => rfl
  | cons t ts ih =>
    rw [List.map_cons, pairsD, ih]
    rfl
theorem iT_dict {Φ : PK} {ts : List (Int × Int)} {f : Int × Int → PyData} (hn : ts.Nodup) (h : Φ (.dict (ts.map fun q => (encP q, f q)))) : dictT [.list (ts.map fun q => .tuple [encP q, f q])] Φ :=
  ⟨_, pairsD_map, fun p hp => by
    obtain ⟨q, _, rfl⟩ := List.mem_map.mp hp
    exact ⟨keyOk_pair q, rfl⟩, nodup_nk hn f, h⟩
theorem prs_len {n : Nat} (h : n ≤ 10) : (prs n).length ≤ 100 := by
  have : ∀ m, m < 11 → (prs m).length ≤ 100 := by decide +kernel
  exact this n (by omega)
theorem atI_natk {α : Type} {xs : List α} {k : Nat} {i : Int} {v : α} (e : i = k) (h : xs[k]? = some v) : atI xs i = some v := by
  subst e
  exact atI_nat h
theorem iT_ixN {Φ : PK} {xs : List Int} {i : Int} (k : Nat) {v : Int} (e : i = k) (h : xs[k]? = some v) (q : Φ (.int v)) : ixT (.tuple (xs.map PyData.int)) (.int i) Φ := ⟨.int v, atI_natk e (by rw [List.getElem?_map, h]; rfl), q⟩
theorem bit_le (b : Bool) : bit b ≤ 1 := by cases b <;> decide
theorem bit_if (b : Bool) : (if b = true then (1 : Int) else 0) = (bit b : Nat) := by cases b <;> rfl
theorem iT_eqBd {Φ : PK} {p q : Prop} [Decidable p] [Decidable q] (h : Φ (.bool (decide (p ↔ q)))) : eqT (.bool (decide p)) (.bool (decide q)) Φ := by
  refine ⟨⟨(OkN.bool (m := 0) _).ok (by decide), (OkN.bool (m := 0) _).ok (by decide)⟩, ?_⟩
  have e : PyData.eqv (.bool (decide p)) (.bool (decide q)) = decide (p ↔ q) := by
    rw [show PyData.eqv (.bool (decide p)) (.bool (decide q)) = decide (decide p = decide q) from PySem.W.Datum.eqv (decide p) (decide q)]
    exact decide_eq_decide.mpr decide_eq_decide
  rw [e]
  exact h
theorem iT_ix0L {Φ : PK} {x : PyData} {xs : List PyData} (h : Φ x) : ixT (.list (x :: xs)) (.int 0) Φ := ⟨x, atI_natk rfl rfl, h⟩
theorem iT_ix0T {Φ : PK} {x : PyData} {xs : List PyData} (h : Φ x) : ixT (.tuple (x :: xs)) (.int 0) Φ := ⟨x, atI_natk rfl rfl, h⟩
theorem iE1 {x : PyData} {P : Prop} (h : P) : x = x ∧ P := ⟨rfl, h⟩
theorem iT_neNil {Φ : PK} {xs : List PyData} (ho : okD (.list xs) = true) (h : Φ (.bool (!decide (xs = [])))) : neT (.list xs) (.list []) Φ := by
  refine ⟨⟨ho, rfl⟩, ?_⟩
  have e : PyData.eqv (.list xs) (.list []) = decide (xs = []) := by
    cases xs with
    | nil => simp [PyData.eqv, PyData.eqvAll]
    | cons x xs => simp [PyData.eqv, PyData.eqvAll]
  rw [e]
  exact h
/-! items -/
theorem OkN.str {m : Nat} {x : Str} (h : (PyData.str x).canLay0 = true) : OkN m (.str x) := ⟨rfl, h, Nat.zero_le _⟩
theorem OkN.cons2 {m : Nat} {x : PyData} {xs : List PyData} (h1 : OkN m x) (h2 : ∀ d ∈ xs, OkN m d) : ∀ d ∈ x :: xs, OkN m d := fun d hd => by
  rcases List.mem_cons.mp hd with rfl | hd
  · exact h1
  · exact h2 d hd
theorem OkN.nil2 {m : Nat} : ∀ d ∈ ([] : List PyData), OkN m d := fun d hd => nomatch hd
theorem okN_ints {m : Nat} (xs : List Int) : OkN (m + 1) (.tuple (xs.map PyData.int)) := OkN.tup fun d hd => by
  obtain ⟨p, _, rfl⟩ := List.mem_map.mp hd
  exact OkN.int _
theorem okN_deed {m : Nat} (d : Deed) : OkN (m + 2) (encD d) := by
  cases d with
  | pairs a an => exact OkN.tup (OkN.cons2 (OkN.str (by decide +kernel)) (OkN.cons2 (OkN.int _) (OkN.cons2 (okN_ints _) OkN.nil2)))
  | takes a b an => exact OkN.tup (OkN.cons2 (OkN.str (by decide +kernel)) (OkN.cons2 (OkN.int _) (OkN.cons2 (OkN.int _) (OkN.cons2 (okN_ints _) OkN.nil2))))
  | tie a b w =>
    refine OkN.tup (OkN.cons2 (OkN.str (by decide +kernel)) (OkN.cons2 (OkN.int _) (OkN.cons2 (OkN.int _) (OkN.cons2 (OkN.str ?_) OkN.nil2))))
    cases w <;> decide +kernel
theorem okN_deeds {m : Nat} (ds : List Deed) : OkN (m + 3) (.tuple (ds.map encD)) := OkN.tup fun d hd => by
  obtain ⟨p, _, rfl⟩ := List.mem_map.mp hd
  exact okN_deed p
theorem okN_item {m : Nat} (i : Item) : OkN (m + 4) (encI i) := by
  cases i with
  | deed d => exact (okN_deed (m := 0) d).mono (by omega)
  | ask a b y n => exact OkN.tup (OkN.cons2 (OkN.str (by decide +kernel)) (OkN.cons2 (OkN.int _) (OkN.cons2 (OkN.int _) (OkN.cons2 (okN_deeds _) (OkN.cons2 (okN_deeds _) OkN.nil2)))))
theorem okN_items {m : Nat} (s : List Item) : OkN (m + 5) (.list (s.map encI)) := OkN.lst fun d hd => by
  obtain ⟨p, _, rfl⟩ := List.mem_map.mp hd
  exact okN_item p
theorem okN_scr {m : Nat} (s : Scr) : OkN (m + 5) (encS s) := OkN.tup fun d hd => by
  obtain ⟨p, _, rfl⟩ := List.mem_map.mp hd
  exact okN_item p
theorem okD_items (s : List Item) : okD (.list (s.map encI)) = true := (okN_items (m := 0) s).ok (by decide)
theorem nds_items (s : List Item) : nodicts (s.map encI) = true := by
  have := (okN_items (m := 0) s).nd
  rw [nodict] at this
  exact this
def isAsk : Item → Bool
  | .deed _ => false
  | .ask _ _ _ _ => true
theorem encI_tag (i : Item) : ∃ (x : Str) (r : List PyData), encI i = .tuple (.str x :: r) ∧ decide (x = "ask") = isAsk i ∧ okD (.str x) = true := by
  cases i with
  | ask a b y n => exact ⟨_, _, rfl, (by decide +kernel : decide (("ask" : Str) = "ask") = true), by decide +kernel⟩
  | deed d =>
    cases d with
    | pairs a an => exact ⟨_, _, rfl, (by decide +kernel : decide (("pairs" : Str) = "ask") = false), by decide +kernel⟩
    | takes a b an => exact ⟨_, _, rfl, (by decide +kernel : decide (("takes" : Str) = "ask") = false), by decide +kernel⟩
    | tie a b w => exact ⟨_, _, rfl, (by decide +kernel : decide (("tie" : Str) = "ask") = false), by decide +kernel⟩
theorem we_tag {C : Ct} {c : Option Addr} {Γ : List Sl} {Φ : PK} {i : Nat} {it : Item} (h : Γ[i]? = some (.d (encI it))) (q : Φ (.bool (isAsk it))) : WE C c (tOp (rT2 C eqT) (tOp (rT2 C ixT) (tVar i) (tC (.int 0))) (tC (.str "ask"))) Γ Φ := by
  obtain ⟨x, r, e, e1, e2⟩ := encI_tag it
  refine we_op (we_op (we_var h (we_int ?_)))
  rw [e]
  exact iT_ix0T (we_str (iT_eqS _ e2 (by decide +kernel) e1 q))
theorem we_v {C : Ct} {c : Option Addr} {Γ : List Sl} {Φ : PK} {i : Nat} {x : PyData} (q : Φ x) (h : Γ[i]? = some (.d x)) : WE C c (tVar i) Γ Φ := we_var h q
end DW0

/-! ### the word that steps -/
/-- the word -/
local macro_rules | `(tactic| walk_at "w") => `(tactic| first
  | with_reducible refine ws_seq ?_ | with_reducible refine ws_ret ?_ | with_reducible refine ws_asg ?_ | with_reducible refine ws_par ?_ | with_reducible refine ws_drop ?_ | with_reducible refine ws_if ?_ | with_reducible refine ws_next ?_ | with_reducible refine ws_retN ?_
  | with_reducible refine we_op ?_ | with_reducible refine we_un ?_ | with_reducible refine we_cb ?_ | with_reducible refine we_call ?_ | with_reducible refine we_int ?_ | with_reducible refine we_str ?_ | with_reducible refine we_bl ?_ | with_reducible refine we_non ?_
  | with_reducible refine we_tup ?_ | with_reducible refine we_lst ?_ | with_reducible refine we_if ?_ | with_reducible refine we_andV ?_ | with_reducible refine we_orV ?_ | with_reducible refine we_notV ?_ | with_reducible refine we_chain ?_ | with_reducible refine we_isN ?_
  | with_reducible refine we_isi ?_ | with_reducible refine we_slT ?_ | with_reducible refine we_slL ?_
  | with_reducible refine wt_test ?_ | with_reducible refine wt_B ?_ | with_reducible refine wt_yes ?_ | with_reducible refine wt_and ?_ | with_reducible refine wt_or ?_ | with_reducible refine wt_not ?_
  | with_reducible refine wa_cons ?_ | with_reducible refine wa_nil ?_ | with_reducible refine wb_nil ?_ | ((with_reducible refine wb_cup ?h ?_); (case h => exact rfl)) | with_reducible refine wb_cons ?_
  | with_reducible refine wi_list ?_ | with_reducible refine wi_tup ?_ | with_reducible refine wi_rng1 ?_ | with_reducible refine wi_rng2 ?_
  | with_reducible refine sq_nx ?_ | with_reducible refine sq_rt ?_ | with_reducible refine lp_nx ?_ | with_reducible refine lp_rt ?_ | with_reducible refine rp_rt ?_ | with_reducible refine rp_nx ?_
  | ((with_reducible refine we_v (x := ?x) ?k ?h); (case h => exact rfl))
  | with_reducible refine addT_int ?_ | with_reducible refine iT_sub ?_ | with_reducible refine iT_lt ?_ | with_reducible refine iT_le ?_ | with_reducible refine iT_gt ?_ | with_reducible refine iT_ge ?_ | with_reducible refine iT_neg ?_
  | with_reducible refine iT_eqI ?_ | with_reducible refine iT_neI ?_ | with_reducible refine iT_eqP ?_ | with_reducible refine iT_neP ?_ | with_reducible refine iT_eqPL ?_ | with_reducible refine iT_neC ?_ | with_reducible refine iT_neCT ?_
  | with_reducible refine iT_in2 ?_ | with_reducible refine iT_nin2 ?_ | with_reducible refine iT_inPT ?_ | with_reducible refine iT_ninPL ?_
  | with_reducible refine iT_ix0L ?_ | with_reducible refine iT_ix0T ?_ | ((with_reducible refine iT_ixL (z := ?z) ?h ?k); (case h => exact rfl)) | ((with_reducible refine iT_ixT (z := ?z) ?h ?k); (case h => exact rfl))
  | with_reducible refine iT_lenL ?_ | with_reducible refine iT_lenT ?_ | with_reducible refine iT_listL ?_ | with_reducible refine iT_listT ?_ | with_reducible refine iT_tupL ?_ | with_reducible refine iT_tupT ?_
  | with_reducible refine iT_min ?_ | with_reducible refine iT_max ?_ | with_reducible refine iT_int ?_ | with_reducible refine iT_intB ?_
  | with_reducible refine iI_ii ?_ | with_reducible refine iI_ib ?_ | with_reducible refine iI_ss ?_ | with_reducible refine iI_tt (by assumption) ?_
  | with_reducible refine iT_mul' (by decide) (by decide) ?_
  | with_reducible refine iT_eqBd ?_
  | with_reducible refine iT_neNil (okD_items _) ?_
  | with_reducible refine iBnf ?_ | with_reducible refine iBnt ?_ | with_reducible refine iBnf' ?_ | with_reducible refine iBnt' ?_
  | with_reducible refine iBd (fun hc => ?_) (fun hc => ?_) | with_reducible refine iBd' (fun hc => ?_) (fun hc => ?_) | with_reducible refine iBnd (fun hc => ?_) (fun hc => ?_) | with_reducible refine iBnd' (fun hc => ?_) (fun hc => ?_)
  | with_reducible refine iE1 ?_ | with_reducible refine iExT ?_ | with_reducible refine iExL ?_ | with_reducible refine iLn0 ?_ | with_reducible refine iLn1 ?_ | with_reducible refine iLn2 ?_ | with_reducible refine iLn3 ?_ | with_reducible refine iLn4 ?_ | with_reducible refine iLn5 ?_ | with_reducible refine iLn6 ?_ | with_reducible refine iLn7 ?_
  | with_reducible refine wg_name (by decide) ?_ | with_reducible refine wg_tup rfl ?_ | with_reducible refine wgs_cons ?_ | with_reducible refine wgs_nil ?_
  | with_reducible refine iBt ?_ | with_reducible refine iBf ?_ | with_reducible refine iBt' ?_ | with_reducible refine iBf' ?_ | with_reducible refine iB ?_
  | with_reducible refine iT_eqS true (by decide +kernel) (by decide +kernel) (by decide +kernel) ?_ | with_reducible refine iT_eqS false (by decide +kernel) (by decide +kernel) (by decide +kernel) ?_
  | with_reducible refine iT_neS true (by decide +kernel) (by decide +kernel) (by decide +kernel) ?_ | with_reducible refine iT_neS false (by decide +kernel) (by decide +kernel) (by decide +kernel) ?_)
local macro_rules | `(tactic| walk_at "w") => `(tactic| ((with_reducible refine we_tag (it := ?it) ?h ?k); (case h => exact rfl)))

section DW1
open PySem PySem.Spec PyProof.Rows L2
section
variable {C : Ct} {c : Option Addr} {ss : List Sl} {Φ : PK}
def W_is_whole : List Sl → PK → Prop := fun ss Φ => ∃ i lo hi : Int, ss = [.d (.int i), .d (.int lo), .d (.int hi)] ∧ Φ (.bool (decide (lo ≤ i ∧ i ≤ hi)))
theorem w_is_whole (h : W_is_whole ss Φ) : WS C c (t_is_whole C) (startG n_is_whole ss) (retP Φ) := by
  obtain ⟨i, lo, hi, rfl, q⟩ := h
  unfold t_is_whole
  repeat' walk_at "w"
  · next h => rw [decide_eq_decide.mpr (by omega : i ≤ hi ↔ lo ≤ i ∧ i ≤ hi)]; exact q
  · next h => rw [decide_eq_false (by omega : ¬ (lo ≤ i ∧ i ≤ hi))] at q; exact q
def W_is_tuple_of : List Sl → PK → Prop := fun ss Φ => ∃ (ds : List PyData) (lo hi : Int), ss = [.d (.tuple ds), .d (.int lo), .d (.int hi)] ∧ nodicts ds = true ∧ Φ (.bool (decide (lo ≤ ds.length ∧ ds.length ≤ hi)))
theorem w_is_tuple_of (h : W_is_tuple_of ss Φ) : WS C c (t_is_tuple_of C) (startG n_is_tuple_of ss) (retP Φ) := by
  obtain ⟨ds, lo, hi, rfl, hn, q⟩ := h
  unfold t_is_tuple_of
  repeat' walk_at "w"
  · next h => rw [decide_eq_decide.mpr (by omega : (ds.length : Int) ≤ hi ↔ lo ≤ ds.length ∧ ds.length ≤ hi)]; exact q
  · next h => rw [decide_eq_false (by omega : ¬ (lo ≤ ds.length ∧ ds.length ≤ hi))] at q; exact q
def W_are_whole : List Sl → PK → Prop := fun ss Φ => ∃ (xs : List Int) (lo hi : Int), ss = [.d (.tuple (xs.map PyData.int)), .d (.int lo), .d (.int hi)] ∧ xs.length ≤ 10000 ∧ Φ (.bool (xs.all fun i => decide (lo ≤ i ∧ i ≤ hi)))
theorem w_are_whole (h : W_are_whole ss Φ) : WS C c (t_are_whole C W_is_whole) (startG n_are_whole ss) (retP Φ) := by
  obtain ⟨xs, lo, hi, rfl, hn, q⟩ := h
  unfold t_are_whole
  repeat' walk_at "w"
  refine we_lcMapT PyData.int (fun i => .bool (decide (lo ≤ i ∧ i ≤ hi))) ?_
  repeat' walk_at "w"
  refine ⟨xs, rfl, hn, fun x hx => ?_, ?_⟩
  repeat' walk_at "w"
  · exact ⟨x, lo, hi, rfl, rfl⟩
  · exact iT_allM q
def W_pair_of : List Sl → PK → Prop := fun ss Φ => ∃ a b : Int, ss = [.d (.int a), .d (.int b)] ∧ Φ (encP (min a b, max a b))
theorem w_pair_of (h : W_pair_of ss Φ) : WS C c (t_pair_of C) (startG n_pair_of ss) (retP Φ) := by
  obtain ⟨a, b, rfl, q⟩ := h
  unfold t_pair_of
  repeat' walk_at "w"
  exact q
def W_need_named : List Sl → PK → Prop := fun ss Φ => ∃ a : Int, ss = [.d (.int a)] ∧ 1 ≤ a ∧ a ≤ 3 ∧ Φ .none
theorem w_need_named (h : W_need_named ss Φ) : WS C c (t_need_named C W_is_whole) (startG n_need_named ss) (retP Φ) := by
  obtain ⟨a, rfl, h1, h2, q⟩ := h
  unfold t_need_named
  refine ws_ifno ?_
  repeat' walk_at "w"
  refine ⟨a, 1, 3, rfl, true, by rw [decide_eq_true ⟨h1, h2⟩], rfl, ?_⟩
  repeat' walk_at "w"
  exact q
def W_pairs_of : List Sl → PK → Prop := fun ss Φ => ∃ n : Nat, ss = [.d (.int n)] ∧ n ≤ 10 ∧ Φ (.list ((prs n).map encP))
theorem w_pairs_of (h : W_pairs_of ss Φ) : WS C c (t_pairs_of C) (startG n_pairs_of ss) (retP Φ) := by
  obtain ⟨n, rfl, hn, q⟩ := h
  unfold t_pairs_of
  repeat' walk_at "w"
  refine we_lc2M (α := Nat) (β := Nat) (fun k => .int (0 + (k : Int))) (fun j => .int j) (fun i => (List.range (n - (i + 1))).map fun j => i + 1 + j) (fun _ _ => true) (fun i j => encP ((i : Int), (j : Int))) ?_
  repeat' walk_at "w"
  refine ⟨n, rfl, by omega, by omega, List.range n, rfl, by rw [List.length_range]; omega, fun i hi => ?_, ?_⟩
  · repeat' walk_at "w"
    refine ⟨_, _, rfl, rfl, ?_⟩
    have hi2 := List.mem_range.mp hi
    refine ⟨by omega, by omega, by omega, by omega, ?_, by rw [List.length_map, List.length_range]; omega, fun y hy => ?_⟩
    · have e : ((n : Int) - (0 + (i : Int) + 1)).toNat = n - (i + 1) := by omega
      rw [e, List.map_map]
      unfold rng
      refine List.map_congr_left fun j _ => ?_
      show PyData.int _ = PyData.int _
      congr 1
      push_cast
      omega
    · repeat' walk_at "w"
      refine ⟨rfl, fun _ => ?_⟩
      repeat' walk_at "w"
      show PyData.tuple [.int (0 + (i : Int)), .int (y : Int)] = _
      rw [Int.zero_add]
  · have e : ((List.range n).flatMap fun x => (((List.range (n - (x + 1))).map fun j => x + 1 + j).filter fun _ => true).map fun (j : Nat) => encP ((x : Int), (j : Int))) = (prs n).map encP := by
      unfold prs
      rw [List.map_flatMap]
      refine fm_congr fun x _ => ?_
      rw [List.filter_eq_self.mpr (fun _ _ => rfl), List.map_map]
      unfold rowP
      rw [List.map_map]
      refine List.map_congr_left fun j _ => ?_
      show PyData.tuple [_, .int _] = PyData.tuple [_, .int _]
      congr 3
    rw [e]
    exact q
theorem i_pairs_of {n : Nat} (hn : n ≤ 10) (h : Φ (.list ((prs n).map encP))) : W_pairs_of [.d (.int n)] Φ := ⟨n, rfl, hn, h⟩
theorem i_pair_of {a b : Int} (h : Φ (encP (min a b, max a b))) : W_pair_of [.d (.int a), .d (.int b)] Φ := ⟨a, b, rfl, h⟩
theorem i_is_whole {a b c : Int} (h : Φ (.bool (decide (b ≤ a ∧ a ≤ c)))) : W_is_whole [.d (.int a), .d (.int b), .d (.int c)] Φ := ⟨a, b, c, rfl, h⟩
theorem i_is_tuple_of {ds : List PyData} {b c : Int} (hn : nodicts ds = true) (h : Φ (.bool (decide (b ≤ ds.length ∧ ds.length ≤ c)))) : W_is_tuple_of [.d (.tuple ds), .d (.int b), .d (.int c)] Φ := ⟨ds, b, c, rfl, hn, h⟩
def W_company_by : List Sl → PK → Prop := fun ss Φ => ∃ (n : Nat) (f : Int × Int → Bool), ss = [.d (.int n), .d (.dict ((prs n).map fun p => (encP p, .bool (f p))))] ∧ n ≤ 10 ∧ Φ (encC (n, (prs n).filter f))
theorem i_company_by {n : Nat} {f : Int × Int → Bool} (hn : n ≤ 10) (h : Φ (encC (n, (prs n).filter f))) : W_company_by [.d (.int n), .d (.dict ((prs n).map fun p => (encP p, .bool (f p))))] Φ := ⟨n, f, rfl, hn, h⟩
theorem w_company_by (h : W_company_by ss Φ) : WS C c (t_company_by C W_pairs_of) (startG n_company_by ss) (retP Φ) := by
  obtain ⟨n, f, rfl, hn, q⟩ := h
  unfold t_company_by
  repeat' walk_at "w"
  refine we_lcFilT encP f encP ?_
  repeat' walk_at "w"
  refine i_pairs_of hn ?_
  repeat' walk_at "w"
  refine ⟨_, rfl, Nat.le_trans (prs_len hn) (by decide), fun p hp => ?_, ?_⟩
  · repeat' walk_at "w"
    refine iT_get (f := fun q => .bool (f q)) hp ?_
    repeat' walk_at "w"
    refine ⟨rfl, fun _ => ?_⟩
    repeat' walk_at "w"
    rfl
  · repeat' walk_at "w"
    exact q
def W_ties_in : List Sl → PK → Prop := fun ss Φ => ∃ c : Co, ss = [.d (encC c)] ∧ c.1 ≤ 10 ∧ Φ (.dict ((prs c.1).map fun p => (encP p, .bool (decide (p ∈ c.2)))))
theorem i_ties_in {c : Co} (hn : c.1 ≤ 10) (h : Φ (.dict ((prs c.1).map fun p => (encP p, .bool (decide (p ∈ c.2)))))) : W_ties_in [.d (encC c)] Φ := ⟨c, rfl, hn, h⟩
theorem w_ties_in (h : W_ties_in ss Φ) : WS C c (t_ties_in C W_pairs_of) (startG n_ties_in ss) (retP Φ) := by
  obtain ⟨⟨n, ts⟩, rfl, hn, q⟩ := h
  unfold t_ties_in
  repeat' walk_at "w"
  refine we_lcMapT encP (fun p => .tuple [encP p, .bool (decide (p ∈ ts))]) ?_
  repeat' walk_at "w"
  refine i_pairs_of hn ?_
  repeat' walk_at "w"
  refine ⟨_, rfl, Nat.le_trans (prs_len hn) (by decide), fun p hp => ?_, ?_⟩
  · repeat' walk_at "w"
    rfl
  · repeat' walk_at "w"
    refine iT_dict (f := fun p => .bool (decide (p ∈ ts))) (prs_nodup n) ?_
    exact q
def W_answer_of : List Sl → PK → Prop := fun ss Φ => ∃ (n : Nat) (ts : List (Int × Int)) (d : Deed) (p : Int × Int), ss = [.d (.dict ((prs n).map fun q => (encP q, .bool (decide (q ∈ ts))))), .d (encD d), .d (.int p.1), .d (.int p.2)] ∧ n ≤ 10 ∧ DOk n d ∧ p ∈ prs n ∧ Φ (.bool (ansD ts d p))
theorem w_answer_of (h : W_answer_of ss Φ) : WS C c (t_answer_of C W_pair_of) (startG n_answer_of ss) (retP Φ) := by
  obtain ⟨n, ts, d, p, rfl, hn, hd, hp, q⟩ := h
  unfold t_answer_of
  repeat' walk_at "w"
  refine iT_get (f := fun q => .bool (decide (q ∈ ts))) (p := p) hp ?_
  cases d with
  | pairs a an =>
    simp only [encD]
    repeat' walk_at "w"
    · next hc =>
      simp only [ansD, if_pos hc] at q
      exact q
    · next hc =>
      simp only [ansD, if_neg hc] at q
      obtain ⟨⟨ha1, ha2⟩, hl, hb⟩ := hd
      obtain ⟨hp1, hp2, hp3⟩ := mem_prs.mp hp
      refine we_lcFilT PyData.int (fun x => knows ts a x) (fun _ => .int 1) ?_
      repeat' walk_at "w"
      refine ⟨[p.1, p.2], rfl, Nat.le_of_ble_eq_true rfl, fun x hx => ?_, ?_⟩
      · have hx : x = p.1 ∨ x = p.2 := by simpa using hx
        repeat' walk_at "w"
        refine i_pair_of (iT_get (f := fun q => .bool (decide (q ∈ ts))) (p := (min a x, max a x)) (mem_prs.mpr ?_) ?_)
        · simp only
          omega
        · repeat' walk_at "w"
          refine ⟨rfl, fun _ => ?_⟩
          repeat' walk_at "w"
          rfl
      · repeat' walk_at "w"
        refine iT_sumM ?_
        repeat' walk_at "w"
        have hs : (([p.1, p.2].filter fun x => knows ts a x).map fun _ => (1 : Int)).sum = (bit (knows ts a p.1) + bit (knows ts a p.2) : Nat) := by
          cases h1 : knows ts a p.1 <;> cases h2 : knows ts a p.2 <;> simp [h1, h2, bit]
        have hk : 3 * bit (decide (p ∈ ts)) + (bit (knows ts a p.1) + bit (knows ts a p.2)) < an.length := by
          have b1 := bit_le (decide (p ∈ ts))
          have b2 := bit_le (knows ts a p.1)
          have b3 := bit_le (knows ts a p.2)
          omega
        refine iT_ixN (3 * bit (decide (p ∈ ts)) + (bit (knows ts a p.1) + bit (knows ts a p.2))) ?_ (List.getElem?_eq_getElem hk) ?_
        · rw [hs, bit_if]
          push_cast
          rfl
        · repeat' walk_at "w"
          rw [List.getElem?_eq_getElem hk] at q
          simpa using q
  | takes a b an =>
    simp only [encD]
    repeat' walk_at "w"
    · next hc =>
      simp only [ansD] at q
      rw [if_neg (fun z => z.2 (hc.mp z.1))] at q
      exact q
    · next hc h2 =>
      simp only [ansD] at q
      rw [if_neg (fun z => h2 z.1)] at q
      exact q
    · next hc h2 =>
      have h3 : ¬(b = p.1 ∨ b = p.2) := fun z => hc ⟨fun _ => z, fun _ => h2⟩
      simp only [ansD] at q
      rw [if_pos ⟨h2, h3⟩] at q
      obtain ⟨⟨ha1, ha2⟩, ⟨hb1, hb2⟩, hab, hl, hb⟩ := hd
      obtain ⟨hp1, hp2, hp3⟩ := mem_prs.mp hp
      refine i_pair_of (iT_get (f := fun q => .bool (decide (q ∈ ts))) (p := (min b (p.1 + p.2 - a), max b (p.1 + p.2 - a))) (mem_prs.mpr ?_) ?_)
      · simp only
        omega
      · repeat' walk_at "w"
        have hk : 2 * bit (decide (p ∈ ts)) + bit (knows ts b (p.1 + p.2 - a)) < an.length := by
          have b1 := bit_le (decide (p ∈ ts))
          have b2 := bit_le (knows ts b (p.1 + p.2 - a))
          omega
        refine iT_ixN (2 * bit (decide (p ∈ ts)) + bit (knows ts b (p.1 + p.2 - a))) ?_ (List.getElem?_eq_getElem hk) ?_
        · rw [bit_if, bit_if]
          unfold knows
          push_cast
          rfl
        · repeat' walk_at "w"
          rw [List.getElem?_eq_getElem hk] at q
          simpa using q
  | tie a b w =>
    cases w <;> simp only [encD, Wd3.s]
    all_goals repeat' walk_at "w"
    all_goals refine i_pair_of ?_
    all_goals repeat' walk_at "w"
    all_goals try
      next hc =>
        simp only [ansD] at q
        rw [if_neg (show ¬(min a b, max a b) = p from hc)] at q
        exact q
    all_goals
      next hc =>
        simp only [ansD] at q
        rw [if_pos (show (min a b, max a b) = p from hc)] at q
        exact q
theorem i_answer_of {n : Nat} {ts : List (Int × Int)} {d : Deed} {p : Int × Int} (hn : n ≤ 10) (hd : DOk n d) (hp : p ∈ prs n) (h : Φ (.bool (ansD ts d p))) :
    W_answer_of [.d (.dict ((prs n).map fun q => (encP q, .bool (decide (q ∈ ts))))), .d (encD d), .d (.int p.1), .d (.int p.2)] Φ := ⟨n, ts, d, p, rfl, hn, hd, hp, h⟩
def W_behind : List Sl → PK → Prop := fun ss Φ => ∃ (c : Co) (d : Deed), ss = [.d (encC c), .d (encD d)] ∧ c.1 ≤ 10 ∧ DOk c.1 d ∧ Φ (encC (behindD c d))
theorem i_behind {c : Co} {d : Deed} (hn : c.1 ≤ 10) (hd : DOk c.1 d) (h : Φ (encC (behindD c d))) : W_behind [.d (encC c), .d (encD d)] Φ := ⟨c, d, rfl, hn, hd, h⟩
theorem w_behind (h : W_behind ss Φ) : WS C c (t_behind C W_ties_in W_pairs_of W_company_by W_answer_of) (startG n_behind ss) (retP Φ) := by
  obtain ⟨⟨n, ts⟩, d, rfl, hn, hd, q⟩ := h
  unfold t_behind
  repeat' walk_at "w"
  refine i_ties_in (c := (n, ts)) hn ?_
  repeat' walk_at "w"
  refine i_pairs_of hn ?_
  repeat' walk_at "w"
  refine we_lcMapT encP (fun p => .tuple [encP p, .bool (ansD ts d p)]) ?_
  repeat' walk_at "w"
  refine ⟨_, rfl, Nat.le_trans (prs_len hn) (by decide), fun p hp => ?_, ?_⟩
  · repeat' walk_at "w"
    refine i_answer_of hn hd hp ?_
    repeat' walk_at "w"
    rfl
  · repeat' walk_at "w"
    refine iT_dict (f := fun p => .bool (ansD ts d p)) (prs_nodup n) ?_
    repeat' walk_at "w"
    exact i_company_by hn q
end
end DW1

section DW2
open PySem PySem.Spec PyProof.Rows L2
section
variable {C : Ct} {c : Option Addr} {ss : List Sl} {Φ : PK}
theorem behindD_n (c : Co) (d : Deed) : (behindD c d).1 = c.1 := rfl
theorem fold_behind_n (c : Co) (ds : List Deed) : (ds.foldl behindD c).1 = c.1 := by
  induction ds generalizing c with
  | nil => rfl
  | cons d ds ih => rw [List.foldl_cons, ih, behindD_n]
theorem doneS_deeds (c : Co) (ds : List Deed) : doneS c (ds.map .deed) = ds.foldl behindD c := by
  unfold doneS
  rw [List.foldl_map]
  rfl
theorem cntS_deeds (ds : List Deed) : cntS (ds.map .deed) = ds.length := by
  induction ds with
  | nil => rfl
  | cons d ds ih =>
    unfold cntS at *
    rw [List.map_cons, List.map_cons, List.sum_cons, ih, List.length_cons]
    show 1 + ds.length = _
    omega
theorem cntS_cons (i : Item) (s : Scr) : cntS (i :: s) = cntI i + cntS s := by
  unfold cntS
  rw [List.map_cons, List.sum_cons]
theorem cntS_app (s t : Scr) : cntS (s ++ t) = cntS s + cntS t := by
  unfold cntS
  rw [List.map_append, List.sum_append]
theorem len_cntS (s : Scr) : s.length ≤ cntS s := by
  induction s with
  | nil => exact Nat.zero_le _
  | cons i s ih =>
    rw [cntS_cons, List.length_cons]
    have : 1 ≤ cntI i := by
      cases i <;> simp only [cntI] <;> omega
    omega
theorem enc_deeds (ds : List Deed) : ds.map encD = (ds.map Item.deed).map encI := by
  rw [List.map_map]
  rfl
theorem done_ask (c : Co) (a b : Int) (y n : List Deed) (left : Scr) : doneS c ((if knows c.2 a b then y else n).map .deed ++ left) = doneS c (.ask a b y n :: left) := by
  have e := doneS_deeds c (if knows c.2 a b then y else n)
  unfold doneS at *
  rw [List.foldl_append, e, List.foldl_cons]
  rfl
def W_run_by : List Sl → PK → Prop := fun ss Φ => ∃ (c : Co) (s : Scr), ss = [.d (encC c), .d (encS s)] ∧ c.1 ≤ 10 ∧ (∀ i ∈ s, IOk c.1 i) ∧ cntS s ≤ 100 ∧ ∀ fs, Φ (.tuple [encC (doneS c s), .list fs])
theorem w_run_by (h : W_run_by ss Φ) : WS C c (t_run_by C W_pair_of W_behind) (startG n_run_by ss) (retP Φ) := by
  obtain ⟨c0, s, rfl, hn, hs, hc, q⟩ := h
  unfold t_run_by
  repeat' walk_at "w"
  refine ws_while (fun m Γ => ∃ (c' : Co) (left : List Item) (fs : List PyData) (x : Sl), Γ = [.d (encC c'), .d (encS s), .d (.list fs), .d (.list (left.map encI)), x] ∧ m = cntS left ∧ c'.1 = c0.1 ∧ (∀ i ∈ left, IOk c0.1 i) ∧ fs.length + cntS left ≤ 100 ∧ doneS c' left = doneS c0 s) (cntS s) ⟨c0, s, [], .un, rfl, rfl, rfl, hs, by simpa using hc, rfl⟩ ?_
  rintro m Γ' ⟨c', left, fs, x, rfl, rfl, hcn, hi, hl, hdone⟩
  repeat' walk_at "w"
  · next hc2 =>
    cases left with
    | nil => exact absurd rfl hc2
    | cons i left =>
      simp only [List.map_cons]
      repeat' walk_at "w"
      have hiI := hi i List.mem_cons_self
      have hiL : ∀ j ∈ left, IOk c0.1 j := fun j hj => hi j (List.mem_cons_of_mem _ hj)
      rw [cntS_cons] at hl
      cases i with
      | deed d =>
        have hl1 : fs.length + (1 + cntS left) ≤ 100 := hl
        refine iBf ?_
        repeat' walk_at "w"
        refine i_behind (c := c') (d := d) (by omega) (by rw [hcn]; exact hiI) ?_
        repeat' walk_at "w"
        refine addT_lst (by simp only [List.length_cons, List.length_nil]; omega) ?_
        refine lp_nx ⟨cntS left, ?_, behindD c' d, left, fs ++ [encD d], _, rfl, rfl, hcn, hiL, ?_, hdone⟩
        · rw [cntS_cons]
          show cntS left < 1 + cntS left
          omega
        · rw [List.length_append, List.length_cons, List.length_nil]
          omega
      | ask a b y n =>
        have hl1 : fs.length + (1 + (y.length + n.length) + cntS left) ≤ 100 := hl
        have ll := len_cntS left
        refine iBt ?_
        simp only [encI]
        repeat' walk_at "w"
        refine i_pair_of ?_
        repeat' walk_at "w"
        · next hk =>
          refine addT_lst (by simp only [List.length_map, List.length_drop, List.length_cons]; omega) ?_
          refine lp_nx ⟨cntS (y.map .deed ++ left), ?_, c', y.map .deed ++ left, fs, .d (encI (.ask a b y n)), ?_, rfl, hcn, ?_, ?_, ?_⟩
          · rw [cntS_app, cntS_deeds, cntS_cons]
            simp only [cntI]
            omega
          · rw [List.map_append, ← enc_deeds]
            rfl
          · intro j hj
            rcases List.mem_append.mp hj with hj | hj
            · obtain ⟨d, hd, rfl⟩ := List.mem_map.mp hj
              exact hiI.2.2.2.1 d hd
            · exact hiL j hj
          · rw [cntS_app, cntS_deeds]
            omega
          · rw [← hdone, ← done_ask, if_pos (show knows c'.2 a b = true from decide_eq_true hk)]
        · next hk =>
          refine addT_lst (by simp only [List.length_map, List.length_drop, List.length_cons]; omega) ?_
          refine lp_nx ⟨cntS (n.map .deed ++ left), ?_, c', n.map .deed ++ left, fs, .d (encI (.ask a b y n)), ?_, rfl, hcn, ?_, ?_, ?_⟩
          · rw [cntS_app, cntS_deeds, cntS_cons]
            simp only [cntI]
            omega
          · rw [List.map_append, ← enc_deeds]
            rfl
          · intro j hj
            rcases List.mem_append.mp hj with hj | hj
            · obtain ⟨d, hd, rfl⟩ := List.mem_map.mp hj
              exact hiI.2.2.2.2 d hd
            · exact hiL j hj
          · rw [cntS_app, cntS_deeds]
            omega
          · rw [← hdone, ← done_ask, if_neg (show ¬ knows c'.2 a b = true from by unfold knows; rw [decide_eq_false hk]; exact Bool.false_ne_true)]
  · next hc2 =>
    cases left with
    | cons i left => exact absurd hc2 (by simp)
    | nil =>
      rw [show c' = doneS c0 s from hdone]
      exact q fs
theorem i_run_by {c : Co} {s : Scr} (h1 : c.1 ≤ 10) (h2 : ∀ i ∈ s, IOk c.1 i) (h3 : cntS s ≤ 100) (h : ∀ fs, Φ (.tuple [encC (doneS c s), .list fs])) : W_run_by [.d (encC c), .d (encS s)] Φ := ⟨c, s, rfl, h1, h2, h3, h⟩
end
end DW2

section DW3
open PySem PySem.Spec PyProof.Rows L2
section
variable {C : Ct} {c : Option Addr} {ss : List Sl} {Φ : PK}
def W_are_two_named : List Sl → PK → Prop := fun ss Φ => ∃ n a b : Int, ss = [.d (.int n), .d (.int a), .d (.int b)] ∧ (0 ≤ a ∧ a < n) ∧ (0 ≤ b ∧ b < n) ∧ a ≠ b ∧ Φ (.bool true)
theorem i_are_two_named {n a b : Int} (h1 : 0 ≤ a ∧ a < n) (h2 : 0 ≤ b ∧ b < n) (h3 : a ≠ b) (h : Φ (.bool true)) : W_are_two_named [.d (.int n), .d (.int a), .d (.int b)] Φ := ⟨n, a, b, rfl, h1, h2, h3, h⟩
theorem w_are_two_named (h : W_are_two_named ss Φ) : WS C c (t_are_two_named C W_is_whole) (startG n_are_two_named ss) (retP Φ) := by
  obtain ⟨n, a, b, rfl, h1, h2, h3, q⟩ := h
  unfold t_are_two_named
  repeat' walk_at "w"
  refine i_is_whole ?_
  rw [decide_eq_true (by omega : 0 ≤ a ∧ a ≤ n - 1)]
  repeat' walk_at "w"
  refine i_is_whole ?_
  rw [decide_eq_true (by omega : 0 ≤ b ∧ b ≤ n - 1)]
  repeat' walk_at "w"
  rw [decide_eq_false h3]
  exact q
def W_are_answers : List Sl → PK → Prop := fun ss Φ => ∃ (xs : List Int) (n : Nat), ss = [.d (.tuple (xs.map PyData.int)), .d (.int n)] ∧ n ≤ 100 ∧ bitsOk xs n ∧ Φ (.bool true)
theorem i_are_answers {xs : List Int} (n : Nat) (h1 : n ≤ 100) (h2 : bitsOk xs n) (h : Φ (.bool true)) : W_are_answers [.d (.tuple (xs.map PyData.int)), .d (.int n)] Φ := ⟨xs, n, rfl, h1, h2, h⟩
theorem nds_ints (xs : List Int) : nodicts (xs.map PyData.int) = true := by
  have := (okN_ints (m := 0) xs).nd
  rw [nodict] at this
  exact this
theorem w_are_answers (h : W_are_answers ss Φ) : WS C c (t_are_answers C W_are_whole W_is_tuple_of) (startG n_are_answers ss) (retP Φ) := by
  obtain ⟨xs, n, rfl, h1, ⟨h2, h3⟩, q⟩ := h
  unfold t_are_answers
  repeat' walk_at "w"
  refine i_is_tuple_of (nds_ints xs) ?_
  rw [List.length_map, h2, decide_eq_true ⟨Int.le_refl _, Int.le_refl _⟩]
  repeat' walk_at "w"
  refine ⟨xs, 0, 1, rfl, by omega, ?_⟩
  rw [List.all_eq_true.mpr fun x hx => decide_eq_true (h3 x hx)]
  exact q
theorem okN_nds {m : Nat} {ds : List PyData} (h : OkN m (.tuple ds)) : nodicts ds = true := by
  have := h.nd
  rw [nodict] at this
  exact this
/-- the tuple of the three words stands among what is kept -/
def WordsOk (K : PySem.W.Frag) (b : Addr) : Prop := ∃ (o : Obj) (its : Array Value) (n : Nat), K.lookup b = some o ∧ o.cls = .type "tuple" ∧ o.data = .seq its n ∧ its.size ≤ sizeLine ∧ Vals ([("know" : Str), "part", "turn"].map V.str) its.toList
def W_fits_deed : List Sl → PK → Prop := fun ss Φ => ∃ (n : Nat) (d : Deed), ss = [.d (.int n), .d (encD d)] ∧ DOk n d ∧ Φ (.bool true)
theorem w_fits_deed {bW : Addr} (hW : WordsOk C.K bW) (h : W_fits_deed ss Φ) : WS C c (t_fits_deed C W_is_tuple_of W_are_answers W_is_whole W_are_two_named bW) (startG n_fits_deed ss) (retP Φ) := by
  obtain ⟨n, d, rfl, hd, q⟩ := h
  unfold t_fits_deed
  have hn : OkN 2 (encD d) := okN_deed d
  cases d with
  | pairs a an =>
    simp only [encD] at hn ⊢
    obtain ⟨h1, h2⟩ := hd
    repeat' walk_at "w"
    refine i_is_tuple_of (okN_nds hn) ?_
    rw [show decide ((3 : Int) ≤ ([PyData.str "pairs", .int a, .tuple (an.map PyData.int)].length : Nat) ∧ (([PyData.str "pairs", .int a, .tuple (an.map PyData.int)].length : Nat) : Int) ≤ 4) = true from rfl]
    repeat' walk_at "w"
    · next hl => 
      refine i_is_whole ?_
      rw [decide_eq_true (by omega : 0 ≤ a ∧ a ≤ (n : Int) - 1)]
      repeat' walk_at "w"
      exact i_are_answers 6 (by decide) h2 q
    · next hl => exact absurd rfl hl
  | takes a b an =>
    simp only [encD] at hn ⊢
    obtain ⟨h1, h2, h3, h4⟩ := hd
    repeat' walk_at "w"
    refine i_is_tuple_of (okN_nds hn) ?_
    rw [show decide ((3 : Int) ≤ ([PyData.str "takes", .int a, .int b, .tuple (an.map PyData.int)].length : Nat) ∧ (([PyData.str "takes", .int a, .int b, .tuple (an.map PyData.int)].length : Nat) : Int) ≤ 4) = true from rfl]
    repeat' walk_at "w"
    · next hl => exact absurd rfl hl
    · refine i_are_two_named h1 h2 h3 ?_
      repeat' walk_at "w"
      exact i_are_answers 4 (by decide) h4 q
  | tie a b w =>
    have hx : ∃ x : Str, w.s = x ∧ inV (.str x) ([("know" : Str), "part", "turn"].map V.str) = true := by
      cases w <;> exact ⟨_, rfl, by decide +kernel⟩
    obtain ⟨x, ex, hx⟩ := hx
    simp only [encD] at hn ⊢
    rw [ex] at hn ⊢
    obtain ⟨h1, h2, h3⟩ := hd
    obtain ⟨o, its, m, k1, k2, k3, k4, k5⟩ := hW
    repeat' walk_at "w"
    refine i_is_tuple_of (okN_nds hn) ?_
    rw [show decide ((3 : Int) ≤ ([PyData.str "tie", .int a, .int b, .str x].length : Nat) ∧ (([PyData.str "tie", .int a, .int b, .str x].length : Nat) : Int) ≤ 4) = true from rfl]
    repeat' walk_at "w"
    · next hl => exact absurd rfl hl
    · refine i_are_two_named h1 h2 h3 ?_
      repeat' walk_at "w"
      refine we_inW k1 k2 k3 k4 k5 ?_
      repeat' walk_at "w"
      refine ⟨x, rfl, ?_⟩
      rw [hx]
      exact q
theorem i_fits_deed {n : Nat} {d : Deed} (hd : DOk n d) (h : Φ (.bool true)) : W_fits_deed [.d (.int n), .d (encD d)] Φ := ⟨n, d, rfl, hd, h⟩
def W_fits_choice : List Sl → PK → Prop := fun ss Φ => ∃ (n : Nat) (i : Item), ss = [.d (.int n), .d (encI i)] ∧ IOk n i ∧ Φ (.bool (isAsk i))
theorem i_fits_choice {n : Nat} {i : Item} (hd : IOk n i) (h : Φ (.bool (isAsk i))) : W_fits_choice [.d (.int n), .d (encI i)] Φ := ⟨n, i, rfl, hd, h⟩
theorem nds_deeds (s : List Deed) : nodicts (s.map encD) = true := okN_nds (okN_deeds (m := 0) s)
theorem w_fits_choice (h : W_fits_choice ss Φ) : WS C c (t_fits_choice C W_is_tuple_of W_are_two_named) (startG n_fits_choice ss) (retP Φ) := by
  obtain ⟨n, i, rfl, hi, q⟩ := h
  unfold t_fits_choice
  have hn : OkN 4 (encI i) := okN_item i
  cases i with
  | deed d =>
    cases d with
    | pairs a an =>
      simp only [encI, encD] at hn ⊢
      repeat' walk_at "w"
      refine i_is_tuple_of (okN_nds hn) ?_
      rw [show decide ((5 : Int) ≤ ([PyData.str "pairs", .int a, .tuple (an.map PyData.int)].length : Nat) ∧ (([PyData.str "pairs", .int a, .tuple (an.map PyData.int)].length : Nat) : Int) ≤ 5) = false from rfl]
      repeat' walk_at "w"
      exact q
    | takes a b an =>
      simp only [encI, encD] at hn ⊢
      repeat' walk_at "w"
      refine i_is_tuple_of (okN_nds hn) ?_
      rw [show decide ((5 : Int) ≤ ([PyData.str "takes", .int a, .int b, .tuple (an.map PyData.int)].length : Nat) ∧ (([PyData.str "takes", .int a, .int b, .tuple (an.map PyData.int)].length : Nat) : Int) ≤ 5) = false from rfl]
      repeat' walk_at "w"
      exact q
    | tie a b w =>
      simp only [encI, encD] at hn ⊢
      repeat' walk_at "w"
      refine i_is_tuple_of (okN_nds hn) ?_
      rw [show decide ((5 : Int) ≤ ([PyData.str "tie", .int a, .int b, .str w.s].length : Nat) ∧ (([PyData.str "tie", .int a, .int b, .str w.s].length : Nat) : Int) ≤ 5) = false from rfl]
      repeat' walk_at "w"
      exact q
  | ask a b y m =>
    simp only [encI] at hn ⊢
    obtain ⟨h1, h2, h3, h4, h5⟩ := hi
    have n1 := nds_deeds y
    have n2 := nds_deeds m
    repeat' walk_at "w"
    refine i_is_tuple_of (okN_nds hn) ?_
    rw [show decide ((5 : Int) ≤ ([PyData.str "ask", .int a, .int b, .tuple (y.map encD), .tuple (m.map encD)].length : Nat) ∧ (([PyData.str "ask", .int a, .int b, .tuple (y.map encD), .tuple (m.map encD)].length : Nat) : Int) ≤ 5) = true from rfl]
    repeat' walk_at "w"
    refine i_are_two_named h1 h2 h3 ?_
    repeat' walk_at "w"
    exact q
end
end DW3

section DW4
open PySem PySem.Spec PyProof.Rows L2
section
variable {C : Ct} {c : Option Addr} {ss : List Sl} {Φ : PK}
abbrev encL (x : Scr × Int) : PyData := .tuple [.tuple (x.1.map encI), .int x.2]
abbrev encF (x : Item × Int) : PyData := .tuple [encI x.1, .int x.2]
def subs (d : Int) : Item → List (Scr × Int)
  | .deed _ => []
  | .ask _ _ y n => [(y.map .deed, d), (n.map .deed, d)]
def askN (t : Scr) : Nat := (t.filter isAsk).length
def measL (L : List (Scr × Int)) : Nat := (L.map fun x => 1 + 2 * askN x.1).sum
def cntL (L : List (Scr × Int)) : Nat := (L.map fun x => cntS x.1).sum
theorem measL_app (L M : List (Scr × Int)) : measL (L ++ M) = measL L + measL M := by
  unfold measL
  rw [List.map_append, List.sum_append]
theorem cntL_app (L M : List (Scr × Int)) : cntL (L ++ M) = cntL L + cntL M := by
  unfold cntL
  rw [List.map_append, List.sum_append]
theorem measL_cons (x : Scr × Int) (M : List (Scr × Int)) : measL (x :: M) = (1 + 2 * askN x.1) + measL M := by
  unfold measL
  rw [List.map_cons, List.sum_cons]
theorem cntL_cons (x : Scr × Int) (M : List (Scr × Int)) : cntL (x :: M) = cntS x.1 + cntL M := by
  unfold cntL
  rw [List.map_cons, List.sum_cons]
theorem len_measL (L : List (Scr × Int)) : L.length ≤ measL L := by
  induction L with
  | nil => exact Nat.zero_le _
  | cons x L ih =>
    rw [measL_cons, List.length_cons]
    omega
theorem askN_deeds (y : List Deed) : askN (y.map .deed) = 0 := by
  unfold askN
  rw [List.length_eq_zero_iff, List.filter_eq_nil_iff]
  intro i hi
  obtain ⟨d, _, rfl⟩ := List.mem_map.mp hi
  exact Bool.false_ne_true
theorem askN_cons (i : Item) (t : Scr) : askN (i :: t) = (if isAsk i then 1 else 0) + askN t := by
  unfold askN
  rw [List.filter_cons]
  split
  · rw [List.length_cons]
    omega
  · omega
theorem askN_le (t : Scr) : askN t ≤ t.length := List.length_filter_le _ _
theorem subs_meas (d : Int) (t : Scr) : measL (t.flatMap (subs d)) = 2 * askN t := by
  induction t with
  | nil => rfl
  | cons i t ih =>
    rw [List.flatMap_cons, measL_app, ih, askN_cons]
    cases i with
    | deed d => simp [subs, measL, isAsk]
    | ask a b y n => simp [subs, measL, isAsk, askN_deeds]; omega
theorem subs_cnt (d : Int) (t : Scr) : cntL (t.flatMap (subs d)) + t.length = cntS t := by
  induction t with
  | nil => rfl
  | cons i t ih =>
    rw [List.flatMap_cons, cntL_app, cntS_cons, List.length_cons, ← ih]
    cases i with
    | deed d => simp [subs, cntL, cntI]; omega
    | ask a b y n => simp [subs, cntL, cntI, cntS_deeds]; omega
theorem okD_encLs (L : List (Scr × Int)) : okD (.list (L.map encL)) = true := (OkN.lst (m := 6) fun d hd => by
  obtain ⟨x, _, rfl⟩ := List.mem_map.mp hd
  exact OkN.tup (OkN.cons2 (okN_scr (m := 0) x.1) (OkN.cons2 (OkN.int _) OkN.nil2))).ok (by decide)
/-- what may stand in the line -/
def LOk (n : Nat) (x : Scr × Int) : Prop := (∀ i ∈ x.1, IOk n i) ∧ (x.2 = 0 ∨ (x.2 = 1 ∧ askN x.1 = 0))
def W_items_in : List Sl → PK → Prop := fun ss Φ => ∃ (n : Nat) (s : Scr), ss = [.d (.int n), .d (encS s)] ∧ SOk n s ∧ ∀ F : List (Item × Int), (∀ x ∈ F, x.2 ≤ 1) → F.length ≤ 30 → Φ (.list (F.map encF))
theorem w_items_in (h : W_items_in ss Φ) : WS C c (t_items_in C W_fits_choice W_fits_deed) (startG n_items_in ss) (retP Φ) := by
  obtain ⟨n, s, rfl, hs, q⟩ := h
  unfold t_items_in
  repeat' walk_at "w"
  refine ws_while (fun m Γ => ∃ (L : List (Scr × Int)) (F : List (Item × Int)) (x4 x5 x6 : Sl), Γ = [.d (.int n), .d (encS s), .d (.list (F.map encF)), .d (.list (L.map encL)), x4, x5, x6] ∧ m = measL L ∧ m ≤ 61 ∧ (∀ x ∈ L, LOk n x) ∧ (∀ x ∈ F, x.2 ≤ 1) ∧ F.length + cntL L ≤ 30) (measL [(s, 0)]) ⟨[(s, 0)], [], .un, .un, .un, rfl, rfl, ?_, ?_, ?_, ?_⟩ ?_
  · have := askN_le s
    have := len_cntS s
    have := hs.cn
    rw [measL_cons]
    show 1 + 2 * askN s + 0 ≤ 61
    omega
  · intro x hx
    rw [List.mem_singleton] at hx
    subst hx
    exact ⟨hs.it, .inl rfl⟩
  · intro x hx
    exact nomatch hx
  · rw [cntL_cons]
    have := hs.cn
    show 0 + (cntS s + 0) ≤ 30
    omega
  rintro m Γ' ⟨L, F, x4, x5, x6, rfl, rfl, hm, hL, hF, hc⟩
  repeat' walk_at "w"
  refine iT_neNil (okD_encLs L) ?_
  repeat' walk_at "w"
  · next hne =>
    cases L with
    | nil => exact absurd rfl hne
    | cons y L =>
      obtain ⟨t, d⟩ := y
      simp only [List.map_cons]
      refine ws_asgG [3, 4, 5] ?_
      repeat' walk_at "w"
      refine we_lcMapT encI (fun i => encF (i, d)) ?_
      repeat' walk_at "w"
      rw [measL_cons] at hm
      rw [cntL_cons] at hc
      have hm : 1 + 2 * askN t + measL L ≤ 61 := hm
      have hc : F.length + (cntS t + cntL L) ≤ 30 := hc
      have hlt := len_cntS t
      have hLl := len_measL L
      obtain ⟨ht, hd⟩ := hL (t, d) List.mem_cons_self
      have hd1 : d ≤ 1 := by
        rcases hd with hd | ⟨hd, _⟩ <;> (simp only at hd; omega)
      have hL2 : ∀ x ∈ L, LOk n x := fun x hx => hL x (List.mem_cons_of_mem _ hx)
      refine ⟨t, rfl, by omega, fun i hi => ?_, ?_⟩
      · repeat' walk_at "w"
        rfl
      refine addT_lst (by simp only [List.length_map]; omega) ?_
      have eF : F.map encF ++ t.map (fun i => encF (i, d)) = (F ++ t.map fun i => (i, d)).map encF := by
        rw [List.map_append, List.map_map]
        rfl
      rw [eF]
      have hF2 : ∀ x ∈ F ++ t.map (fun i => (i, d)), x.2 ≤ 1 := fun x hx => by
        rcases List.mem_append.mp hx with hx | hx
        · exact hF x hx
        · obtain ⟨i, _, rfl⟩ := List.mem_map.mp hx
          exact hd1
      have hFl : (F ++ t.map fun i => (i, d)).length = F.length + t.length := by
        rw [List.length_append, List.length_map]
      repeat' walk_at "w"
      · next hbig =>
        exfalso
        rw [List.length_map, hFl] at hbig
        omega
      refine ws_forT encI [6] ?_
      repeat' walk_at "w"
      refine ⟨t, rfl, fun i Γ => ∃ y6, Γ = [.d (.int n), .d (encS s), .d (.list ((F ++ t.map fun i => (i, d)).map encF)), .d (.list ((L ++ (t.take i).flatMap (subs (d + 1))).map encL)), .d (encS t), .d (.int d), y6],
        ⟨x6, by simp⟩, fun i it Γ' hi hI => ?_, fun Γ' hI => ?_⟩
      · obtain ⟨y6, rfl⟩ := hI
        have hit := ht it (List.mem_of_getElem? hi)
        repeat' walk_at "w"
        refine i_fits_choice hit ?_
        repeat' walk_at "w"
        cases it with
        | deed dd =>
          refine iBf ?_
          repeat' walk_at "w"
          refine i_fits_deed hit ?_
          repeat' walk_at "w"
          show ∃ y6 : Sl, _ = _
          refine ⟨.d (encI (.deed dd)), ?_⟩
          rw [List.take_add_one, hi, List.flatMap_append]
          simp [subs]
        | ask a b y m =>
          refine iBt ?_
          simp only [encI]
          repeat' walk_at "w"
          refine addT_lst ?_ ?_
          · simp only [List.length_map, List.length_append, List.length_cons, List.length_nil]
            have := len_measL ((t.take i).flatMap (subs (d + 1)))
            rw [subs_meas] at this
            have := askN_le (t.take i)
            have := (List.take_sublist i t).length_le
            omega
          refine lp_nx ?_
          refine ⟨.d (encI (.ask a b y m)), ?_⟩
          rw [List.take_add_one, hi, List.flatMap_append]
          have e : (L ++ ((t.take i).flatMap (subs (d + 1)) ++ (some (Item.ask a b y m)).toList.flatMap (subs (d + 1)))).map encL = (L ++ (t.take i).flatMap (subs (d + 1))).map encL ++ [.tuple [.tuple (y.map encD), .int (d + 1)], .tuple [.tuple (m.map encD), .int (d + 1)]] := by
            rw [← List.append_assoc, List.map_append]
            congr 1
            simp [subs, ← enc_deeds]
            exact ⟨fun _ _ => rfl, fun _ _ => rfl⟩
          rw [e]
          rfl
      · obtain ⟨y6, rfl⟩ := hI
        rw [List.take_length]
        refine lp_nx ⟨measL (L ++ t.flatMap (subs (d + 1))), ?_, L ++ t.flatMap (subs (d + 1)), F ++ t.map fun i => (i, d), _, _, _, rfl, rfl, ?_, ?_, hF2, ?_⟩
        · rw [measL_app, subs_meas, measL_cons]
          simp only
          omega
        · rw [measL_app, subs_meas]
          omega
        · intro x hx
          rcases List.mem_append.mp hx with hx | hx
          · exact hL2 x hx
          · obtain ⟨i, hi, hx⟩ := List.mem_flatMap.mp hx
            have hit := ht i hi
            cases i with
            | deed dd => exact nomatch hx
            | ask a b y m =>
              have h0 : d = 0 := by
                rcases hd with hd | ⟨_, hd⟩
                · exact hd
                · exfalso
                  have : (Item.ask a b y m) ∈ t.filter isAsk := List.mem_filter.mpr ⟨hi, rfl⟩
                  unfold askN at hd
                  simp only at hd
                  rw [List.length_eq_zero_iff] at hd
                  rw [hd] at this
                  exact nomatch this
              subst h0
              obtain ⟨_, _, _, h4, h5⟩ := hit
              simp only [subs, List.mem_cons, List.not_mem_nil, or_false] at hx
              rcases hx with rfl | rfl
              · refine ⟨fun j hj => ?_, .inr ⟨rfl, askN_deeds _⟩⟩
                obtain ⟨e, he, rfl⟩ := List.mem_map.mp hj
                exact h4 e he
              · refine ⟨fun j hj => ?_, .inr ⟨rfl, askN_deeds _⟩⟩
                obtain ⟨e, he, rfl⟩ := List.mem_map.mp hj
                exact h5 e he
        · rw [hFl, cntL_app]
          have := subs_cnt (d + 1) t
          omega
  · next hne => exact q F hF (by omega)
theorem i_items_in {n : Nat} {s : Scr} (hs : SOk n s) (h : ∀ F : List (Item × Int), (∀ x ∈ F, x.2 ≤ 1) → F.length ≤ 30 → Φ (.list (F.map encF))) : W_items_in [.d (.int n), .d (encS s)] Φ := ⟨n, s, rfl, hs, h⟩
def W_fits_script : List Sl → PK → Prop := fun ss Φ => ∃ (n : Nat) (s : Scr), ss = [.d (.int n), .d (encS s)] ∧ SOk n s ∧ Φ (.bool true)
theorem i_fits_script {n : Nat} {s : Scr} (hs : SOk n s) (h : Φ (.bool true)) : W_fits_script [.d (.int n), .d (encS s)] Φ := ⟨n, s, rfl, hs, h⟩
theorem w_fits_script (h : W_fits_script ss Φ) : WS C c (t_fits_script C W_items_in) (startG n_fits_script ss) (retP Φ) := by
  obtain ⟨n, s, rfl, hs, q⟩ := h
  unfold t_fits_script
  have hn := nds_items s
  repeat' walk_at "w"
  refine i_items_in hs fun F hF hl => ?_
  repeat' walk_at "w"
  rw [show isNoneD (.list (F.map encF)) = false from rfl]
  repeat' walk_at "w"
  refine we_lcFilT encF (fun x => isAsk x.1) (fun x => .bool true) ?_
  repeat' walk_at "w"
  refine ⟨F, rfl, by omega, fun x hx => ?_, ?_⟩
  · obtain ⟨i, d⟩ := x
    repeat' walk_at "w"
    refine ⟨rfl, fun _ => ?_⟩
    repeat' walk_at "w"
    have := hF _ hx
    simp only at this
    rw [decide_eq_true (by omega : d < 4)]
  · repeat' walk_at "w"
    refine iT_allM (f := fun _ => true) ?_
    rw [List.all_eq_true.mpr fun _ _ => rfl]
    exact q
def W_need_scripts : List Sl → PK → Prop := fun ss Φ => ∃ (n : Nat) (sc : List Scr), ss = [.d (.int n), .d (.tuple (sc.map encS))] ∧ (2 ≤ sc.length ∧ sc.length ≤ 3) ∧ (∀ s ∈ sc, SOk n s) ∧ Φ .none
theorem i_need_scripts {n : Nat} {sc : List Scr} (hl : 2 ≤ sc.length ∧ sc.length ≤ 3) (hs : ∀ s ∈ sc, SOk n s) (h : Φ .none) : W_need_scripts [.d (.int n), .d (.tuple (sc.map encS))] Φ := ⟨n, sc, rfl, hl, hs, h⟩
theorem okN_scrs {m : Nat} (sc : List Scr) : OkN (m + 6) (.tuple (sc.map encS)) := OkN.tup fun d hd => by
  obtain ⟨p, _, rfl⟩ := List.mem_map.mp hd
  exact okN_scr p
theorem w_need_scripts (h : W_need_scripts ss Φ) : WS C c (t_need_scripts C W_fits_script W_is_tuple_of) (startG n_need_scripts ss) (retP Φ) := by
  obtain ⟨n, sc, rfl, hl, hs, q⟩ := h
  unfold t_need_scripts
  refine ws_ifno ?_
  repeat' walk_at "w"
  refine i_is_tuple_of (okN_nds (okN_scrs (m := 0) sc)) ?_
  rw [decide_eq_true (by rw [List.length_map]; omega : (2 : Int) ≤ ((sc.map encS).length : Nat) ∧ (((sc.map encS).length : Nat) : Int) ≤ 3)]
  repeat' walk_at "w"
  refine we_lcMapT encS (fun s => .bool true) ?_
  repeat' walk_at "w"
  refine ⟨sc, rfl, by omega, fun s hsm => ?_, ?_⟩
  · repeat' walk_at "w"
    exact i_fits_script (hs s hsm) rfl
  · repeat' walk_at "w"
    refine iT_allM (f := fun _ => true) ?_
    rw [List.all_eq_true.mpr fun _ _ => rfl]
    repeat' walk_at "w"
    refine ⟨rfl, ?_⟩
    repeat' walk_at "w"
    exact q
end
end DW4

section DW5
open PySem PySem.Spec PyProof.Rows L2
section
variable {C : Ct} {c : Option Addr} {ss : List Sl} {Φ : PK}
theorem DOk.mono {n m : Nat} (l : n ≤ m) {d : Deed} (h : DOk n d) : DOk m d := by
  cases d with
  | pairs a an => exact ⟨⟨h.1.1, by have := h.1.2; omega⟩, h.2⟩
  | takes a b an => exact ⟨⟨h.1.1, by have := h.1.2; omega⟩, ⟨h.2.1.1, by have := h.2.1.2; omega⟩, h.2.2⟩
  | tie a b w => exact ⟨⟨h.1.1, by have := h.1.2; omega⟩, ⟨h.2.1.1, by have := h.2.1.2; omega⟩, h.2.2⟩
theorem IOk.mono {n m : Nat} (l : n ≤ m) {i : Item} (h : IOk n i) : IOk m i := by
  cases i with
  | deed d => exact DOk.mono (d := d) l h
  | ask a b y z => exact ⟨⟨h.1.1, by have := h.1.2; omega⟩, ⟨h.2.1.1, by have := h.2.1.2; omega⟩, h.2.2.1, fun d hd => (h.2.2.2.1 d hd).mono l, fun d hd => (h.2.2.2.2 d hd).mono l⟩
/-- a script that may run over so many -/
def ROk (n : Nat) (s : Scr) : Prop := (∀ i ∈ s, IOk n i) ∧ cntS s ≤ 100
theorem SOk.rok {n m : Nat} (l : n ≤ m) {s : Scr} (h : SOk n s) : ROk m s := ⟨fun i hi => (h.it i hi).mono l, Nat.le_trans h.cn (by decide)⟩
def W_twos_of : List Sl → PK → Prop := fun ss Φ => ∃ ds : List PyData, ss = [.d (.tuple ds)] ∧ ds.length ≤ 10 ∧ Φ (.list ((prs ds.length).map encP))
theorem i_twos_of {ds : List PyData} (h1 : ds.length ≤ 10) (h : Φ (.list ((prs ds.length).map encP))) : W_twos_of [.d (.tuple ds)] Φ := ⟨ds, rfl, h1, h⟩
theorem w_twos_of (h : W_twos_of ss Φ) : WS C c (t_twos_of C W_pairs_of) (startG n_twos_of ss) (retP Φ) := by
  obtain ⟨ds, rfl, hl, q⟩ := h
  unfold t_twos_of
  repeat' walk_at "w"
  exact i_pairs_of hl q
theorem endsAt {co : Co} {scs : List Scr} {i : Int} (h1 : 0 ≤ i) (h2 : i < scs.length) : atI (scs.map fun s => encC (doneS co s)) i = some (encC (endOf co scs i)) := by
  have hk : i.toNat < scs.length := by omega
  refine atI_natk (k := i.toNat) (by omega) ?_
  rw [List.getElem?_map, List.getElem?_eq_getElem hk, Option.map_some]
  unfold endOf
  rw [List.getD_eq_getElem?_getD, List.getElem?_eq_getElem hk]
  rfl
def W_parted_in : List Sl → PK → Prop := fun ss Φ => ∃ (co : Co) (scs : List Scr), ss = [.d (encC co), .d (.tuple (scs.map encS))] ∧ co.1 ≤ 10 ∧ scs.length ≤ 3 ∧ (∀ s ∈ scs, ROk co.1 s) ∧ Φ (.list ((ptd co scs).map encP))
theorem i_parted_in {co : Co} {scs : List Scr} (h1 : co.1 ≤ 10) (h2 : scs.length ≤ 3) (h3 : ∀ s ∈ scs, ROk co.1 s) (h : Φ (.list ((ptd co scs).map encP))) : W_parted_in [.d (encC co), .d (.tuple (scs.map encS))] Φ := ⟨co, scs, rfl, h1, h2, h3, h⟩
theorem w_parted_in (h : W_parted_in ss Φ) : WS C c (t_parted_in C W_run_by W_twos_of) (startG n_parted_in ss) (retP Φ) := by
  obtain ⟨co, scs, rfl, h1, h2, h3, q⟩ := h
  unfold t_parted_in
  repeat' walk_at "w"
  refine we_lcMapT encS (fun s => encC (doneS co s)) ?_
  repeat' walk_at "w"
  refine ⟨scs, rfl, by omega, fun s hs => ?_, ?_⟩
  · repeat' walk_at "w"
    refine i_run_by h1 (h3 s hs).1 (h3 s hs).2 fun fs => ?_
    repeat' walk_at "w"
    rfl
  · repeat' walk_at "w"
    refine we_lcFilT encP (fun p => !decide (endOf co scs p.1 = endOf co scs p.2)) encP ?_
    repeat' walk_at "w"
    refine i_twos_of (by rw [List.length_map]; omega) ?_
    repeat' walk_at "w"
    rw [List.length_map]
    refine ⟨_, rfl, Nat.le_trans (prs_len (by omega)) (by decide), fun p hp => ?_, ?_⟩
    · obtain ⟨p1, p2, p3⟩ := mem_prs.mp hp
      repeat' walk_at "w"
      refine iT_ixL (endsAt p1 (by omega)) ?_
      repeat' walk_at "w"
      refine iT_ixL (endsAt (by omega) p3) ?_
      repeat' walk_at "w"
      refine ⟨rfl, fun _ => ?_⟩
      repeat' walk_at "w"
      rfl
    · repeat' walk_at "w"
      exact q
/-! lots -/
theorem lots_snoc {α : Type} (xs : List α) (x : α) : lots (xs ++ [x]) = lots xs ++ (lots xs).map fun l => l ++ [x] := by
  unfold lots
  rw [List.foldl_append]
  rfl
theorem snoc_ind {α : Type} {P : List α → Prop} (h0 : P []) (h1 : ∀ xs x, P xs → P (xs ++ [x])) (xs : List α) : P xs := by
  have h : ∀ ys : List α, P ys.reverse := fun ys => by
    induction ys with
    | nil => exact h0
    | cons y ys ih =>
      rw [List.reverse_cons]
      exact h1 _ _ ih
  have := h xs.reverse
  rw [List.reverse_reverse] at this
  exact this
theorem lots_len {α : Type} (xs : List α) : (lots xs).length = 2 ^ xs.length := by
  refine snoc_ind (P := fun xs => (lots xs).length = 2 ^ xs.length) rfl (fun xs x ih => ?_) xs
  rw [lots_snoc, List.length_append, List.length_map, ih, List.length_append, List.length_cons, List.length_nil, Nat.pow_succ]
  omega
theorem lots_sub {α : Type} {xs l : List α} : l ∈ lots xs → l.Sublist xs := by
  refine snoc_ind (P := fun xs => ∀ l, l ∈ lots xs → l.Sublist xs) (fun l h => ?_) (fun xs x ih l h => ?_) xs l
  · have : l = [] := by simpa [lots] using h
    rw [this]
    exact List.Sublist.refl _
  · rw [lots_snoc, List.mem_append, List.mem_map] at h
    rcases h with h | ⟨m, hm, rfl⟩
    · exact (ih _ h).trans (List.sublist_append_left _ _)
    · exact List.Sublist.append (ih _ hm) (List.Sublist.refl _)
theorem lots_head {α : Type} (xs : List α) : ∃ r, lots xs = [] :: r := by
  refine snoc_ind (P := fun xs => ∃ r, lots xs = [] :: r) ⟨[], rfl⟩ (fun xs x ih => ?_) xs
  obtain ⟨r, e⟩ := ih
  rw [lots_snoc, e]
  exact ⟨_, rfl⟩
theorem lots_len6 {α : Type} {xs : List α} (h : xs.length ≤ 6) : (lots xs).length ≤ 64 := by
  rw [lots_len]
  exact Nat.pow_le_pow_right (by decide) h
def W_lots_within : List Sl → PK → Prop := fun ss Φ => ∃ ps : List (Int × Int), ss = [.d (.list (ps.map encP))] ∧ ps.length ≤ 6 ∧ Φ (.list ((lots ps).map encT))
theorem i_lots_within {ps : List (Int × Int)} (h1 : ps.length ≤ 6) (h : Φ (.list ((lots ps).map encT))) : W_lots_within [.d (.list (ps.map encP))] Φ := ⟨ps, rfl, h1, h⟩
theorem w_lots_within (h : W_lots_within ss Φ) : WS C c (t_lots_within C) (startG n_lots_within ss) (retP Φ) := by
  obtain ⟨ps, rfl, hl, q⟩ := h
  unfold t_lots_within
  repeat' walk_at "w"
  refine ws_forT encP [2] ?_
  repeat' walk_at "w"
  refine ⟨ps, rfl, fun i Γ => ∃ x2, Γ = [.d (.list (ps.map encP)), .d (.list ((lots (ps.take i)).map encT)), x2, .un], ⟨_, rfl⟩, fun i x Γ' hi hI => ?_, fun Γ' hI => ?_⟩
  · obtain ⟨x2, rfl⟩ := hI
    have hl2 : (ps.take i).length ≤ 6 := Nat.le_trans (List.take_sublist i ps).length_le hl
    repeat' walk_at "w"
    refine we_lcMapT encT (fun l => encT (l ++ [x])) ?_
    repeat' walk_at "w"
    refine ⟨lots (ps.take i), rfl, Nat.le_trans (lots_len6 hl2) (by decide), fun l hl3 => ?_, ?_⟩
    · repeat' walk_at "w"
      have := (lots_sub hl3).length_le
      refine addT_tup (by simp only [List.length_map, List.length_cons, List.length_nil]; omega) ?_
      rw [encT, List.map_append]
      rfl
    · have := lots_len6 hl2
      refine addT_lst (by simp only [List.length_map]; omega) ?_
      repeat' walk_at "w"
      refine ⟨.d (encP x), ?_⟩
      rw [List.take_add_one, hi, Option.toList_some, lots_snoc, List.map_append, List.map_map]
      rfl
  · obtain ⟨x2, rfl⟩ := hI
    rw [List.take_length]
    repeat' walk_at "w"
    exact q
end
end DW5

section DW6
open PySem PySem.Spec PyProof.Rows L2
section
variable {C : Ct} {c : Option Addr} {ss : List Sl} {Φ : PK}
theorem mem_freshP {n : Nat} {p : Int × Int} : p ∈ freshP n ↔ p ∈ prs (n + 2) ∧ (n : Int) ≤ p.2 := by
  unfold freshP
  rw [mem_those, decide_eq_true_eq]
theorem freshP_len {n : Nat} (h : n ≤ 2) : (freshP n).length ≤ 5 := by
  have : ∀ m, m < 3 → (freshP m).length ≤ 5 := by decide +kernel
  exact this n (by omega)
/-- a start: ties of n -/
structure StOk (n : Nat) (st : List (Int × Int)) : Prop where
  n2 : n ≤ 2
  nd : st.Nodup
  me : ∀ p ∈ st, p ∈ prs n
  le : st.length ≤ 10
theorem StOk.app {n : Nat} {st l : List (Int × Int)} (h : StOk n st) (hl : l ∈ lots (freshP n)) : (st ++ l).Nodup ∧ (∀ p ∈ st ++ l, p ∈ prs (n + 2)) ∧ (st ++ l).length ≤ 20 := by
  have hs := lots_sub hl
  refine ⟨List.nodup_append.mpr ⟨h.nd, hs.nodup ((prs_nodup _).sublist List.filter_sublist), fun a ha b hb e => ?_⟩, fun p hp => ?_, ?_⟩
  · have h1 := mem_prs.mp (h.me a ha)
    have h2 := mem_freshP.mp (hs.subset hb)
    rw [← e] at h2
    omega
  · rcases List.mem_append.mp hp with hp | hp
    · have h1 := mem_prs.mp (h.me p hp)
      exact mem_prs.mpr ⟨h1.1, h1.2.1, by omega⟩
    · exact (mem_freshP.mp (hs.subset hp)).1
  · rw [List.length_append]
    have := hs.length_le
    have := freshP_len h.n2
    have := h.le
    omega
theorem srt_ties (L : List (List (Int × Int))) : ∃ M : List (List (Int × Int)), srt (L.map encT) = M.map encT ∧ M.Perm L := by
  refine ⟨L.mergeSort fun a b => PySem.W.dataLe false (fun d => d) (encT a) (encT b), ?_, List.mergeSort_perm _ _⟩
  unfold srt
  exact (List.map_mergeSort (f := encT) fun a _ b _ => rfl).symm
theorem i_pairs_of' {n : Nat} {m : Int} (e : m = (n : Nat)) (hn : n ≤ 10) (h : Φ (.list ((prs n).map encP))) : W_pairs_of [.d (.int m)] Φ := ⟨n, by rw [e], hn, h⟩
def W_views_at : List Sl → PK → Prop := fun ss Φ => ∃ (n : Nat) (st : List (Int × Int)), ss = [.d (.int n), .d (encC (n, st))] ∧ StOk n st ∧ ∀ vs : List Co, (∀ v, v ∈ vs ↔ ∃ l ∈ lots (freshP n), v = view n (st ++ l)) → vs.length ≤ 64 → Φ (.list (vs.map encC))
theorem i_views_at {n : Nat} {st : List (Int × Int)} (h1 : StOk n st) (h : ∀ vs : List Co, (∀ v, v ∈ vs ↔ ∃ l ∈ lots (freshP n), v = view n (st ++ l)) → vs.length ≤ 64 → Φ (.list (vs.map encC))) : W_views_at [.d (.int n), .d (encC (n, st))] Φ := ⟨n, st, rfl, h1, h⟩
theorem w_views_at (h : W_views_at ss Φ) : WS C c (t_views_at C W_pairs_of W_lots_within) (startG n_views_at ss) (retP Φ) := by
  obtain ⟨n, st, rfl, hst, q⟩ := h
  unfold t_views_at
  have hn2 := hst.n2
  repeat' walk_at "w"
  refine we_lcFilT encP (fun p => decide ((n : Int) ≤ p.2)) encP ?_
  repeat' walk_at "w"
  refine i_pairs_of' (n := n + 2) rfl (by omega) ?_
  repeat' walk_at "w"
  refine ⟨_, rfl, Nat.le_trans (prs_len (by omega)) (by decide), fun p hp => ?_, ?_⟩
  · repeat' walk_at "w"
    refine ⟨rfl, fun _ => ?_⟩
    repeat' walk_at "w"
    rfl
  repeat' walk_at "w"
  refine we_lcMapT encT (fun t => encC (n + 2, t)) ?_
  repeat' walk_at "w"
  refine we_lcMapT encT (fun l => encT (view n (st ++ l)).2) ?_
  repeat' walk_at "w"
  refine i_lots_within (ps := freshP n) (Nat.le_trans (freshP_len hn2) (by decide)) ?_
  repeat' walk_at "w"
  have hll := lots_len6 (xs := freshP n) (Nat.le_trans (freshP_len hn2) (by decide))
  refine ⟨_, rfl, Nat.le_trans hll (by decide), fun l hl => ?_, ?_⟩
  · obtain ⟨a1, a2, a3⟩ := hst.app hl
    repeat' walk_at "w"
    refine addT_tup (show (st.map encP).length + (l.map encP).length ≤ 10000 by rw [List.length_map, List.length_map]; rw [List.length_append] at a3; omega) ?_
    rw [← List.map_append]
    repeat' walk_at "w"
    refine ⟨srtOk_pairs (Nat.le_trans a3 (by decide)), ?_⟩
    repeat' walk_at "w"
    rw [srt_those a1 a2]
    rfl
  · repeat' walk_at "w"
    have eM : (lots (freshP n)).map (fun l => encT (view n (st ++ l)).2) = ((lots (freshP n)).map fun l => (view n (st ++ l)).2).map encT := by
      rw [List.map_map]
      rfl
    rw [eM]
    refine ⟨srtOk_ties (by rw [List.length_map]; exact Nat.le_trans hll (by decide)) ?_, ?_⟩
    · cases st with
      | nil =>
        left
        obtain ⟨r, e⟩ := lots_head (freshP n)
        rw [e, List.map_cons]
        have e0 : (view n ([] ++ [])).2 = [] := by
          show those _ _ = []
          exact List.filter_eq_nil_iff.mpr fun p _ => by simp
        rw [e0]
        exact ⟨_, rfl⟩
      | cons p st =>
        right
        intro t ht e
        obtain ⟨l, hl, rfl⟩ := List.mem_map.mp ht
        have hp : p ∈ (view n (p :: st ++ l)).2 := mem_those.mpr ⟨(hst.app hl).2.1 p List.mem_cons_self, decide_eq_true List.mem_cons_self⟩
        rw [e] at hp
        exact nomatch hp
    · obtain ⟨M, e1, e2⟩ := srt_ties ((lots (freshP n)).map fun l => (view n (st ++ l)).2)
      rw [e1]
      repeat' walk_at "w"
      have lM : M.length ≤ 64 := by
        rw [e2.length_eq, List.length_map]
        exact hll
      refine ⟨M, rfl, by omega, fun t ht => ?_, ?_⟩
      · repeat' walk_at "w"
        rfl
      · repeat' walk_at "w"
        have := q (M.map fun t => (n + 2, t)) (fun v => ?_) (by rw [List.length_map]; exact lM)
        · rw [List.map_map] at this
          exact this
        · rw [List.mem_map]
          constructor
          · rintro ⟨t, ht, rfl⟩
            obtain ⟨l, hl, rfl⟩ := List.mem_map.mp (e2.mem_iff.mp ht)
            exact ⟨l, hl, rfl⟩
          · rintro ⟨l, hl, rfl⟩
            exact ⟨(view n (st ++ l)).2, e2.mem_iff.mpr (List.mem_map.mpr ⟨l, hl, rfl⟩), rfl⟩
end
end DW6

section DW7
open PySem PySem.Spec PyProof.Rows L2
open PySem.W (AllAlike AllAlike.of dataLe dataLt alike alikeAll Sortable Sortable.tuples)
section
variable {C : Ct} {c : Option Addr} {ss : List Sl} {Φ : PK}
theorem ptd_prs {co : Co} {scs : List Scr} {p : Int × Int} (h : p ∈ ptd co scs) : p ∈ prs scs.length := (mem_those.mp h).1
theorem mem_ptAt {n : Nat} {st : List (Int × Int)} {scs : List Scr} {p : Int × Int} : p ∈ ptAt n st scs ↔ ∃ l ∈ lots (freshP n), p ∈ ptd (view n (st ++ l)) scs := by
  unfold ptAt
  rw [mem_those, List.any_eq_true]
  constructor
  · rintro ⟨_, l, hl, h⟩
    exact ⟨l, hl, of_decide_eq_true h⟩
  · rintro ⟨l, hl, h⟩
    exact ⟨ptd_prs h, l, hl, decide_eq_true h⟩
theorem prs3 {m : Nat} (hm : m ≤ 3) {p : Int × Int} (h : p ∈ prs m) : p ∈ prs 3 := by
  have := mem_prs.mp h
  exact mem_prs.mpr ⟨this.1, this.2.1, by omega⟩
theorem prs_le3 {m : Nat} (hm : m ≤ 3) {xs : List (Int × Int)} (hn : xs.Nodup) (hx : ∀ p ∈ xs, p ∈ prs m) : xs.length ≤ 3 :=
  List.Nodup.length_le_of_subset (l₂ := prs 3) hn fun p hp => prs3 hm (hx p hp)
/-- scripts as they come -/
structure ScsOk (n : Nat) (scs : List Scr) : Prop where
  l2 : 2 ≤ scs.length
  l3 : scs.length ≤ 3
  ok : ∀ s ∈ scs, SOk n s
def W_parting_views : List Sl → PK → Prop := fun ss Φ => ∃ (n : Nat) (st : List (Int × Int)) (scs : List Scr), ss = [.d (.int n), .d (encC (n, st)), .d (.tuple (scs.map encS))] ∧ StOk n st ∧ ScsOk n scs ∧
  ∀ kvs : List ((Int × Int) × PyData), (kvs.map (·.1)).Nodup → (∀ p, p ∈ kvs.map (·.1) ↔ p ∈ ptAt n st scs) → Φ (.dict (kvs.map fun p => (encP p.1, p.2)))
theorem i_parting_views {n : Nat} {st : List (Int × Int)} {scs : List Scr} (h1 : StOk n st) (h2 : ScsOk n scs) (h : ∀ kvs : List ((Int × Int) × PyData), (kvs.map (·.1)).Nodup → (∀ p, p ∈ kvs.map (·.1) ↔ p ∈ ptAt n st scs) → Φ (.dict (kvs.map fun p => (encP p.1, p.2)))) :
    W_parting_views [.d (.int n), .d (encC (n, st)), .d (.tuple (scs.map encS))] Φ := ⟨n, st, scs, rfl, h1, h2, h⟩
theorem view_n (n : Nat) (ts : List (Int × Int)) : (view n ts).1 = n + 2 := rfl
theorem w_parting_views (h : W_parting_views ss Φ) : WS C c (t_parting_views C W_views_at W_parted_in) (startG n_parting_views ss) (retP Φ) := by
  obtain ⟨n, st, scs, rfl, hst, hsc, q⟩ := h
  unfold t_parting_views
  have hn2 := hst.n2
  have hl3 := hsc.l3
  refine ws_seq (ws_asg (we_newD ?_))
  repeat' walk_at "w"
  refine ws_forT encC [4] ?_
  repeat' walk_at "w"
  refine i_views_at hst fun vs hvs hvl => ?_
  repeat' walk_at "w"
  refine ⟨vs, rfl, fun i Γ => ∃ (kvs : List ((Int × Int) × PyData)) (x4 x5 : Sl), Γ = [.d (.int n), .d (encC (n, st)), .d (.tuple (scs.map encS)), .d (.dict (kvs.map fun p => (encP p.1, p.2))), x4, x5, .un] ∧ (kvs.map (·.1)).Nodup ∧ ∀ p, p ∈ kvs.map (·.1) ↔ ∃ v ∈ vs.take i, p ∈ ptd v scs, ⟨[], _, _, rfl, List.nodup_nil, fun p => ?_⟩, fun i v Γ' hi hI => ?_, fun Γ' hI => ?_⟩
  · simp
  · obtain ⟨kvs, x4, x5, rfl, hnd, hmem⟩ := hI
    have hv := (hvs v).mp (List.mem_of_getElem? hi)
    have hv1 : v.1 = n + 2 := by
      obtain ⟨l, _, e⟩ := hv
      rw [e]
      rfl
    repeat' walk_at "w"
    refine we_lcFilT encP (fun p => !decide (p ∈ kvs.map (·.1))) (fun p => .tuple [encP p, encC v]) ?_
    repeat' walk_at "w"
    refine i_parted_in (by omega) hl3 (fun s hs => (hsc.ok s hs).rok (by omega)) ?_
    repeat' walk_at "w"
    have lenp : (ptd v scs).length ≤ 3 := prs_le3 hl3 ((prs_nodup _).sublist List.filter_sublist) fun p hp => ptd_prs hp
    refine ⟨_, rfl, by omega, fun p hp => ?_, ?_⟩
    · repeat' walk_at "w"
      refine iT_notInK ?_
      repeat' walk_at "w"
      refine ⟨rfl, fun _ => ?_⟩
      repeat' walk_at "w"
      rfl
    · have key : ∀ p ∈ kvs.map (·.1), p ∈ prs scs.length := fun p hp => by
        obtain ⟨u, _, hu⟩ := (hmem p).mp hp
        exact ptd_prs hu
      have eK : ((ptd v scs).filter fun p => !decide (p ∈ kvs.map (·.1))).map (fun p => PyData.tuple [encP p, encC v]) = ((((ptd v scs).filter fun p => !decide (p ∈ kvs.map (·.1)))).map fun p => (p, encC v)).map fun p => .tuple [encP p.1, p.2] := by
        rw [List.map_map]
        rfl
      rw [eK]
      generalize hK : (((ptd v scs).filter fun p => !decide (p ∈ kvs.map (·.1)))).map (fun p => (p, encC v)) = kv2
      have k2 : kv2.map (·.1) = (ptd v scs).filter fun p => !decide (p ∈ kvs.map (·.1)) := by
        rw [← hK, List.map_map]
        exact List.map_id _
      have nd2 : (kv2.map (·.1)).Nodup := by
        rw [k2]
        exact ((prs_nodup _).sublist List.filter_sublist).sublist List.filter_sublist
      have me2 : ∀ p, p ∈ kv2.map (·.1) ↔ p ∈ ptd v scs ∧ p ∉ kvs.map (·.1) := fun p => by
        rw [k2, List.mem_filter]
        simp only [Bool.not_eq_true', decide_eq_false_iff_not]
      have l1 : kvs.length ≤ 3 := by
        have := prs_le3 hl3 hnd key
        rw [List.length_map] at this
        exact this
      have l2 : kv2.length ≤ 3 := by
        have := prs_le3 hl3 nd2 fun p hp => ptd_prs ((me2 p).mp hp).1
        rw [List.length_map] at this
        exact this
      have ndA : ((kvs ++ kv2).map (·.1)).Nodup := by
        rw [List.map_append]
        exact List.nodup_append.mpr ⟨hnd, nd2, fun a ha b hb e => ((me2 b).mp hb).2 (e ▸ ha)⟩
      repeat' walk_at "w"
      refine we_dmerge (we_v ⟨_, rfl, hashes_good hnd fun p hp => prs3 hl3 (key _ (List.mem_map_of_mem hp)), by rw [List.length_map]; omega, ?_⟩ rfl)
      repeat' walk_at "w"
      refine iT_dictK nd2 ⟨_, rfl, hashes_good nd2 fun p hp => prs3 hl3 (ptd_prs ((me2 _).mp (List.mem_map_of_mem hp)).1), ?_, by rw [List.length_map, List.length_map]; omega, ?_⟩
      · rw [← List.map_append]
        exact nk_nodup ndA
      · rw [← List.map_append]
        repeat' walk_at "w"
        refine ⟨kvs ++ kv2, _, _, rfl, ndA, fun p => ?_⟩
        rw [List.map_append, List.mem_append, hmem, me2, List.take_add_one, hi, Option.toList_some]
        simp only [List.mem_append, List.mem_singleton]
        constructor
        · rintro (⟨u, hu, hp⟩ | ⟨hp, _⟩)
          · exact ⟨u, .inl hu, hp⟩
          · exact ⟨v, .inr rfl, hp⟩
        · rintro ⟨u, hu | rfl, hp⟩
          · exact .inl ⟨u, hu, hp⟩
          · by_cases z : p ∈ kvs.map (·.1)
            · exact .inl ((hmem p).mp z)
            · exact .inr ⟨hp, z⟩
  · obtain ⟨kvs, x4, x5, rfl, hnd, hmem⟩ := hI
    rw [List.take_length] at hmem
    repeat' walk_at "w"
    refine q kvs hnd fun p => ?_
    rw [hmem, mem_ptAt]
    constructor
    · rintro ⟨v, hv, hp⟩
      obtain ⟨l, hl, rfl⟩ := (hvs v).mp hv
      exact ⟨l, hl, hp⟩
    · rintro ⟨l, hl, hp⟩
      exact ⟨_, (hvs _).mpr ⟨l, hl, rfl⟩, hp⟩
end
end DW7

section DW8
open PySem PySem.Spec PyProof.Rows L2
open PySem.W (AllAlike AllAlike.of dataLe dataLt alike alikeAll Sortable Sortable.tuples)
section
variable {C : Ct} {c : Option Addr} {ss : List Sl} {Φ : PK}
/-! starts -/
theorem starts1 : starts 1 = [(1, [])] := rfl
theorem starts2 : starts 2 = [(2, []), (2, [(0, 1)])] := rfl
theorem lots_sorted {n : Nat} (h : n = 1 ∨ n = 2) : srt ((lots (prs n)).map encT) = (lots (prs n)).map encT := by
  refine srt_self ?_
  rcases h with rfl | rfl
  · show [encT []].Pairwise _
    exact List.pairwise_singleton _ _
  · show [encT [], encT [(0, 1)]].Pairwise _
    refine List.Pairwise.cons (fun d hd => ?_) (List.pairwise_singleton _ _)
    rw [List.mem_singleton] at hd
    subst hd
    decide +kernel
def W_all_starts : List Sl → PK → Prop := fun ss Φ => ∃ n : Nat, ss = [.d (.int n)] ∧ (n = 1 ∨ n = 2) ∧ Φ (.list ((starts n).map encC))
theorem i_all_starts {n : Nat} (h1 : n = 1 ∨ n = 2) (h : Φ (.list ((starts n).map encC))) : W_all_starts [.d (.int n)] Φ := ⟨n, rfl, h1, h⟩
theorem lots_prs_len {n : Nat} (h : n = 1 ∨ n = 2) : (prs n).length ≤ 1 := by
  rcases h with rfl | rfl <;> decide
theorem w_all_starts (h : W_all_starts ss Φ) : WS C c (t_all_starts C W_lots_within W_pairs_of) (startG n_all_starts ss) (retP Φ) := by
  obtain ⟨n, rfl, hn, q⟩ := h
  unfold t_all_starts
  repeat' walk_at "w"
  refine we_lcMapT encT (fun t => encC (n, t)) ?_
  repeat' walk_at "w"
  refine i_pairs_of (by omega) ?_
  repeat' walk_at "w"
  have h1 := lots_prs_len hn
  have h2 := lots_len6 (xs := prs n) (by omega)
  refine i_lots_within (by omega) ?_
  repeat' walk_at "w"
  refine ⟨srtOk_ties (by omega) (.inl (lots_head _)), ?_⟩
  rw [lots_sorted hn]
  repeat' walk_at "w"
  refine ⟨_, rfl, by omega, fun t ht => ?_, ?_⟩
  · repeat' walk_at "w"
    rfl
  · repeat' walk_at "w"
    unfold starts at q
    rw [List.map_map] at q
    exact q
/-! keys -/
theorem nks_pairs_depth : ∀ ts : List (Int × Int), NestedKey.depthAll (nks (ts.map encP)) ≤ 1
  | [] => Nat.zero_le _
  | t :: ts => by
    rw [List.map_cons, nks, NestedKey.depthAll]
    refine Nat.max_le.mpr ⟨?_, nks_pairs_depth ts⟩
    simp [nk, nks, NestedKey.depth, NestedKey.depthAll]
theorem keyBs_pairs : ∀ ts : List (Int × Int), keyBs (ts.map encP) = true
  | [] => rfl
  | t :: ts => by
    rw [List.map_cons, keyBs, keyBs_pairs ts]
    rfl
theorem keyOk_co (co : Co) : keyOk (encC co) = true := by
  have h := nks_pairs_depth co.2
  unfold keyOk
  have e : (nk (encC co)).depth ≤ 8 := by
    simp only [nk, nks, NestedKey.depth, NestedKey.depthAll]
    omega
  rw [decide_eq_true e]
  simp only [keyB, keyBs, keyBs_pairs]
  rfl
theorem nks_pairs_inj : ∀ {ts us : List (Int × Int)}, nks (ts.map encP) = nks (us.map encP) → ts = us
  | [], [], _ => rfl
  | [], _ :: _, h => nomatch h
  | _ :: _, [], h => nomatch h
  | t :: ts, u :: us, h => by
    rw [List.map_cons, List.map_cons, nks, nks, List.cons.injEq] at h
    rw [nk_pair_inj h.1, nks_pairs_inj h.2]
theorem nk_co_inj {x y : Co} (h : nk (encC x) = nk (encC y)) : x = y := by
  obtain ⟨a, s⟩ := x
  obtain ⟨b, t⟩ := y
  simp only [nk, nks, NestedKey.tup.injEq, List.cons.injEq, NestedKey.num.injEq] at h
  have h1 : a = b := by omega
  rw [h1, nks_pairs_inj h.2.1]
theorem lookK_cos (f : Co → PyData) (p : Co) : ∀ ts : List Co, p ∈ ts → lookK (ts.map fun q => (encC q, f q)) (encC p) = some (f p)
  | [], h => nomatch h
  | q :: ts, h => by
    unfold lookK
    rw [List.map_cons, List.find?_cons]
    by_cases e : q = p
    · rw [e]
      simp
    · rw [decide_eq_false fun z => e (nk_co_inj z)]
      have := lookK_cos f p ts ((List.mem_cons.mp h).resolve_left fun z => e z.symm)
      unfold lookK at this
      exact this
theorem iT_getC {ts : List Co} {f : Co → PyData} {p : Co} (hp : p ∈ ts) (h : Φ (f p)) : getT (.dict (ts.map fun q => (encC q, f q))) (encC p) Φ := ⟨keyOk_co p, f p, lookK_cos f p ts hp, h⟩
theorem pairsD_cos {ts : List Co} {f : Co → PyData} : pairsD (ts.map fun q => .tuple [encC q, f q]) = some (ts.map fun q => (encC q, f q)) := by
  induction ts with
  | nil => rfl
  | cons t ts ih =>
    rw [List.map_cons, pairsD, ih]
    rfl
theorem nodup_nkC {ts : List Co} (h : ts.Nodup) (f : Co → PyData) : ((ts.map fun q => (encC q, f q)).map fun p => nk p.1).Nodup := by
  rw [List.map_map]
  exact List.Pairwise.map _ (fun a b hab e => hab (nk_co_inj e)) h
theorem iT_dictC {ts : List Co} {f : Co → PyData} (hn : ts.Nodup) (h : Φ (.dict (ts.map fun q => (encC q, f q)))) : dictT [.list (ts.map fun q => .tuple [encC q, f q])] Φ :=
  ⟨_, pairsD_cos, fun p hp => by
    obtain ⟨q, _, rfl⟩ := List.mem_map.mp hp
    exact ⟨keyOk_co q, rfl⟩, nodup_nkC hn f, h⟩
/-! parted_of -/
abbrev encL2 (g : List (Int × Int)) : PyData := .list (g.map encP)
theorem listsOf_map : ∀ L : List (List (Int × Int)), listsOf (L.map encL2) = some (L.map fun l => l.map encP)
  | [] => rfl
  | l :: L => by
    rw [List.map_cons, listsOf, listsOf_map L]
    rfl
/-- what some starts part together -/
def allOf (m : Nat) (g : Co → List (Int × Int)) (cs : List Co) : List (Int × Int) := those m fun p => cs.any fun x => decide (p ∈ g x)
theorem mem_allOf {m : Nat} {g : Co → List (Int × Int)} {cs : List Co} (hg : ∀ x ∈ cs, ∀ p ∈ g x, p ∈ prs m) {p : Int × Int} : p ∈ allOf m g cs ↔ ∃ x ∈ cs, p ∈ g x := by
  unfold allOf
  rw [mem_those, List.any_eq_true]
  constructor
  · rintro ⟨_, x, hx, h⟩
    exact ⟨x, hx, of_decide_eq_true h⟩
  · rintro ⟨x, hx, h⟩
    exact ⟨hg x hx p h, x, hx, decide_eq_true h⟩
theorem we_sumset {m : Nat} {te : TE} (h : WE C c te ss fun x => ∃ L : List (List (Int × Int)), x = .list (L.flatten.map encP) ∧ m ≤ 3 ∧ (∀ l ∈ L, ∀ p ∈ l, p ∈ prs m) ∧ L.flatten.length < 64 ∧ Φ (.list ((those m fun p => L.any fun l => decide (p ∈ l)).map encP))) :
    WE C c (tCB (rSortedT C.K C.P C.w) (tCons (tCB (rSetOfT C.K C.P C.w) (tCons te tNil)) tNil)) ss Φ := we_sortset (WE.mono h fun x h1 => by
  obtain ⟨L, rfl, hm, hL, hl, q⟩ := h1
  refine ⟨L.flatten, rfl, fun p hp => ?_, hl, fun qs h1 h2 => ?_⟩
  · obtain ⟨l, hl, hp⟩ := List.mem_flatten.mp hp
    have := mem_prs.mp (hL l hl p hp)
    omega
  · have e : qs = those m fun p => L.any fun l => decide (p ∈ l) := ltP_unique h1 (those_sorted m _) fun p => by
      rw [h2, List.mem_flatten, mem_those, List.any_eq_true]
      constructor
      · rintro ⟨l, hl, hp⟩
        exact ⟨hL l hl p hp, l, hl, decide_eq_true hp⟩
      · rintro ⟨_, l, hl, hp⟩
        exact ⟨l, hl, of_decide_eq_true hp⟩
    rw [e]
    exact q)
theorem flat_len {L : List (List (Int × Int))} (h : ∀ l ∈ L, l.length ≤ 3) : L.flatten.length ≤ 3 * L.length := by
  induction L with
  | nil => exact Nat.zero_le _
  | cons l L ih =>
    rw [List.flatten_cons, List.length_append, List.length_cons]
    have := h l List.mem_cons_self
    have := ih fun l hl => h l (List.mem_cons_of_mem _ hl)
    omega
/-- a dict of starts, of what each parts -/
structure PdOk (m : Nat) (cs : List Co) (g : Co → List (Int × Int)) : Prop where
  m3 : m ≤ 3
  len : cs.length ≤ 4
  me : ∀ x ∈ cs, ∀ p ∈ g x, p ∈ prs m
  gl : ∀ x ∈ cs, (g x).length ≤ 3
abbrev encPd (cs : List Co) (g : Co → List (Int × Int)) : PyData := .dict (cs.map fun x => (encC x, encL2 (g x)))
def W_parted_of__L : List Sl → PK → Prop := fun ss Φ => ∃ (m : Nat) (cs : List Co) (g : Co → List (Int × Int)) (xs : List Co), ss = [.d (encPd cs g), .d (.list (xs.map encC))] ∧ PdOk m cs g ∧ xs.length ≤ 4 ∧ (∀ x ∈ xs, x ∈ cs) ∧ Φ (.list ((allOf m g xs).map encP))
def W_parted_of__T : List Sl → PK → Prop := fun ss Φ => ∃ (m : Nat) (cs : List Co) (g : Co → List (Int × Int)) (xs : List Co), ss = [.d (encPd cs g), .d (.tuple (xs.map encC))] ∧ PdOk m cs g ∧ xs.length ≤ 4 ∧ (∀ x ∈ xs, x ∈ cs) ∧ Φ (.list ((allOf m g xs).map encP))
theorem i_parted_of__L {m : Nat} {cs : List Co} {g : Co → List (Int × Int)} {xs : List Co} (h1 : PdOk m cs g) (h2 : xs.length ≤ 4) (h3 : ∀ x ∈ xs, x ∈ cs) (h : Φ (.list ((allOf m g xs).map encP))) : W_parted_of__L [.d (encPd cs g), .d (.list (xs.map encC))] Φ := ⟨m, cs, g, xs, rfl, h1, h2, h3, h⟩
theorem i_parted_of__T {m : Nat} {cs : List Co} {g : Co → List (Int × Int)} {xs : List Co} (h1 : PdOk m cs g) (h2 : xs.length ≤ 4) (h3 : ∀ x ∈ xs, x ∈ cs) (h : Φ (.list ((allOf m g xs).map encP))) : W_parted_of__T [.d (encPd cs g), .d (.tuple (xs.map encC))] Φ := ⟨m, cs, g, xs, rfl, h1, h2, h3, h⟩
theorem any_map_co (g : Co → List (Int × Int)) (xs : List Co) (p : Int × Int) : ((xs.map g).any fun l => decide (p ∈ l)) = xs.any fun x => decide (p ∈ g x) := by
  rw [List.any_map]
  rfl
theorem w_parted_of__L (h : W_parted_of__L ss Φ) : WS C c (t_parted_of__L C) (startG n_parted_of ss) (retP Φ) := by
  obtain ⟨m, cs, g, xs, rfl, hp, hl, hm, q⟩ := h
  unfold t_parted_of__L
  refine ws_ret (we_sumset (m := m) ?_)
  repeat' walk_at "w"
  refine we_lcMapT encC (fun x => encL2 (g x)) ?_
  repeat' walk_at "w"
  refine ⟨xs, rfl, by omega, fun x hx => ?_, ?_⟩
  · repeat' walk_at "w"
    refine iT_getC (f := fun x => encL2 (g x)) (hm x hx) rfl
  · repeat' walk_at "w"
    have e : (xs.map fun x => encL2 (g x)) = (xs.map g).map encL2 := by
      rw [List.map_map]
      rfl
    have fl := flat_len (L := xs.map g) fun l hl => by
      obtain ⟨x, hx, rfl⟩ := List.mem_map.mp hl
      exact hp.gl x (hm x hx)
    rw [List.length_map] at fl
    have e2 : ((xs.map g).map fun l => l.map encP).flatten = (xs.map g).flatten.map encP := by
      rw [List.map_flatten]
    refine ⟨(xs.map g).map fun l => l.map encP, by rw [e]; exact listsOf_map _, by rw [e2, List.length_map, List.length_nil]; omega, xs.map g, by rw [e2]; rfl, hp.m3, fun l hl p hpl => ?_, by omega, ?_⟩
    · obtain ⟨x, hx, rfl⟩ := List.mem_map.mp hl
      exact hp.me x (hm x hx) p hpl
    · simp only [any_map_co]
      exact q
theorem w_parted_of__T (h : W_parted_of__T ss Φ) : WS C c (t_parted_of__T C) (startG n_parted_of ss) (retP Φ) := by
  obtain ⟨m, cs, g, xs, rfl, hp, hl, hm, q⟩ := h
  unfold t_parted_of__T
  refine ws_ret (we_sumset (m := m) ?_)
  repeat' walk_at "w"
  refine we_lcMapT encC (fun x => encL2 (g x)) ?_
  repeat' walk_at "w"
  refine ⟨xs, rfl, by omega, fun x hx => ?_, ?_⟩
  · repeat' walk_at "w"
    refine iT_getC (f := fun x => encL2 (g x)) (hm x hx) rfl
  · repeat' walk_at "w"
    have e : (xs.map fun x => encL2 (g x)) = (xs.map g).map encL2 := by
      rw [List.map_map]
      rfl
    have fl := flat_len (L := xs.map g) fun l hl => by
      obtain ⟨x, hx, rfl⟩ := List.mem_map.mp hl
      exact hp.gl x (hm x hx)
    rw [List.length_map] at fl
    have e2 : ((xs.map g).map fun l => l.map encP).flatten = (xs.map g).flatten.map encP := by
      rw [List.map_flatten]
    refine ⟨(xs.map g).map fun l => l.map encP, by rw [e]; exact listsOf_map _, by rw [e2, List.length_map, List.length_nil]; omega, xs.map g, by rw [e2]; rfl, hp.m3, fun l hl p hpl => ?_, by omega, ?_⟩
    · obtain ⟨x, hx, rfl⟩ := List.mem_map.mp hl
      exact hp.me x (hm x hx) p hpl
    · simp only [any_map_co]
      exact q
end
end DW8

section DW9
open PySem PySem.Spec PyProof.Rows L2
open PySem.W (AllAlike AllAlike.of dataLe dataLt alike alikeAll Sortable Sortable.tuples)
section
variable {C : Ct} {c : Option Addr} {ss : List Sl} {Φ : PK}
def gtC (t u : Co) : Bool := dataLt (encC u) (encC t)
def lotsC (cs : List Co) : Nat → List (List Co)
  | 0 => [[]]
  | k + 1 => (lotsC cs k).flatMap fun l => (cs.filter fun t => decide (l = []) || gtC t (l.getLastD (0, []))).map fun t => l ++ [t]
abbrev encCT (l : List Co) : PyData := .tuple (l.map encC)
theorem lotsC_mem {cs : List Co} : ∀ {k : Nat} {l : List Co}, l ∈ lotsC cs k → l.length = k ∧ ∀ x ∈ l, x ∈ cs
  | 0, l, h => by
    have : l = [] := by simpa [lotsC] using h
    rw [this]
    exact ⟨rfl, fun x hx => nomatch hx⟩
  | k + 1, l, h => by
    rw [lotsC, List.mem_flatMap] at h
    obtain ⟨m, hm, h⟩ := h
    obtain ⟨t, ht, rfl⟩ := List.mem_map.mp h
    obtain ⟨h1, h2⟩ := lotsC_mem hm
    refine ⟨by rw [List.length_append, h1]; rfl, fun x hx => ?_⟩
    rcases List.mem_append.mp hx with hx | hx
    · exact h2 x hx
    · rw [List.mem_singleton] at hx
      rw [hx]
      exact (List.mem_filter.mp ht).1
theorem alike_co (x y : Co) : alike (encC x) (encC y) = true := by
  simp only [encC, alike, alikeAll, alikeAll_pairs]
  rfl
theorem atI_last (l : List Co) (h : l ≠ []) : atI (l.map encC) (-1) = some (encC (l.getLastD (0, []))) := by
  have hl : 0 < l.length := List.length_pos_iff.mpr h
  have e : ixN (l.map encC).length (-1) = some (l.length - 1) := by
    unfold ixN
    rw [List.length_map, if_neg (by omega), if_pos (by omega)]
    congr 1
    omega
  unfold atI
  rw [e, Option.bind_some, List.getElem?_map]
  have e2 : l[l.length - 1]? = some (l.getLastD (0, [])) := by
    rw [List.getLastD_eq_getLast?, ← List.getLast?_eq_getElem?, List.getLast?_eq_some_getLast h]
    rfl
  rw [e2]
  rfl
theorem iT_eqNilC {l : List Co} (h : Φ (.bool (decide (l = [])))) : eqT (.tuple (l.map encC)) (.tuple []) Φ := by
  refine ⟨⟨okD_cosT l, rfl⟩, ?_⟩
  rw [show PyData.eqv (.tuple (l.map encC)) (.tuple []) = _ from eqv_cosT l []]
  exact h
theorem iT_gtC {x y : Co} (h : Φ (.bool (gtC x y))) : gtDT (encC x) (encC y) Φ := ⟨⟨(OkN.co (m := 0) x).nd, (OkN.co (m := 0) y).nd⟩, alike_co x y, fun z => (nomatch z), Nat.le_trans (OkN.co (m := 0) x).dp (by decide), h⟩
def W_lots_of : List Sl → PK → Prop := fun ss Φ => ∃ (cs : List Co) (k : Nat), ss = [.d (.list (cs.map encC)), .d (.int k)] ∧ cs.length ≤ 4 ∧ k ≤ 10 ∧ (∀ i, i ≤ k → (lotsC cs i).length ≤ 100) ∧ Φ (.list ((lotsC cs k).map encCT))
theorem i_lots_of {cs : List Co} {k : Nat} (h1 : cs.length ≤ 4) (h2 : k ≤ 10) (h3 : ∀ i, i ≤ k → (lotsC cs i).length ≤ 100) (h : Φ (.list ((lotsC cs k).map encCT))) : W_lots_of [.d (.list (cs.map encC)), .d (.int k)] Φ := ⟨cs, k, rfl, h1, h2, h3, h⟩
theorem w_lots_of (h : W_lots_of ss Φ) : WS C c (t_lots_of C) (startG n_lots_of ss) (retP Φ) := by
  obtain ⟨cs, k, rfl, h1, h2, h3, q⟩ := h
  unfold t_lots_of
  repeat' walk_at "w"
  refine ws_forT (fun (k : Nat) => .int (0 + (k : Int))) [3] ?_
  repeat' walk_at "w"
  refine ⟨k, rfl, by omega, by omega, List.range k, rfl, fun i Γ => ∃ x3, Γ = [.d (.list (cs.map encC)), .d (.int k), .d (.list ((lotsC cs i).map encCT)), x3, .un, .un], ⟨_, rfl⟩, fun i x Γ' hi hI => ?_, fun Γ' hI => ?_⟩
  · obtain ⟨x3, rfl⟩ := hI
    have hik : i < k := by
      have := (List.getElem?_eq_some_iff.mp hi).1
      rwa [List.length_range] at this
    repeat' walk_at "w"
    refine we_lc2M encCT encC (fun _ => cs) (fun l t => decide (l = []) || gtC t (l.getLastD (0, []))) (fun l t => encCT (l ++ [t])) ?_
    repeat' walk_at "w"
    refine ⟨_, rfl, h3 i (by omega), fun l hl => ?_, ?_⟩
    · have ll := (lotsC_mem hl).1
      repeat' walk_at "w"
      refine ⟨rfl, by omega, fun t ht => ?_⟩
      repeat' walk_at "w"
      refine iT_eqNilC ?_
      repeat' walk_at "w"
      · next hc =>
        refine ⟨by rw [decide_eq_true hc]; rfl, fun _ => ?_⟩
        repeat' walk_at "w"
        refine addT_tup (by simp only [List.length_map, List.length_cons, List.length_nil]; omega) ?_
        rw [encCT, List.map_append]
        rfl
      · next hc =>
        refine ⟨_, atI_last l hc, ?_⟩
        refine iT_gtC ?_
        repeat' walk_at "w"
        refine ⟨by rw [decide_eq_false hc]; rfl, fun _ => ?_⟩
        repeat' walk_at "w"
        refine addT_tup (by simp only [List.length_map, List.length_cons, List.length_nil]; omega) ?_
        rw [encCT, List.map_append]
        rfl
    · refine ⟨.d (.int (0 + (x : Int))), ?_⟩
      rw [lotsC, List.map_flatMap]
      simp only [List.map_map]
      rfl
  · obtain ⟨x3, rfl⟩ := hI
    rw [List.length_range]
    repeat' walk_at "w"
    exact q
end
end DW9

section DWA
open PySem PySem.Spec PyProof.Rows L2
open PySem.W (AllAlike AllAlike.of dataLe dataLt alike alikeAll Sortable Sortable.tuples)
section
variable {C : Ct} {c : Option Addr} {ss : List Sl} {Φ : PK}
def fewG (n m : Nat) (g : Co → List (Int × Int)) : List Co :=
  if n = 1 then (if g (1, []) = [] then [] else [(1, [])])
  else
    let x := g (2, [])
    let y := g (2, [(0, 1)])
    let z := those m fun p => decide (p ∈ x) || decide (p ∈ y)
    if z = [] then [] else if x = z then [(2, [])] else if y = z then [(2, [(0, 1)])] else [(2, []), (2, [(0, 1)])]
theorem few_fewG {n : Nat} (hn : n = 1 ∨ n = 2) (scs : List Scr) : few n scs = fewG n scs.length fun x => ptAt n x.2 scs := by
  rcases hn with rfl | rfl <;> rfl
theorem lotsC1_0 : lotsC (starts 1) 0 = [[]] := rfl
theorem lotsC1_1 : lotsC (starts 1) 1 = [[(1, [])]] := by decide +kernel
theorem lotsC1_2 : lotsC (starts 1) 2 = [] := by decide +kernel
theorem lotsC1_3 : lotsC (starts 1) 3 = [] := by decide +kernel
theorem lotsC2_0 : lotsC (starts 2) 0 = [[]] := rfl
theorem lotsC2_1 : lotsC (starts 2) 1 = [[(2, [])], [(2, [(0, 1)])]] := by decide +kernel
theorem lotsC2_2 : lotsC (starts 2) 2 = [[(2, []), (2, [(0, 1)])]] := by decide +kernel
theorem lotsC2_3 : lotsC (starts 2) 3 = [] := by decide +kernel
theorem lotsC_few {n : Nat} (hn : n = 1 ∨ n = 2) : ∀ i, i ≤ 3 → (lotsC (starts n) i).length ≤ 100 := by
  rcases hn with rfl | rfl
  · decide +kernel
  · decide +kernel
theorem starts_srt {n : Nat} (hn : n = 1 ∨ n = 2) : srt ((starts n).map encC) = (starts n).map encC := by
  refine srt_self ?_
  rcases hn with rfl | rfl
  · exact List.pairwise_singleton _ _
  · rw [starts2]
    refine List.Pairwise.cons (fun d hd => ?_) (List.pairwise_singleton _ _)
    rw [List.map_singleton, List.mem_singleton] at hd
    subst hd
    decide +kernel
theorem srtOk_cos {cs : List Co} (hl : cs.length ≤ 10000) : SrtOk (cs.map encC) := by
  have h : ∀ d ∈ cs.map encC, OkN 3 d := fun d hd => by
    obtain ⟨p, _, rfl⟩ := List.mem_map.mp hd
    exact OkN.co p
  exact ⟨okN_nds' h, AllAlike.of alike_co, .inl (Sortable.tuples fun b => ⟨_, _, rfl⟩), by rw [List.length_map]; exact hl, fun d hd => Nat.le_trans (h d hd).dp (by decide)⟩
theorem starts_len {n : Nat} (hn : n = 1 ∨ n = 2) : (starts n).length ≤ 2 := by
  rcases hn with rfl | rfl <;> decide
theorem iT_sortPd {n : Nat} {g : Co → List (Int × Int)} (hn : n = 1 ∨ n = 2) (h : Φ (.list ((starts n).map encC))) : sortedT [encPd (starts n) g] Φ := by
  have e : ((starts n).map fun x => (encC x, encL2 (g x))).map (·.1) = (starts n).map encC := by
    rw [List.map_map]
    rfl
  refine ⟨by rw [e]; exact srtOk_cos (Nat.le_trans (starts_len hn) (by decide)), ?_⟩
  rw [e, starts_srt hn]
  exact h
/-! plain -/
section
variable {m : Nat} {g : Co → List (Int × Int)}
theorem allOf_nil : allOf m g [] = [] := List.filter_eq_nil_iff.mpr fun p _ => by simp
theorem allOf_one {x : Co} (hs : (g x).Pairwise ltP) (hm : ∀ p ∈ g x, p ∈ prs m) : allOf m g [x] = g x := ltP_unique (those_sorted _ _) hs fun p => by
  rw [mem_allOf fun y hy p hp => hm p (by rw [List.mem_singleton] at hy; rw [← hy]; exact hp)]
  simp
theorem allOf_two {x y : Co} : allOf m g [x, y] = those m fun p => decide (p ∈ g x) || decide (p ∈ g y) := by
  unfold allOf
  simp
theorem few_ret {n i j : Nat} {l : List Co} (hn : n = 1 ∨ n = 2) (hp : PdOk m (starts n) g) (hs : ∀ x ∈ starts n, (g x).Pairwise ltP) (hi : i ≤ 3) (hj : (lotsC (starts n) i)[j]? = some l)
    (he : allOf m g l = allOf m g (starts n)) (h1 : ∀ k, k < i → ∀ l' ∈ lotsC (starts n) k, allOf m g l' ≠ allOf m g (starts n)) (h2 : ∀ l' ∈ (lotsC (starts n) i).take j, allOf m g l' ≠ allOf m g (starts n)) : l = fewG n m g := by
  rcases hn with rfl | rfl
  · have g1 : allOf m g [(1, [])] = g (1, []) := allOf_one (hs _ (by decide)) (hp.me _ (by decide))
    have w : allOf m g (starts 1) = g (1, []) := g1
    rw [w] at he h1 h2
    match i, hi with
    | 0, _ =>
      rw [lotsC1_0] at hj
      match j, hj with
      | 0, hj =>
        cases hj
        rw [allOf_nil] at he
        unfold fewG
        rw [if_pos rfl, if_pos he.symm]
    | 1, _ =>
      have h0 := h1 0 (by decide) [] (by decide)
      rw [allOf_nil] at h0
      rw [lotsC1_1] at hj
      match j, hj with
      | 0, hj =>
        cases hj
        unfold fewG
        rw [if_pos rfl, if_neg (Ne.symm h0)]
    | 2, _ =>
      rw [lotsC1_2] at hj
      exact nomatch hj
    | 3, _ =>
      rw [lotsC1_3] at hj
      exact nomatch hj
  · have g1 : allOf m g [(2, [])] = g (2, []) := allOf_one (hs _ (by decide)) (hp.me _ (by decide))
    have g2 : allOf m g [(2, [(0, 1)])] = g (2, [(0, 1)]) := allOf_one (hs _ (by decide)) (hp.me _ (by decide))
    have w : allOf m g (starts 2) = those m fun p => decide (p ∈ g (2, [])) || decide (p ∈ g (2, [(0, 1)])) := allOf_two
    rw [w] at he h1 h2
    unfold fewG
    rw [if_neg (by decide)]
    simp only
    match i, hi with
    | 0, _ =>
      rw [lotsC2_0] at hj
      match j, hj with
      | 0, hj =>
        cases hj
        rw [allOf_nil] at he
        rw [if_pos he.symm]
    | 1, _ =>
      have h0 := h1 0 (by decide) [] (by decide)
      rw [allOf_nil] at h0
      rw [lotsC2_1] at hj h2
      match j, hj with
      | 0, hj =>
        cases hj
        rw [g1] at he
        rw [if_neg (Ne.symm h0), if_pos he]
      | 1, hj =>
        cases hj
        have h3 := h2 [(2, [])] (by simp)
        rw [g1] at h3
        rw [g2] at he
        rw [if_neg (Ne.symm h0), if_neg h3, if_pos he]
    | 2, _ =>
      have h0 := h1 0 (by decide) [] (by decide)
      rw [allOf_nil] at h0
      have h3 := h1 1 (by decide) [(2, [])] (by rw [lotsC2_1]; simp)
      have h4 := h1 1 (by decide) [(2, [(0, 1)])] (by rw [lotsC2_1]; simp)
      rw [g1] at h3
      rw [g2] at h4
      rw [lotsC2_2] at hj
      match j, hj with
      | 0, hj =>
        cases hj
        rw [if_neg (Ne.symm h0), if_neg h3, if_neg h4]
    | 3, _ =>
      rw [lotsC2_3] at hj
      exact nomatch hj
theorem few_end {n : Nat} (hn : n = 1 ∨ n = 2) (hp : PdOk m (starts n) g) (hs : ∀ x ∈ starts n, (g x).Pairwise ltP)
    (h1 : ∀ k, k < (allOf m g (starts n)).length + 1 → ∀ l' ∈ lotsC (starts n) k, allOf m g l' ≠ allOf m g (starts n)) : False := by
  have h0 := h1 0 (by omega) [] (by show [] ∈ [[]]; exact List.mem_singleton.mpr rfl)
  rw [allOf_nil] at h0
  have hl : 1 ≤ (allOf m g (starts n)).length := by
    rcases e : allOf m g (starts n) with _ | ⟨a, r⟩
    · exact absurd e.symm h0
    · rw [List.length_cons]
      omega
  rcases hn with rfl | rfl
  · exact h1 1 (by omega) [(1, [])] (by rw [lotsC1_1]; simp) rfl
  · by_cases h2 : 2 ≤ (allOf m g (starts 2)).length
    · exact h1 2 (by omega) [(2, []), (2, [(0, 1)])] (by rw [lotsC2_2]; simp) rfl
    · have g1 : allOf m g [(2, [])] = g (2, []) := allOf_one (hs _ (by decide)) (hp.me _ (by decide))
      have g2 : allOf m g [(2, [(0, 1)])] = g (2, [(0, 1)]) := allOf_one (hs _ (by decide)) (hp.me _ (by decide))
      have h3 := h1 1 (by omega) [(2, [])] (by rw [lotsC2_1]; simp)
      have h4 := h1 1 (by omega) [(2, [(0, 1)])] (by rw [lotsC2_1]; simp)
      rw [g1] at h3
      rw [g2] at h4
      have me : ∀ p, p ∈ allOf m g (starts 2) ↔ p ∈ g (2, []) ∨ p ∈ g (2, [(0, 1)]) := fun p => by
        rw [mem_allOf hp.me, starts2]
        simp
      match e : allOf m g (starts 2), hl, h2 with
      | [p], _, _ =>
        rw [e] at me h3 h4
        have one : ∀ x ∈ starts 2, (∀ q, q ∈ g x → q ∈ [p]) → p ∈ g x → g x = [p] := fun x hx h5 h6 => ltP_unique (hs x hx) (List.pairwise_singleton _ _) fun q =>
          ⟨h5 q, fun h => by rw [List.mem_singleton] at h; rw [h]; exact h6⟩
        rcases (me p).mp (List.mem_singleton.mpr rfl) with h | h
        · exact h3 (one (2, []) (by decide) (fun q hq => (me q).mpr (.inl hq)) h)
        · exact h4 (one (2, [(0, 1)]) (by decide) (fun q hq => (me q).mpr (.inr hq)) h)
      | _ :: _ :: r, _, h2 => exact absurd (by rw [List.length_cons, List.length_cons]; omega) h2
end
def W_fewest_starts : List Sl → PK → Prop := fun ss Φ => ∃ (n m : Nat) (g : Co → List (Int × Int)), ss = [.d (encPd (starts n) g)] ∧ (n = 1 ∨ n = 2) ∧ PdOk m (starts n) g ∧ (∀ x ∈ starts n, (g x).Pairwise ltP) ∧ Φ (.tuple ((fewG n m g).map encC))
theorem i_fewest_starts {n : Nat} (m : Nat) {g : Co → List (Int × Int)} (h1 : n = 1 ∨ n = 2) (h2 : PdOk m (starts n) g) (h3 : ∀ x ∈ starts n, (g x).Pairwise ltP) (h : Φ (.tuple ((fewG n m g).map encC))) : W_fewest_starts [.d (encPd (starts n) g)] Φ := ⟨n, m, g, rfl, h1, h2, h3, h⟩
theorem w_fewest_starts (h : W_fewest_starts ss Φ) : WS C c (t_fewest_starts C W_parted_of__L W_lots_of W_parted_of__T) (startG n_fewest_starts ss) (retP Φ) := by
  obtain ⟨n, m, g, rfl, hn, hp, hs, q⟩ := h
  unfold t_fewest_starts
  have hsl := starts_len hn
  have hw3 : (allOf m g (starts n)).length ≤ 3 := prs_le3 hp.m3 ((prs_nodup _).sublist List.filter_sublist) fun p h => (mem_those.mp h).1
  repeat' walk_at "w"
  refine iT_sortPd hn ?_
  repeat' walk_at "w"
  refine i_parted_of__L hp (by omega) (fun x hx => hx) ?_
  repeat' walk_at "w"
  refine ws_forT (fun (k : Nat) => .int (0 + (k : Int))) [2] ?_
  repeat' walk_at "w"
  have eL : (((allOf m g (starts n)).map encP).length : Int) + 1 = (((allOf m g (starts n)).length + 1 : Nat) : Int) := by
    rw [List.length_map]
    rfl
  rw [eL]
  refine ⟨_, rfl, by omega, by omega, List.range ((allOf m g (starts n)).length + 1), rfl, fun i Γ => ∃ x2 x3, Γ = [.d (encPd (starts n) g), .d (.list ((allOf m g (starts n)).map encP)), x2, x3] ∧ ∀ k, k < i → ∀ l' ∈ lotsC (starts n) k, allOf m g l' ≠ allOf m g (starts n), ⟨_, _, rfl, fun k hk => absurd hk (Nat.not_lt_zero _)⟩, fun i x Γ' hi hI => ?_, fun Γ' hI => ?_⟩
  · obtain ⟨x2, x3, rfl, hI⟩ := hI
    obtain ⟨hik, hx⟩ := List.getElem?_eq_some_iff.mp hi
    rw [List.length_range] at hik
    rw [List.getElem_range] at hx
    subst hx
    have hi3 : i ≤ 3 := by omega
    rw [Int.zero_add]
    repeat' walk_at "w"
    refine ws_forT encCT [3] ?_
    repeat' walk_at "w"
    refine iT_sortPd hn ?_
    repeat' walk_at "w"
    refine i_lots_of (by omega) (by omega) (fun k hk => lotsC_few hn k (by omega)) ?_
    repeat' walk_at "w"
    refine ⟨_, rfl, fun j Γ => ∃ x3, Γ = [.d (encPd (starts n) g), .d (.list ((allOf m g (starts n)).map encP)), .d (.int i), x3] ∧ ∀ l' ∈ (lotsC (starts n) i).take j, allOf m g l' ≠ allOf m g (starts n), ⟨_, rfl, fun l' hl => nomatch hl⟩, fun j l Γ' hj hJ => ?_, fun Γ' hJ => ?_⟩
    · obtain ⟨x4, rfl, hJ⟩ := hJ
      have hlm := lotsC_mem (List.mem_of_getElem? hj)
      repeat' walk_at "w"
      refine i_parted_of__T hp (by omega) hlm.2 ?_
      repeat' walk_at "w"
      · next hc =>
        rw [few_ret hn hp hs hi3 hj hc hI hJ]
        exact q
      · next hc =>
        refine ⟨_, rfl, fun l' hl' => ?_⟩
        rw [List.take_add_one, hj, Option.toList_some] at hl'
        rcases List.mem_append.mp hl' with hl' | hl'
        · exact hJ l' hl'
        · rw [List.mem_singleton] at hl'
          rw [hl']
          exact hc
    · obtain ⟨x4, rfl, hJ⟩ := hJ
      rw [List.take_length] at hJ
      repeat' walk_at "w"
      refine ⟨_, _, rfl, fun k hk l' hl' => ?_⟩
      rcases Nat.lt_succ_iff_lt_or_eq.mp hk with hk | rfl
      · exact hI k hk l' hl'
      · exact hJ l' hl'
  · obtain ⟨x2, x3, rfl, hI⟩ := hI
    rw [List.length_range] at hI
    exact (few_end hn hp hs hI).elim
/-! telling_starts -/
theorem start_ok {n : Nat} (hn : n = 1 ∨ n = 2) {x : Co} (hx : x ∈ starts n) : x.1 = n ∧ StOk n x.2 := by
  rcases hn with rfl | rfl
  · rw [starts1, List.mem_singleton] at hx
    subst hx
    exact ⟨rfl, by decide, List.nodup_nil, fun p hp => (nomatch hp), by decide⟩
  · rw [starts2] at hx
    rcases List.mem_cons.mp hx with rfl | hx
    · exact ⟨rfl, by decide, List.nodup_nil, fun p hp => (nomatch hp), by decide⟩
    · rw [List.mem_singleton] at hx
      subst hx
      exact ⟨rfl, by decide, by decide, by decide, by decide⟩
theorem starts_nodup {n : Nat} (hn : n = 1 ∨ n = 2) : (starts n).Nodup := by
  rcases hn with rfl | rfl <;> decide
theorem ptAt_pd {n : Nat} {scs : List Scr} (hn : n = 1 ∨ n = 2) (hs : ScsOk n scs) : PdOk scs.length (starts n) fun x => ptAt n x.2 scs :=
  ⟨hs.l3, by have := starts_len hn; omega, fun x _ p hp => (mem_those.mp hp).1, fun x _ => prs_le3 hs.l3 ((prs_nodup _).sublist List.filter_sublist) fun p hp => (mem_those.mp hp).1⟩
def W_telling_starts : List Sl → PK → Prop := fun ss Φ => ∃ (n : Nat) (scs : List Scr), ss = [.d (.int n), .d (.tuple (scs.map encS))] ∧ (n = 1 ∨ n = 2) ∧ ScsOk n scs ∧ Φ (.tuple ((few n scs).map encC))
theorem i_telling_starts {n : Nat} {scs : List Scr} (h1 : n = 1 ∨ n = 2) (h2 : ScsOk n scs) (h : Φ (.tuple ((few n scs).map encC))) : W_telling_starts [.d (.int n), .d (.tuple (scs.map encS))] Φ := ⟨n, scs, rfl, h1, h2, h⟩
theorem w_telling_starts (h : W_telling_starts ss Φ) : WS C c (t_telling_starts C W_need_named W_need_scripts W_all_starts W_fewest_starts W_parting_views) (startG n_telling_starts ss) (retP Φ) := by
  obtain ⟨n, scs, rfl, hn, hsc, q⟩ := h
  unfold t_telling_starts
  repeat' walk_at "w"
  refine ⟨n, rfl, by omega, by omega, ?_⟩
  repeat' walk_at "w"
  refine i_need_scripts ⟨hsc.l2, hsc.l3⟩ hsc.ok ?_
  repeat' walk_at "w"
  refine i_all_starts hn ?_
  repeat' walk_at "w"
  have hsl := starts_len hn
  refine we_lcMapT encC (fun x => .tuple [encC x, encL2 (ptAt n x.2 scs)]) ?_
  repeat' walk_at "w"
  refine ⟨_, rfl, by omega, fun x hx => ?_, ?_⟩
  · obtain ⟨a, st⟩ := x
    obtain ⟨rfl, hst⟩ := start_ok hn hx
    repeat' walk_at "w"
    refine i_parting_views hst hsc fun kvs hnd hmem => ?_
    repeat' walk_at "w"
    have hl : (kvs.map (·.1)).length ≤ 3 := prs_le3 hsc.l3 hnd fun p hp => (mem_those.mp ((hmem p).mp hp)).1
    have e : (kvs.map fun p => (encP p.1, p.2)).map (·.1) = (kvs.map (·.1)).map encP := by
      rw [List.map_map, List.map_map]
      rfl
    refine ⟨by rw [e]; exact srtOk_pairs (by omega), ?_⟩
    rw [e, srt_pairs hnd (those_sorted _ _) fun p => (hmem p).symm]
    repeat' walk_at "w"
    rfl
  · repeat' walk_at "w"
    refine iT_dictC (f := fun x => encL2 (ptAt n x.2 scs)) (starts_nodup hn) ?_
    repeat' walk_at "w"
    refine i_fewest_starts scs.length (g := fun x => ptAt n x.2 scs) hn (ptAt_pd hn hsc) (fun x _ => those_sorted _ _) ?_
    rw [← few_fewG hn]
    exact q
end
end DWA

section DWB
open PySem PySem.Spec PyProof.Rows L2
section
variable {C : Ct} {c : Option Addr} {ss : List Sl} {Φ : PK}
def W__law_two : List Sl → PK → Prop := fun ss Φ => ∃ a b : Int, ss = [.d (.int a), .d (.int b)] ∧ Φ (encP (min a b, max a b))
theorem i__law_two {a b : Int} (h : Φ (encP (min a b, max a b))) : W__law_two [.d (.int a), .d (.int b)] Φ := ⟨a, b, rfl, h⟩
theorem w__law_two (h : W__law_two ss Φ) : WS C c (t__law_two C) (startG n__law_two ss) (retP Φ) := by
  obtain ⟨a, b, rfl, q⟩ := h
  unfold t__law_two
  repeat' walk_at "w"
  · next hc =>
    rw [show min a b = a by omega, show max a b = b by omega] at q
    exact q
  · next hc =>
    rw [show min a b = b by omega, show max a b = a by omega] at q
    exact q
def W__law_pairs : List Sl → PK → Prop := fun ss Φ => ∃ n : Nat, ss = [.d (.int n)] ∧ n ≤ 10 ∧ Φ (.list ((prs n).map encP))
theorem i__law_pairs {n : Nat} (hn : n ≤ 10) (h : Φ (.list ((prs n).map encP))) : W__law_pairs [.d (.int n)] Φ := ⟨n, rfl, hn, h⟩
theorem i__law_pairs' {n : Nat} {m : Int} (e : m = (n : Nat)) (hn : n ≤ 10) (h : Φ (.list ((prs n).map encP))) : W__law_pairs [.d (.int m)] Φ := ⟨n, by rw [e], hn, h⟩
theorem rows_len (n i : Nat) (hn : n ≤ 10) (hi : i ≤ n) : ((List.range i).flatMap (rowP n)).length ≤ 100 := by
  have : ∀ n, n < 11 → ∀ i, i < 11 → ((List.range i).flatMap (rowP n)).length ≤ 100 := by decide +kernel
  exact this n (by omega) i (by omega)
theorem w__law_pairs (h : W__law_pairs ss Φ) : WS C c (t__law_pairs C) (startG n__law_pairs ss) (retP Φ) := by
  obtain ⟨n, rfl, hn, q⟩ := h
  unfold t__law_pairs
  repeat' walk_at "w"
  refine ws_forT (fun (k : Nat) => .int (0 + (k : Int))) [2] ?_
  repeat' walk_at "w"
  refine ⟨n, rfl, by omega, by omega, List.range n, rfl, fun i Γ => ∃ x2, Γ = [.d (.int n), .d (.list (((List.range i).flatMap (rowP n)).map encP)), x2, .un], ⟨_, rfl⟩, fun i x Γ' hi hI => ?_, fun Γ' hI => ?_⟩
  · obtain ⟨x2, rfl⟩ := hI
    obtain ⟨hik, hx⟩ := List.getElem?_eq_some_iff.mp hi
    rw [List.length_range] at hik
    rw [List.getElem_range] at hx
    subst hx
    repeat' walk_at "w"
    refine we_lcMapT (α := Nat) (fun j => .int (0 + (i : Int) + 1 + (j : Int))) (fun j => encP ((i : Int), (i : Int) + 1 + (j : Int))) ?_
    repeat' walk_at "w"
    refine ⟨_, _, rfl, rfl, by omega, by omega, by omega, by omega, List.range ((n : Int) - (0 + (i : Int) + 1)).toNat, rfl, by rw [List.length_range]; omega, fun j hj => ?_, ?_⟩
    · repeat' walk_at "w"
      rw [Int.zero_add]
    · have e : ((n : Int) - (0 + (i : Int) + 1)).toNat = n - (i + 1) := by omega
      rw [e]
      have := rows_len n i hn (by omega)
      refine addT_lst (by rw [List.length_map, List.length_map, List.length_range]; omega) ?_
      repeat' walk_at "w"
      refine ⟨.d (.int (0 + (i : Int))), ?_⟩
      have e2 : (List.range (i + 1)).flatMap (rowP n) = (List.range i).flatMap (rowP n) ++ rowP n i := by
        rw [List.range_succ, List.flatMap_append]
        simp
      rw [e2, List.map_append]
      have e3 : (rowP n i).map encP = (List.range (n - (i + 1))).map fun j => encP ((i : Int), (i : Int) + 1 + ((j : Nat) : Int)) := by
        unfold rowP
        rw [List.map_map]
        rfl
      rw [e3]
      rfl
  · obtain ⟨x2, rfl⟩ := hI
    rw [List.length_range]
    repeat' walk_at "w"
    exact q
def W__law_knows : List Sl → PK → Prop := fun ss Φ => ∃ (co : Co) (a b : Int), ss = [.d (encC co), .d (.int a), .d (.int b)] ∧ Φ (.bool (knows co.2 a b))
theorem i__law_knows {co : Co} {a b : Int} (h : Φ (.bool (knows co.2 a b))) : W__law_knows [.d (encC co), .d (.int a), .d (.int b)] Φ := ⟨co, a, b, rfl, h⟩
theorem w__law_knows (h : W__law_knows ss Φ) : WS C c (t__law_knows C W__law_two) (startG n__law_knows ss) (retP Φ) := by
  obtain ⟨co, a, b, rfl, q⟩ := h
  unfold t__law_knows
  repeat' walk_at "w"
  refine i__law_two ?_
  repeat' walk_at "w"
  exact q
end
end DWB

section DWC
open PySem PySem.Spec PyProof.Rows L2
section
variable {C : Ct} {c : Option Addr} {ss : List Sl} {Φ : PK}
theorem knows_pair {ts : List (Int × Int)} {n : Nat} {p : Int × Int} (h : p ∈ prs n) : knows ts p.1 p.2 = decide (p ∈ ts) := by
  obtain ⟨h1, h2, h3⟩ := mem_prs.mp h
  unfold knows
  rw [show (min p.1 p.2, max p.1 p.2) = p by
    obtain ⟨a, b⟩ := p
    simp only at h1 h2 h3 ⊢
    rw [show min a b = a by omega, show max a b = b by omega]]
def W__law_behind : List Sl → PK → Prop := fun ss Φ => ∃ (co : Co) (d : Deed), ss = [.d (encC co), .d (encD d)] ∧ co.1 ≤ 10 ∧ DOk co.1 d ∧ Φ (encC (behindD co d))
theorem i__law_behind {co : Co} {d : Deed} (hn : co.1 ≤ 10) (hd : DOk co.1 d) (h : Φ (encC (behindD co d))) : W__law_behind [.d (encC co), .d (encD d)] Φ := ⟨co, d, rfl, hn, hd, h⟩
theorem w__law_behind (h : W__law_behind ss Φ) : WS C c (t__law_behind C W__law_pairs W__law_knows W__law_two) (startG n__law_behind ss) (retP Φ) := by
  obtain ⟨⟨n, ts⟩, d, rfl, hn, hd, q⟩ := h
  unfold t__law_behind
  refine ws_build [3, 4] fun a => ?_
  repeat' walk_at "w"
  refine i__law_pairs hn ?_
  repeat' walk_at "w"
  refine ⟨fun k Γ acc => ∃ x3 x4 x5 x6 x7, Γ = [.d (encC (n, ts)), .d (encD d), .raw (.ref a), x3, x4, x5, x6, x7, .un] ∧ acc = (((prs n).take k).filter (ansD ts d)).map encP, ⟨_, _, _, _, _, rfl, rfl⟩, fun k dd Γ' acc hk hI => ?_, fun Γ' acc hI => ?_⟩
  · obtain ⟨x3, x4, x5, x6, x7, rfl, rfl⟩ := hI
    rw [List.getElem?_map, Option.map_eq_some_iff] at hk
    obtain ⟨p, hp, rfl⟩ := hk
    have hpm := List.mem_of_getElem? hp
    have hkn : knows ts p.1 p.2 = decide (p ∈ ts) := knows_pair hpm
    obtain ⟨hp1, hp2, hp3⟩ := mem_prs.mp hpm
    have hlen : ((((prs n).take k).filter (ansD ts d)).map encP).length ≤ 9999 := by
      rw [List.length_map]
      have h1 := List.length_filter_le (ansD ts d) ((prs n).take k)
      have h2 := (List.take_sublist k (prs n)).length_le
      have h3 : (prs n).length ≤ 100 := prs_len hn
      omega
    have fin : ∀ (b : Bool) (x6 x7 : Sl), b = ansD ts d p → ∃ Γ', Out.nx [.d (encC (n, ts)), .d (encD d), .raw (.ref a), .d (.int p.1), .d (.int p.2), .d (.bool b), x6, x7, .un] = .nx Γ' ∧
        WSB C c a (tIfS (tB (tVar 5)) (tDrop (tBM C.K "list" rAppend (tVar 2) (tCons (tTup (tCons (tVar 3) (tCons (tVar 4) tNil))) tNil))) tNext) Γ' ((((prs n).take k).filter (ansD ts d)).map encP)
          (fun Γ acc => ∃ x3 x4 x5 x6 x7, Γ = [.d (encC (n, ts)), .d (encD d), .raw (.ref a), x3, x4, x5, x6, x7, .un] ∧ acc = (((prs n).take (k + 1)).filter (ansD ts d)).map encP) := by
      intro b x6 x7 hb
      refine ⟨_, rfl, wsb_app rfl hlen ?_⟩
      repeat' walk_at "w"
      refine ⟨fun e => ?_, fun e => ?_⟩
      · repeat' walk_at "w"
        refine ⟨_, _, _, _, _, rfl, ?_⟩
        rw [List.take_add_one, hp, Option.toList_some, List.filter_append, List.map_append]
        have e2 : ansD ts d p = true := by rw [← hb, e]
        simp [e2]
      · refine ⟨_, _, _, _, _, rfl, ?_⟩
        rw [List.take_add_one, hp, Option.toList_some, List.filter_append, List.map_append]
        have e2 : ansD ts d p = false := by rw [← hb, e]
        simp [e2]
    repeat' walk_at "w"
    refine wsb_seq ?_
    repeat' walk_at "w"
    refine i__law_knows ?_
    refine ⟨_, rfl, wsb_seq ?_⟩
    obtain ⟨kb, hkb⟩ : ∃ kb, decide (p ∈ ts) = kb := ⟨_, rfl⟩
    rw [show knows (n, ts).2 p.1 p.2 = kb from hkn.trans hkb]
    cases d with
    | pairs a an =>
      simp only [encD] at fin ⊢
      repeat' walk_at "w"
      · next hc =>
        refine we_count ?_
        refine we_lcMapT PyData.int (fun x => .bool (knows ts a x)) ?_
        repeat' walk_at "w"
        refine ⟨[p.1, p.2], rfl, Nat.le_of_ble_eq_true rfl, fun x hx => ?_, ?_⟩
        · repeat' walk_at "w"
          exact i__law_knows rfl
        · refine ⟨_, rfl, ?_⟩
          repeat' walk_at "w"
          refine ⟨[knows ts a p.1, knows ts a p.2], rfl, rfl, ?_⟩
          repeat' walk_at "w"
          obtain ⟨⟨ha1, ha2⟩, hl, hb⟩ := hd
          have hs : ([knows ts a p.1, knows ts a p.2].count true) = bit (knows ts a p.1) + bit (knows ts a p.2) := by
            cases h1 : knows ts a p.1 <;> cases h2 : knows ts a p.2 <;> rfl
          rw [hs]
          have hk : 3 * bit kb + (bit (knows ts a p.1) + bit (knows ts a p.2)) < an.length := by
            have b1 := bit_le kb
            have b2 := bit_le (knows ts a p.1)
            have b3 := bit_le (knows ts a p.2)
            omega
          have hans : ansD ts (.pairs a an) p = decide (an[3 * bit kb + (bit (knows ts a p.1) + bit (knows ts a p.2))] = 1) := by
            simp only [ansD]
            rw [if_neg hc, hkb, List.getElem?_eq_getElem hk]
            simp
          cases kb with
          | true =>
            repeat' walk_at "w"
            refine iT_ixN _ ?_ (List.getElem?_eq_getElem hk) ?_
            · simp only [bit, if_true]
              push_cast
              omega
            · repeat' walk_at "w"
              exact fin _ _ _ hans.symm
          | false =>
            repeat' walk_at "w"
            refine iT_ixN _ ?_ (List.getElem?_eq_getElem hk) ?_
            · simp only [bit, Bool.false_eq_true, if_false]
              push_cast
              omega
            · repeat' walk_at "w"
              exact fin _ _ _ hans.symm
      · next hc =>
        refine fin _ _ _ ?_
        simp only [ansD]
        rw [if_pos hc, hkb]
    | takes a b an =>
      simp only [encD] at fin ⊢
      cases kb with
      | true =>
        repeat' walk_at "w"
        · next ha hb2 hc =>
          have e3 : p.1 + p.2 - a = p.2 := by omega
          refine i__law_knows ?_
          obtain ⟨k2, hk2⟩ : ∃ k2, knows ts b p.2 = k2 := ⟨_, rfl⟩
          rw [show knows (n, ts).2 b p.2 = k2 from hk2]
          have hk : 2 * bit true + bit k2 < an.length := by
            have b2 := bit_le k2
            have b1 := bit_le true
            have := hd.2.2.2.1
            omega
          have hans : ansD ts (.takes a b an) p = decide (an[2 * bit true + bit k2] = 1) := by
            simp only [ansD]
            rw [if_pos ⟨ha, hb2⟩, hkb, e3, hk2, List.getElem?_eq_getElem hk]
            simp
          cases k2 with
          | true =>
            repeat' walk_at "w"
            refine iT_ixN _ ?_ (List.getElem?_eq_getElem hk) ?_
            · rfl
            · repeat' walk_at "w"
              exact fin _ _ _ hans.symm
          | false =>
            repeat' walk_at "w"
            refine iT_ixN _ ?_ (List.getElem?_eq_getElem hk) ?_
            · rfl
            · repeat' walk_at "w"
              exact fin _ _ _ hans.symm
        · next ha hb2 hc =>
          have e3 : p.1 + p.2 - a = p.1 := by omega
          refine i__law_knows ?_
          obtain ⟨k2, hk2⟩ : ∃ k2, knows ts b p.1 = k2 := ⟨_, rfl⟩
          rw [show knows (n, ts).2 b p.1 = k2 from hk2]
          have hk : 2 * bit true + bit k2 < an.length := by
            have b2 := bit_le k2
            have b1 := bit_le true
            have := hd.2.2.2.1
            omega
          have hans : ansD ts (.takes a b an) p = decide (an[2 * bit true + bit k2] = 1) := by
            simp only [ansD]
            rw [if_pos ⟨ha, hb2⟩, hkb, e3, hk2, List.getElem?_eq_getElem hk]
            simp
          cases k2 with
          | true =>
            repeat' walk_at "w"
            refine iT_ixN _ ?_ (List.getElem?_eq_getElem hk) ?_
            · rfl
            · repeat' walk_at "w"
              exact fin _ _ _ hans.symm
          | false =>
            repeat' walk_at "w"
            refine iT_ixN _ ?_ (List.getElem?_eq_getElem hk) ?_
            · rfl
            · repeat' walk_at "w"
              exact fin _ _ _ hans.symm
        · next ha hb2 =>
          refine fin _ _ _ ?_
          simp only [ansD]
          rw [if_neg (fun z => z.2 hb2), hkb]
        · next ha =>
          refine fin _ _ _ ?_
          simp only [ansD]
          rw [if_neg (fun z => ha z.1), hkb]
      | false =>
        repeat' walk_at "w"
        · next ha hb2 hc =>
          have e3 : p.1 + p.2 - a = p.2 := by omega
          refine i__law_knows ?_
          obtain ⟨k2, hk2⟩ : ∃ k2, knows ts b p.2 = k2 := ⟨_, rfl⟩
          rw [show knows (n, ts).2 b p.2 = k2 from hk2]
          have hk : 2 * bit false + bit k2 < an.length := by
            have b2 := bit_le k2
            have b1 := bit_le false
            have := hd.2.2.2.1
            omega
          have hans : ansD ts (.takes a b an) p = decide (an[2 * bit false + bit k2] = 1) := by
            simp only [ansD]
            rw [if_pos ⟨ha, hb2⟩, hkb, e3, hk2, List.getElem?_eq_getElem hk]
            simp
          cases k2 with
          | true =>
            repeat' walk_at "w"
            refine iT_ixN _ ?_ (List.getElem?_eq_getElem hk) ?_
            · rfl
            · repeat' walk_at "w"
              exact fin _ _ _ hans.symm
          | false =>
            repeat' walk_at "w"
            refine iT_ixN _ ?_ (List.getElem?_eq_getElem hk) ?_
            · rfl
            · repeat' walk_at "w"
              exact fin _ _ _ hans.symm
        · next ha hb2 hc =>
          have e3 : p.1 + p.2 - a = p.1 := by omega
          refine i__law_knows ?_
          obtain ⟨k2, hk2⟩ : ∃ k2, knows ts b p.1 = k2 := ⟨_, rfl⟩
          rw [show knows (n, ts).2 b p.1 = k2 from hk2]
          have hk : 2 * bit false + bit k2 < an.length := by
            have b2 := bit_le k2
            have b1 := bit_le false
            have := hd.2.2.2.1
            omega
          have hans : ansD ts (.takes a b an) p = decide (an[2 * bit false + bit k2] = 1) := by
            simp only [ansD]
            rw [if_pos ⟨ha, hb2⟩, hkb, e3, hk2, List.getElem?_eq_getElem hk]
            simp
          cases k2 with
          | true =>
            repeat' walk_at "w"
            refine iT_ixN _ ?_ (List.getElem?_eq_getElem hk) ?_
            · rfl
            · repeat' walk_at "w"
              exact fin _ _ _ hans.symm
          | false =>
            repeat' walk_at "w"
            refine iT_ixN _ ?_ (List.getElem?_eq_getElem hk) ?_
            · rfl
            · repeat' walk_at "w"
              exact fin _ _ _ hans.symm
        · next ha hb2 =>
          refine fin _ _ _ ?_
          simp only [ansD]
          rw [if_neg (fun z => z.2 hb2), hkb]
        · next ha =>
          refine fin _ _ _ ?_
          simp only [ansD]
          rw [if_neg (fun z => ha z.1), hkb]
    | tie a b w =>
      cases w with
      | know =>
        simp only [encD, Wd3.s] at fin ⊢
        repeat' walk_at "w"
        refine i__law_two ?_
        repeat' walk_at "w"
        · next hc =>
          refine we_words ?_
          repeat' walk_at "w"
          refine .inl ⟨rfl, fin _ _ _ ?_⟩
          simp only [ansD]
          rw [if_pos (show (min a b, max a b) = p from hc)]
          
        · next hc =>
          refine fin _ _ _ ?_
          simp only [ansD]
          rw [if_neg (show ¬(min a b, max a b) = p from hc)]
          exact hkb.symm
      | part =>
        simp only [encD, Wd3.s] at fin ⊢
        repeat' walk_at "w"
        refine i__law_two ?_
        repeat' walk_at "w"
        · next hc =>
          refine we_words ?_
          repeat' walk_at "w"
          refine .inr (.inl ⟨rfl, fin _ _ _ ?_⟩)
          simp only [ansD]
          rw [if_pos (show (min a b, max a b) = p from hc)]
          
        · next hc =>
          refine fin _ _ _ ?_
          simp only [ansD]
          rw [if_neg (show ¬(min a b, max a b) = p from hc)]
          exact hkb.symm
      | turn =>
        simp only [encD, Wd3.s] at fin ⊢
        repeat' walk_at "w"
        refine i__law_two ?_
        repeat' walk_at "w"
        · next hc =>
          refine we_words ?_
          repeat' walk_at "w"
          refine .inr (.inr ⟨rfl, fin _ _ _ ?_⟩)
          simp only [ansD]
          rw [if_pos (show (min a b, max a b) = p from hc)]
          rw [hkb]
        · next hc =>
          refine fin _ _ _ ?_
          simp only [ansD]
          rw [if_neg (show ¬(min a b, max a b) = p from hc)]
          exact hkb.symm
  · obtain ⟨x3, x4, x5, x6, x7, rfl, rfl⟩ := hI
    rw [List.length_map, List.take_length]
    refine ⟨?_, rfl⟩
    repeat' walk_at "w"
    exact q
/-! done -/
theorem doneS_n (co : Co) (s : Scr) : (doneS co s).1 = co.1 := by
  unfold doneS
  induction s generalizing co with
  | nil => rfl
  | cons i s ih =>
    rw [List.foldl_cons, ih]
    cases i with
    | deed d => rfl
    | ask a b y n => exact fold_behind_n _ _
theorem doneS_snoc {co : Co} {s : Scr} {k : Nat} {i : Item} (h : s[k]? = some i) : doneS co (s.take (k + 1)) = stepI (doneS co (s.take k)) i := by
  unfold doneS
  rw [List.take_add_one, h, Option.toList_some, List.foldl_append]
  rfl
def W_done (lv : Nat) : List Sl → PK → Prop := fun ss Φ => ∃ (co : Co) (s : Scr), ss = [.d (encC co), .d (encS s)] ∧ co.1 ≤ 10 ∧ (∀ i ∈ s, IOk co.1 i) ∧ (lv = 0 → ∀ i ∈ s, isAsk i = false) ∧ Φ (encC (doneS co s))
theorem i_done {lv : Nat} {co : Co} {s : Scr} (h1 : co.1 ≤ 10) (h2 : ∀ i ∈ s, IOk co.1 i) (h3 : lv = 0 → ∀ i ∈ s, isAsk i = false) (h : Φ (encC (doneS co s))) : W_done lv [.d (encC co), .d (encS s)] Φ := ⟨co, s, rfl, h1, h2, h3, h⟩
theorem i_done_deeds {lv : Nat} {co : Co} {y : List Deed} (h1 : co.1 ≤ 10) (h2 : ∀ d ∈ y, DOk co.1 d) (h : Φ (encC (y.foldl behindD co))) : W_done lv [.d (encC co), .d (.tuple (y.map encD))] Φ := by
  rw [enc_deeds]
  refine ⟨co, y.map .deed, rfl, h1, fun i hi => ?_, fun _ i hi => ?_, ?_⟩
  · obtain ⟨d, hd, rfl⟩ := List.mem_map.mp hi
    exact h2 d hd
  · obtain ⟨d, hd, rfl⟩ := List.mem_map.mp hi
    rfl
  · rw [doneS_deeds]
    exact h
theorem w_done {lv : Nat} {Wr : List Sl → PK → Prop} (hr : lv ≠ 0 → Wr = W_done (lv - 1)) (h : W_done lv ss Φ) : WS C c (t__law_done C Wr W__law_knows W__law_behind) (startG n__law_done ss) (retP Φ) := by
  obtain ⟨co, s, rfl, hn, hs, h0, q⟩ := h
  unfold t__law_done
  repeat' walk_at "w"
  refine ws_forT encI [2] ?_
  repeat' walk_at "w"
  refine ⟨s, rfl, fun k Γ => ∃ x2, Γ = [.d (encC (doneS co (s.take k))), .d (encS s), x2], ⟨_, rfl⟩, fun k it Γ' hk hI => ?_, fun Γ' hI => ?_⟩
  · obtain ⟨x2, rfl⟩ := hI
    have hit := hs it (List.mem_of_getElem? hk)
    have hcn : (doneS co (s.take k)).1 = co.1 := doneS_n co _
    repeat' walk_at "w"
    cases it with
    | deed d =>
      refine iBf ?_
      repeat' walk_at "w"
      refine i__law_behind (d := d) (by omega) (by rw [hcn]; exact hit) ?_
      repeat' walk_at "w"
      refine ⟨.d (encI (.deed d)), ?_⟩
      rw [doneS_snoc hk]
      rfl
    | ask a b y m =>
      have hl : lv ≠ 0 := fun e => by
        have := h0 e _ (List.mem_of_getElem? hk)
        exact nomatch this
      have eW := hr hl
      subst eW
      refine iBt ?_
      simp only [encI]
      obtain ⟨_, _, _, h4, h5⟩ := hit
      repeat' walk_at "w"
      refine i__law_knows ?_
      obtain ⟨kb, hkb⟩ : ∃ kb, knows (doneS co (s.take k)).2 a b = kb := ⟨_, rfl⟩
      rw [hkb]
      cases kb with
      | true =>
        repeat' walk_at "w"
        refine i_done_deeds (by omega) (by rw [hcn]; exact h4) ?_
        repeat' walk_at "w"
        refine ⟨.d (encI (.ask a b y m)), ?_⟩
        rw [doneS_snoc hk]
        simp only [stepI]
        rw [if_pos hkb]
        rfl
      | false =>
        repeat' walk_at "w"
        refine i_done_deeds (by omega) (by rw [hcn]; exact h5) ?_
        repeat' walk_at "w"
        refine ⟨.d (encI (.ask a b y m)), ?_⟩
        rw [doneS_snoc hk]
        simp only [stepI]
        rw [hkb, if_neg Bool.false_ne_true]
        rfl
  · obtain ⟨x2, rfl⟩ := hI
    rw [List.take_length]
    repeat' walk_at "w"
    exact q
def W__law_parted : List Sl → PK → Prop := W_parted_in
theorem w__law_parted (h : W__law_parted ss Φ) : WS C c (t__law_parted C (W_done 1) W__law_pairs) (startG n__law_parted ss) (retP Φ) := by
  obtain ⟨co, scs, rfl, h1, h2, h3, q⟩ := h
  unfold t__law_parted
  repeat' walk_at "w"
  refine we_lcMapT encS (fun s => encC (doneS co s)) ?_
  repeat' walk_at "w"
  refine ⟨scs, rfl, by omega, fun s hs => ?_, ?_⟩
  · repeat' walk_at "w"
    exact i_done h1 (h3 s hs).1 (fun e => nomatch e) rfl
  · repeat' walk_at "w"
    refine we_lcFilT encP (fun p => !decide (endOf co scs p.1 = endOf co scs p.2)) encP ?_
    repeat' walk_at "w"
    refine i__law_pairs' (n := scs.length) (by rw [List.length_map]) (by omega) ?_
    repeat' walk_at "w"
    refine ⟨_, rfl, Nat.le_trans (prs_len (by omega)) (by decide), fun p hp => ?_, ?_⟩
    · obtain ⟨p1, p2, p3⟩ := mem_prs.mp hp
      repeat' walk_at "w"
      refine iT_ixL (endsAt p1 (by omega)) ?_
      repeat' walk_at "w"
      refine iT_ixL (endsAt (by omega) p3) ?_
      repeat' walk_at "w"
      refine ⟨rfl, fun _ => ?_⟩
      repeat' walk_at "w"
      rfl
    · repeat' walk_at "w"
      exact q
end
end DWC

section DWD
open PySem PySem.Spec PyProof.Rows L2
open PySem.W (AllAlike AllAlike.of dataLe dataLt alike alikeAll Sortable Sortable.tuples)
section
variable {C : Ct} {c : Option Addr} {ss : List Sl} {Φ : PK}
def W__law_starts : List Sl → PK → Prop := W_all_starts
theorem w__law_starts (h : W__law_starts ss Φ) : WS C c (t__law_starts C W__law_pairs) (startG n__law_starts ss) (retP Φ) := by
  obtain ⟨n, rfl, hn, q⟩ := h
  unfold t__law_starts
  repeat' walk_at "w"
  refine ws_forT encP [2] ?_
  repeat' walk_at "w"
  refine i__law_pairs (by omega) ?_
  repeat' walk_at "w"
  have h1 := lots_prs_len hn
  have h2 := lots_len6 (xs := prs n) (by omega)
  refine ⟨prs n, rfl, fun i Γ => ∃ x2, Γ = [.d (.int n), .d (.list ((lots ((prs n).take i)).map encT)), x2, .un], ⟨_, rfl⟩, fun i x Γ' hi hI => ?_, fun Γ' hI => ?_⟩
  · obtain ⟨x2, rfl⟩ := hI
    have hl2 : ((prs n).take i).length ≤ 6 := Nat.le_trans (List.take_sublist i (prs n)).length_le (by omega)
    repeat' walk_at "w"
    refine we_lcMapT encT (fun l => encT (l ++ [x])) ?_
    repeat' walk_at "w"
    refine ⟨lots ((prs n).take i), rfl, Nat.le_trans (lots_len6 hl2) (by decide), fun l hl3 => ?_, ?_⟩
    · repeat' walk_at "w"
      have := (lots_sub hl3).length_le
      refine addT_tup (by simp only [List.length_map, List.length_cons, List.length_nil]; omega) ?_
      rw [encT, List.map_append]
      rfl
    · have := lots_len6 hl2
      refine addT_lst (by simp only [List.length_map]; omega) ?_
      repeat' walk_at "w"
      refine ⟨.d (encP x), ?_⟩
      rw [List.take_add_one, hi, Option.toList_some, lots_snoc, List.map_append, List.map_map]
      rfl
  · obtain ⟨x2, rfl⟩ := hI
    rw [List.take_length]
    repeat' walk_at "w"
    refine we_lcMapT encT (fun t => encC (n, t)) ?_
    repeat' walk_at "w"
    refine ⟨srtOk_ties (by omega) (.inl (lots_head _)), ?_⟩
    rw [lots_sorted hn]
    repeat' walk_at "w"
    refine ⟨_, rfl, by omega, fun t ht => ?_, ?_⟩
    · repeat' walk_at "w"
      rfl
    · repeat' walk_at "w"
      unfold starts at q
      rw [List.map_map] at q
      exact q
def W__law_parted_at : List Sl → PK → Prop := fun ss Φ => ∃ (n : Nat) (st : List (Int × Int)) (scs : List Scr), ss = [.d (.int n), .d (encC (n, st)), .d (.tuple (scs.map encS))] ∧ StOk n st ∧ ScsOk n scs ∧ Φ (.list ((ptAt n st scs).map encP))
theorem i__law_parted_at {n : Nat} {st : List (Int × Int)} {scs : List Scr} (h1 : StOk n st) (h2 : ScsOk n scs) (h : Φ (.list ((ptAt n st scs).map encP))) : W__law_parted_at [.d (.int n), .d (encC (n, st)), .d (.tuple (scs.map encS))] Φ := ⟨n, st, scs, rfl, h1, h2, h⟩
theorem w__law_parted_at (h : W__law_parted_at ss Φ) : WS C c (t__law_parted_at C W__law_pairs W__law_parted) (startG n__law_parted_at ss) (retP Φ) := by
  obtain ⟨n, st, scs, rfl, hst, hsc, q⟩ := h
  unfold t__law_parted_at
  have hn2 := hst.n2
  have hl3 := hsc.l3
  refine ws_seq (ws_asgG [3, 4] ?_)
  repeat' walk_at "w"
  refine ws_forT encP [5] ?_
  repeat' walk_at "w"
  refine we_lcFilT encP (fun p => decide ((n : Int) ≤ p.2)) encP ?_
  repeat' walk_at "w"
  refine i__law_pairs' (n := n + 2) rfl (by omega) ?_
  repeat' walk_at "w"
  refine ⟨_, rfl, Nat.le_trans (prs_len (by omega)) (by decide), fun p hp => ?_, ?_⟩
  · repeat' walk_at "w"
    refine ⟨rfl, fun _ => ?_⟩
    repeat' walk_at "w"
    rfl
  repeat' walk_at "w"
  have hf5 : (freshP n).length ≤ 5 := freshP_len hn2
  have hll := lots_len6 (xs := freshP n) (by omega)
  refine ⟨freshP n, rfl, fun i Γ => ∃ x5, Γ = [.d (.int n), .d (encC (n, st)), .d (.tuple (scs.map encS)), .d (.list []), .d (.list ((lots ((freshP n).take i)).map encT)), x5, .un, .un], ⟨_, rfl⟩, fun i x Γ' hi hI => ?_, fun Γ' hI => ?_⟩
  · obtain ⟨x2, rfl⟩ := hI
    have hl2 : ((freshP n).take i).length ≤ 6 := Nat.le_trans (List.take_sublist i (freshP n)).length_le (by omega)
    repeat' walk_at "w"
    refine we_lcMapT encT (fun l => encT (l ++ [x])) ?_
    repeat' walk_at "w"
    refine ⟨lots ((freshP n).take i), rfl, Nat.le_trans (lots_len6 hl2) (by decide), fun l hl3 => ?_, ?_⟩
    · repeat' walk_at "w"
      have := (lots_sub hl3).length_le
      refine addT_tup (by simp only [List.length_map, List.length_cons, List.length_nil]; omega) ?_
      rw [encT, List.map_append]
      rfl
    · have := lots_len6 hl2
      refine addT_lst (by simp only [List.length_map]; omega) ?_
      repeat' walk_at "w"
      refine ⟨.d (encP x), ?_⟩
      rw [List.take_add_one, hi, Option.toList_some, lots_snoc, List.map_append, List.map_map]
      rfl
  · obtain ⟨x5, rfl⟩ := hI
    rw [List.take_length]
    repeat' walk_at "w"
    refine ws_forT encT [6] ?_
    repeat' walk_at "w"
    refine ⟨lots (freshP n), rfl, fun i Γ => ∃ (F : List (Int × Int)) (x6 : Sl), Γ = [.d (.int n), .d (encC (n, st)), .d (.tuple (scs.map encS)), .d (.list (F.map encP)), .d (.list ((lots (freshP n)).map encT)), x5, x6, .un] ∧ F.Nodup ∧ ∀ p, p ∈ F ↔ ∃ l ∈ (lots (freshP n)).take i, p ∈ ptd (view n (st ++ l)) scs,
      ⟨[], _, rfl, List.nodup_nil, fun p => by simp⟩, fun i l Γ' hi hI => ?_, fun Γ' hI => ?_⟩
    · obtain ⟨F, x6, rfl, hnd, hmem⟩ := hI
      have hl := List.mem_of_getElem? hi
      obtain ⟨a1, a2, a3⟩ := hst.app hl
      repeat' walk_at "w"
      refine we_lcFilT encP (fun p => !decide (p ∈ F)) encP ?_
      repeat' walk_at "w"
      refine addT_tup (show (st.map encP).length + (l.map encP).length ≤ 10000 by rw [List.length_map, List.length_map]; rw [List.length_append] at a3; omega) ?_
      rw [← List.map_append]
      repeat' walk_at "w"
      refine ⟨srtOk_pairs (Nat.le_trans a3 (by decide)), ?_⟩
      repeat' walk_at "w"
      rw [srt_those a1 a2]
      refine i_parted_in (co := view n (st ++ l)) (by rw [view_n]; omega) hl3 (fun s hs => (hsc.ok s hs).rok (by rw [view_n]; omega)) ?_
      repeat' walk_at "w"
      have lenp : (ptd (view n (st ++ l)) scs).length ≤ 3 := prs_le3 hl3 ((prs_nodup _).sublist List.filter_sublist) fun p hp => ptd_prs hp
      have lenF : F.length ≤ 3 := prs_le3 hl3 hnd fun p hp => by
        obtain ⟨u, _, hu⟩ := (hmem p).mp hp
        exact ptd_prs hu
      refine ⟨_, rfl, by omega, fun p hp => ?_, ?_⟩
      · repeat' walk_at "w"
        refine ⟨rfl, fun _ => ?_⟩
        repeat' walk_at "w"
        rfl
      · have h6 := List.length_filter_le (fun p => !decide (p ∈ F)) (ptd (view n (st ++ l)) scs)
        refine addT_lst (by simp only [List.length_map]; omega) ?_
        repeat' walk_at "w"
        rw [← List.map_append]
        refine ⟨_, _, rfl, List.nodup_append.mpr ⟨hnd, ((prs_nodup _).sublist List.filter_sublist).sublist List.filter_sublist, fun a ha b hb e => ?_⟩, fun p => ?_⟩
        · have := (List.mem_filter.mp hb).2
          rw [← e, decide_eq_true ha] at this
          exact nomatch this
        · rw [List.mem_append, hmem, List.mem_filter, List.take_add_one, hi, Option.toList_some]
          simp only [List.mem_append, List.mem_singleton, Bool.not_eq_true', decide_eq_false_iff_not]
          constructor
          · rintro (⟨u, hu, hp⟩ | ⟨hp, _⟩)
            · exact ⟨u, .inl hu, hp⟩
            · exact ⟨l, .inr rfl, hp⟩
          · rintro ⟨u, hu | rfl, hp⟩
            · exact .inl ⟨u, hu, hp⟩
            · by_cases z : p ∈ F
              · exact .inl ((hmem p).mp z)
              · exact .inr ⟨hp, z⟩
    · obtain ⟨F, x6, rfl, hnd, hmem⟩ := hI
      rw [List.take_length] at hmem
      repeat' walk_at "w"
      have lenF : F.length ≤ 3 := prs_le3 hl3 hnd fun p hp => by
        obtain ⟨u, _, hu⟩ := (hmem p).mp hp
        exact ptd_prs hu
      refine ⟨srtOk_pairs (by omega), ?_⟩
      rw [srt_pairs hnd (those_sorted _ _) fun p => mem_ptAt.trans (hmem p).symm]
      repeat' walk_at "w"
      exact q
end
end DWD

section DWE
open PySem PySem.Spec PyProof.Rows L2
open PySem.W (AllAlike AllAlike.of dataLe dataLt alike alikeAll Sortable Sortable.tuples)
section
variable {C : Ct} {c : Option Addr} {ss : List Sl} {Φ : PK}
abbrev encK (k : Nat) : PyData := .int (0 + (k : Int))
abbrev encKs (l : List Nat) : PyData := .tuple (l.map encK)
abbrev encKl (l : List Nat) : PyData := .tuple [.int (l.length : Nat), encKs l]
def lotsK (n : Nat) : List (List Nat) := lots (List.range (starts n).length)
def sel (n : Nat) (l : List Nat) : List Co := l.map fun k => (starts n).getD k (0, [])
theorem lotsK1 : lotsK 1 = [[], [0]] := by decide +kernel
theorem lotsK2 : lotsK 2 = [[], [0], [1], [0, 1]] := by decide +kernel
theorem lotsK_srt {n : Nat} (hn : n = 1 ∨ n = 2) : SrtOk ((lotsK n).map encKl) ∧ srt ((lotsK n).map encKl) = (lotsK n).map encKl := by
  rcases hn with rfl | rfl
  · rw [lotsK1]
    refine ⟨⟨rfl, ?_, .inl (Sortable.tuples fun b => ⟨_, _, rfl⟩), by decide, ?_⟩, srt_self ?_⟩
    · show ∀ d, d ∈ _ → ∀ d', d' ∈ _ → _
      decide +kernel
    · decide +kernel
    · decide +kernel
  · rw [lotsK2]
    refine ⟨⟨rfl, ?_, .inl (Sortable.tuples fun b => ⟨_, _, rfl⟩), by decide, ?_⟩, srt_self ?_⟩
    · show ∀ d, d ∈ _ → ∀ d', d' ∈ _ → _
      decide +kernel
    · decide +kernel
    · decide +kernel
theorem lotsK_ok {n : Nat} (hn : n = 1 ∨ n = 2) : (lotsK n).length ≤ 4 ∧ ∀ l ∈ lotsK n, l.length ≤ 2 ∧ ∀ k ∈ l, k < (starts n).length := by
  rcases hn with rfl | rfl
  · rw [lotsK1]
    decide +kernel
  · rw [lotsK2]
    decide +kernel
theorem sel_mem {n : Nat} {l : List Nat} (h : ∀ k ∈ l, k < (starts n).length) : ∀ x ∈ sel n l, x ∈ starts n := by
  intro x hx
  obtain ⟨k, hk, rfl⟩ := List.mem_map.mp hx
  rw [List.getD_eq_getElem?_getD, List.getElem?_eq_getElem (h k hk)]
  exact List.getElem_mem _
theorem least_ret {n m t : Nat} {g : Co → List (Int × Int)} {l : List Nat} (hn : n = 1 ∨ n = 2) (hp : PdOk m (starts n) g) (hs : ∀ x ∈ starts n, (g x).Pairwise ltP) (hl : (lotsK n)[t]? = some l)
    (he : allOf m g (sel n l) = allOf m g (starts n)) (h1 : ∀ l' ∈ (lotsK n).take t, allOf m g (sel n l') ≠ allOf m g (starts n)) : sel n l = fewG n m g := by
  rcases hn with rfl | rfl
  · rw [lotsK1] at hl h1
    match t, hl with
    | 0, hl =>
      cases hl
      exact few_ret (i := 0) (j := 0) (.inl rfl) hp hs (by decide) rfl he (fun k hk => absurd hk (Nat.not_lt_zero _)) fun l' hl' => nomatch hl'
    | 1, hl =>
      cases hl
      refine few_ret (i := 1) (j := 0) (.inl rfl) hp hs (by decide) (by rw [lotsC1_1]; rfl) he (fun k hk l' hl' => ?_) fun l' hl' => nomatch hl'
      have : k = 0 := by omega
      subst this
      rw [lotsC1_0, List.mem_singleton] at hl'
      subst hl'
      exact h1 [] (by simp)
  · rw [lotsK2] at hl h1
    match t, hl with
    | 0, hl =>
      cases hl
      exact few_ret (i := 0) (j := 0) (.inr rfl) hp hs (by decide) rfl he (fun k hk => absurd hk (Nat.not_lt_zero _)) fun l' hl' => nomatch hl'
    | 1, hl =>
      cases hl
      refine few_ret (i := 1) (j := 0) (.inr rfl) hp hs (by decide) (by rw [lotsC2_1]; rfl) he (fun k hk l' hl' => ?_) fun l' hl' => nomatch hl'
      have : k = 0 := by omega
      subst this
      rw [lotsC2_0, List.mem_singleton] at hl'
      subst hl'
      exact h1 [] (by simp)
    | 2, hl =>
      cases hl
      refine few_ret (i := 1) (j := 1) (.inr rfl) hp hs (by decide) (by rw [lotsC2_1]; rfl) he (fun k hk l' hl' => ?_) fun l' hl' => ?_
      · have : k = 0 := by omega
        subst this
        rw [lotsC2_0, List.mem_singleton] at hl'
        subst hl'
        exact h1 [] (by simp)
      · rw [lotsC2_1] at hl'
        have : l' = [(2, [])] := by simpa using hl'
        subst this
        exact h1 [0] (by simp)
    | 3, hl =>
      cases hl
      refine few_ret (i := 2) (j := 0) (.inr rfl) hp hs (by decide) (by rw [lotsC2_2]; rfl) he (fun k hk l' hl' => ?_) fun l' hl' => nomatch hl'
      rcases (by omega : k = 0 ∨ k = 1) with rfl | rfl
      · rw [lotsC2_0, List.mem_singleton] at hl'
        subst hl'
        exact h1 [] (by simp)
      · rw [lotsC2_1] at hl'
        have : l' = [(2, [])] ∨ l' = [(2, [(0, 1)])] := by simpa using hl'
        rcases this with rfl | rfl
        · exact h1 [0] (by simp)
        · exact h1 [1] (by simp)
theorem least_end {n m : Nat} {g : Co → List (Int × Int)} (hn : n = 1 ∨ n = 2) (h1 : ∀ l' ∈ lotsK n, allOf m g (sel n l') ≠ allOf m g (starts n)) : False := by
  rcases hn with rfl | rfl
  · rw [lotsK1] at h1
    exact h1 [0] (by simp) rfl
  · rw [lotsK2] at h1
    exact h1 [0, 1] (by simp) rfl
theorem map_getK {β : Type} {n k : Nat} (f : Co → β) (hk : k < (starts n).length) : atI ((starts n).map f) (0 + (k : Int)) = some (f ((starts n).getD k (0, []))) := by
  refine atI_natk (k := k) (by omega) ?_
  rw [List.getElem?_map, List.getElem?_eq_getElem hk, Option.map_some, List.getD_eq_getElem?_getD, List.getElem?_eq_getElem hk]
  rfl
def W__law_least : List Sl → PK → Prop := W_telling_starts
theorem w__law_least (h : W__law_least ss Φ) : WS C c (t__law_least C W__law_starts W__law_parted_at) (startG n__law_least ss) (retP Φ) := by
  obtain ⟨n, scs, rfl, hn, hsc, q⟩ := h
  unfold t__law_least
  have hsl := starts_len hn
  have hpd := ptAt_pd hn hsc
  repeat' walk_at "w"
  refine i_all_starts hn ?_
  repeat' walk_at "w"
  refine we_lcMapT encC (fun x => encL2 (ptAt n x.2 scs)) ?_
  repeat' walk_at "w"
  refine ⟨_, rfl, by omega, fun x hx => ?_, ?_⟩
  · obtain ⟨a, st⟩ := x
    obtain ⟨rfl, hst⟩ := start_ok hn hx
    repeat' walk_at "w"
    exact i__law_parted_at hst hsc rfl
  repeat' walk_at "w"
  refine we_sumset (m := scs.length) ?_
  have eG : ((starts n).map fun x => encL2 (ptAt n x.2 scs)) = ((starts n).map fun x => ptAt n x.2 scs).map encL2 := by
    rw [List.map_map]
    rfl
  have gl3 : ∀ x, (ptAt n x scs).length ≤ 3 := fun x => prs_le3 hsc.l3 ((prs_nodup _).sublist List.filter_sublist) fun p hp => (mem_those.mp hp).1
  have fl : ∀ xs : List Co, xs.length ≤ 4 → (xs.map fun x => ptAt n x.2 scs).flatten.length ≤ 12 := fun xs hxl => by
    have h := flat_len (L := xs.map fun x => ptAt n x.2 scs) fun l hl => by
      obtain ⟨x, hx, rfl⟩ := List.mem_map.mp hl
      exact gl3 _
    rw [List.length_map] at h
    omega
  have sumI : ∀ (xs : List Co) (Ψ : PK), xs.length ≤ 4 → Ψ (.list ((xs.map fun x => ptAt n x.2 scs).flatten.map encP)) → sumLT [.list (xs.map fun x => encL2 (ptAt n x.2 scs)), .list []] Ψ := by
    intro xs Ψ hxl hΨ
    have e : (xs.map fun x => encL2 (ptAt n x.2 scs)) = (xs.map fun x => ptAt n x.2 scs).map encL2 := by
      rw [List.map_map]
      rfl
    have e2 : ((xs.map fun x => ptAt n x.2 scs).map fun l => l.map encP).flatten = (xs.map fun x => ptAt n x.2 scs).flatten.map encP := by
      rw [List.map_flatten]
    have := fl xs hxl
    exact ⟨(xs.map fun x => ptAt n x.2 scs).map fun l => l.map encP, by rw [e]; exact listsOf_map _, by rw [e2, List.length_map, List.length_nil]; omega, by rw [e2]; exact hΨ⟩
  have mL : ∀ (xs : List Co), ∀ l ∈ xs.map fun x => ptAt n x.2 scs, ∀ p ∈ l, p ∈ prs scs.length := fun xs l hl p hpl => by
    obtain ⟨x, hx, rfl⟩ := List.mem_map.mp hl
    exact (mem_those.mp hpl).1
  have e3 : ∀ xs : List Co, (those scs.length fun p => (xs.map fun x => ptAt n x.2 scs).any fun l => decide (p ∈ l)) = allOf scs.length (fun x => ptAt n x.2 scs) xs := fun xs => by
    have : (fun p : Int × Int => (xs.map fun x => ptAt n x.2 scs).any fun l => decide (p ∈ l)) = fun p => xs.any fun x => decide (p ∈ ptAt n x.2 scs) := funext fun p => any_map_co (fun x => ptAt n x.2 scs) xs p
    rw [this]
    rfl
  repeat' walk_at "w"
  refine sumI (starts n) _ (by omega) ⟨_, rfl, hsc.l3, mL (starts n), by have := fl (starts n) (by omega); omega, ?_⟩
  rw [e3]
  repeat' walk_at "w"
  refine ws_forT encK [6] ?_
  repeat' walk_at "w"
  rw [List.length_map]
  obtain ⟨hk4, hkk⟩ := lotsK_ok hn
  refine ⟨_, rfl, by omega, by omega, List.range (starts n).length, rfl, fun i Γ => ∃ x6, Γ = [.d (.int n), .d (.tuple (scs.map encS)), .d (.list ((starts n).map encC)), .d (.list ((starts n).map fun x => encL2 (ptAt n x.2 scs))), .d (.list ((allOf scs.length (fun x => ptAt n x.2 scs) (starts n)).map encP)), .d (.list ((lots ((List.range (starts n).length).take i)).map encKs)), x6, .un, .un, .un], ⟨_, rfl⟩, fun i x Γ' hi hI => ?_, fun Γ' hI => ?_⟩
  · obtain ⟨x6, rfl⟩ := hI
    have hl2 : ((List.range (starts n).length).take i).length ≤ 6 := Nat.le_trans (List.take_sublist i _).length_le (by rw [List.length_range]; omega)
    repeat' walk_at "w"
    refine we_lcMapT encKs (fun l => encKs (l ++ [x])) ?_
    repeat' walk_at "w"
    refine ⟨lots ((List.range (starts n).length).take i), rfl, Nat.le_trans (lots_len6 hl2) (by decide), fun l hl3 => ?_, ?_⟩
    · repeat' walk_at "w"
      have := (lots_sub hl3).length_le
      refine addT_tup (by simp only [List.length_map, List.length_cons, List.length_nil]; omega) ?_
      rw [encKs, List.map_append]
      rfl
    · have := lots_len6 hl2
      refine addT_lst (by simp only [List.length_map]; omega) ?_
      repeat' walk_at "w"
      refine ⟨.d (encK x), ?_⟩
      rw [List.take_add_one, hi, Option.toList_some, lots_snoc, List.map_append, List.map_map]
      rfl
  · obtain ⟨x6, rfl⟩ := hI
    rw [List.take_length]
    repeat' walk_at "w"
    refine ws_forT encKl [8, 7] ?_
    repeat' walk_at "w"
    refine we_lcMapT encKs encKl ?_
    repeat' walk_at "w"
    refine ⟨lotsK n, rfl, by omega, fun l hl => ?_, ?_⟩
    · repeat' walk_at "w"
      rw [List.length_map]
    obtain ⟨o1, o2⟩ := lotsK_srt hn
    repeat' walk_at "w"
    refine ⟨o1, ?_⟩
    rw [o2]
    repeat' walk_at "w"
    refine ⟨lotsK n, rfl, fun i Γ => ∃ x6 x7 x8, Γ = [.d (.int n), .d (.tuple (scs.map encS)), .d (.list ((starts n).map encC)), .d (.list ((starts n).map fun x => encL2 (ptAt n x.2 scs))), .d (.list ((allOf scs.length (fun x => ptAt n x.2 scs) (starts n)).map encP)), .d (.list ((lotsK n).map encKs)), x6, x7, x8, .un] ∧ ∀ l' ∈ (lotsK n).take i, allOf scs.length (fun x => ptAt n x.2 scs) (sel n l') ≠ allOf scs.length (fun x => ptAt n x.2 scs) (starts n),
      ⟨_, _, _, rfl, fun l' hl' => nomatch hl'⟩, fun i l Γ' hi hI => ?_, fun Γ' hI => ?_⟩
    · obtain ⟨x6, x7, x8, rfl, hI⟩ := hI
      obtain ⟨hll, hlk⟩ := hkk l (List.mem_of_getElem? hi)
      repeat' walk_at "w"
      refine we_sumset (m := scs.length) ?_
      repeat' walk_at "w"
      refine we_lcMapT encK (fun k => encL2 (ptAt n ((starts n).getD k (0, [])).2 scs)) ?_
      repeat' walk_at "w"
      refine ⟨l, rfl, by omega, fun k hk => ?_, ?_⟩
      · repeat' walk_at "w"
        exact iT_ixL (map_getK (fun x => encL2 (ptAt n x.2 scs)) (hlk k hk)) rfl
      repeat' walk_at "w"
      have e4 : (l.map fun k => encL2 (ptAt n ((starts n).getD k (0, [])).2 scs)) = (sel n l).map fun x => encL2 (ptAt n x.2 scs) := by
        unfold sel
        rw [List.map_map]
        rfl
      rw [e4]
      have hsl4 : (sel n l).length ≤ 4 := by
        unfold sel
        rw [List.length_map]
        omega
      refine sumI (sel n l) _ hsl4 ⟨_, rfl, hsc.l3, mL (sel n l), by have := fl (sel n l) hsl4; omega, ?_⟩
      rw [e3]
      repeat' walk_at "w"
      · next hc =>
        refine we_lcMapT encK (fun k => encC ((starts n).getD k (0, []))) ?_
        repeat' walk_at "w"
        refine ⟨l, rfl, by omega, fun k hk => ?_, ?_⟩
        · repeat' walk_at "w"
          exact iT_ixL (map_getK encC (hlk k hk)) rfl
        repeat' walk_at "w"
        have e5 : (l.map fun k => encC ((starts n).getD k (0, []))) = (sel n l).map encC := by
          unfold sel
          rw [List.map_map]
          rfl
        rw [e5, least_ret hn hpd (fun x _ => those_sorted _ _) hi hc hI, ← few_fewG hn]
        exact q
      · next hc =>
        refine ⟨_, _, _, rfl, fun l' hl' => ?_⟩
        rw [List.take_add_one, hi, Option.toList_some] at hl'
        rcases List.mem_append.mp hl' with hl' | hl'
        · exact hI l' hl'
        · rw [List.mem_singleton] at hl'
          rw [hl']
          exact hc
    · obtain ⟨x6, x7, x8, rfl, hI⟩ := hI
      rw [List.take_length] at hI
      exact (least_end hn hI).elim
end
end DWE

section DWF
open PySem PySem.Spec PyProof.Rows L2
section
variable {C : Ct} {c : Option Addr} {ss : List Sl} {Φ : PK}
def W__law_roll : List Sl → PK → Prop := fun ss Φ => ∃ m : Int, ss = [.cup, .d (.int m)] ∧ 1 ≤ m ∧ m ≤ 1000 ∧ ∀ z : Int, 0 ≤ z → z < m → Φ (.int z)
theorem i__law_roll {m : Int} (h1 : 1 ≤ m) (h2 : m ≤ 1000) (h : ∀ z : Int, 0 ≤ z → z < m → Φ (.int z)) : W__law_roll [.cup, .d (.int m)] Φ := ⟨m, rfl, h1, h2, h⟩
theorem fmod_ge {a b : Int} (h : 0 < b) : 0 ≤ a.fmod b := by
  rw [Int.fmod_eq_emod_of_nonneg a (by omega)]
  exact Int.emod_nonneg a (by omega)
theorem fmod_lt {a b : Int} (h : 0 < b) : a.fmod b < b := by
  rw [Int.fmod_eq_emod_of_nonneg a (by omega)]
  exact Int.emod_lt_of_pos a h
theorem w__law_roll (h : W__law_roll ss Φ) : WS C c (t__law_roll C) (startG n__law_roll ss) (retP Φ) := by
  obtain ⟨m, rfl, h1, h2, q⟩ := h
  unfold t__law_roll
  have hm : CDivN 0 m := ⟨by omega, by omega⟩
  repeat' walk_at "w"
  refine we_cupget rfl (.inl rfl) fun z _ => ?_
  repeat' walk_at "w"
  · refine we_cupget rfl (.inl rfl) fun z _ => ?_
    repeat' walk_at "w"
    refine iT_mod (by omega) ?_
    repeat' walk_at "w"
    refine ws_cupset rfl (.inl rfl) ?_
    repeat' walk_at "w"
    refine we_cupget rfl (.inl rfl) fun z2 _ => ?_
    repeat' walk_at "w"
    refine iT_div hm ⟨_, rfl, fun e => absurd e (by decide), ?_⟩
    repeat' walk_at "w"
    exact q _ (fmod_ge (by omega)) (fmod_lt (by omega))
  · refine ws_cupset rfl (.inr rfl) ?_
    repeat' walk_at "w"
    refine we_cupget rfl (.inr rfl) fun z2 hz2 => ?_
    obtain ⟨a1, a2⟩ := hz2 rfl
    have a2 : z2 < 1099511627776 := a2
    repeat' walk_at "w"
    refine iT_mul' (by omega) (by omega) ?_
    repeat' walk_at "w"
    refine iT_mod (by decide) ⟨_, rfl, fun _ => ⟨fmod_ge (by decide), Int.lt_trans (fmod_lt (by decide)) (by decide)⟩, ?_⟩
    repeat' walk_at "w"
    refine we_cupget rfl (.inr rfl) fun z3 hz3 => ?_
    obtain ⟨b1, b2⟩ := hz3 rfl
    have b2 : z3 < 1099511627776 := b2
    repeat' walk_at "w"
    refine we_cupget rfl (.inr rfl) fun z4 hz4 => ?_
    repeat' walk_at "w"
    refine iT_mul' (by omega) (by omega) ?_
    repeat' walk_at "w"
    refine iT_mod (by decide) ?_
    repeat' walk_at "w"
    refine iT_div ⟨by decide, by decide⟩ ?_
    repeat' walk_at "w"
    refine iT_mod (by omega) ?_
    repeat' walk_at "w"
    exact q _ (fmod_ge (by omega)) (fmod_lt (by omega))
def W__law_some : List Sl → PK → Prop := fun ss Φ => ∃ ds : List PyData, ss = [.cup, .d (.list ds)] ∧ 1 ≤ ds.length ∧ ds.length ≤ 1000 ∧ ∀ d ∈ ds, Φ d
theorem i__law_some {ds : List PyData} (h1 : 1 ≤ ds.length) (h2 : ds.length ≤ 1000) (h : ∀ d ∈ ds, Φ d) : W__law_some [.cup, .d (.list ds)] Φ := ⟨ds, rfl, h1, h2, h⟩
theorem w__law_some (h : W__law_some ss Φ) : WS C c (t__law_some C W__law_roll) (startG n__law_some ss) (retP Φ) := by
  obtain ⟨ds, rfl, h1, h2, q⟩ := h
  unfold t__law_some
  repeat' walk_at "w"
  refine i__law_roll (by omega) (by omega) fun z hz1 hz2 => ?_
  have hk : z.toNat < ds.length := by omega
  refine iT_ixL (atI_natk (k := z.toNat) (by omega) (List.getElem?_eq_getElem hk)) ?_
  repeat' walk_at "w"
  exact q _ (List.getElem_mem _)
def W__law_answers : List Sl → PK → Prop := fun ss Φ => ∃ n : Nat, ss = [.cup, .d (.int n)] ∧ n ≤ 10 ∧ ∀ xs : List Int, bitsOk xs n → Φ (.tuple (xs.map PyData.int))
theorem i__law_answers {n : Nat} {m : Int} (e : m = n) (h1 : n ≤ 10) (h : ∀ xs : List Int, bitsOk xs n → Φ (.tuple (xs.map PyData.int))) : W__law_answers [.cup, .d (.int m)] Φ := ⟨n, by rw [e], h1, h⟩
theorem w__law_answers (h : W__law_answers ss Φ) : WS C c (t__law_answers C W__law_roll) (startG n__law_answers ss) (retP Φ) := by
  obtain ⟨n, rfl, h1, q⟩ := h
  unfold t__law_answers
  repeat' walk_at "w"
  refine we_lcT encK ?_
  repeat' walk_at "w"
  refine ⟨n, rfl, by omega, by omega, List.range n, rfl, by rw [List.length_range]; omega, fun i acc => ∃ xs : List Int, acc = xs.map PyData.int ∧ bitsOk xs i, ⟨[], rfl, rfl, fun x hx => nomatch hx⟩, fun i x acc hi hI => ?_, fun acc hI => ?_⟩
  · obtain ⟨xs, rfl, hl, hb⟩ := hI
    repeat' walk_at "w"
    refine i__law_roll (by decide) (by decide) fun z hz1 hz2 => ?_
    refine ⟨xs ++ [z], by rw [List.map_append]; rfl, by rw [List.length_append, hl]; rfl, fun y hy => ?_⟩
    rcases List.mem_append.mp hy with hy | hy
    · exact hb y hy
    · rw [List.mem_singleton] at hy
      rw [hy]
      omega
  · obtain ⟨xs, rfl, hb⟩ := hI
    rw [List.length_range] at hb
    repeat' walk_at "w"
    exact q xs hb
end
end DWF

section DWG
open PySem PySem.Spec PyProof.Rows L2
section
variable {C : Ct} {c : Option Addr} {ss : List Sl} {Φ : PK}
def W__law_deed : List Sl → PK → Prop := fun ss Φ => ∃ n : Nat, ss = [.cup, .d (.int n)] ∧ (n = 1 ∨ n = 2) ∧ ∀ d : Deed, DOk n d → Φ (encD d)
theorem i__law_deed {n : Nat} (h1 : n = 1 ∨ n = 2) (h : ∀ d : Deed, DOk n d → Φ (encD d)) : W__law_deed [.cup, .d (.int n)] Φ := ⟨n, rfl, h1, h⟩
theorem mem_ans {L : List (List Int)} {n : Nat} {P : PyData → Prop} (hL : ∀ an ∈ L, bitsOk an n) (h : ∀ an, bitsOk an n → P (.tuple (an.map PyData.int))) : ∀ d ∈ L.map fun an => PyData.tuple (an.map PyData.int), P d := fun d hd => by
  obtain ⟨an, ha, rfl⟩ := List.mem_map.mp hd
  exact h an (hL an ha)
/-- range(n) less one -/
theorem others {n : Nat} {z : Int} (hn : n = 2) (hz1 : 0 ≤ z) (hz2 : z < n) : 1 ≤ (((List.range n).filter fun (k : Nat) => !decide (0 + (k : Int) = z)).map encK).length ∧
    ∀ d ∈ ((List.range n).filter fun (k : Nat) => !decide (0 + (k : Int) = z)).map encK, ∃ y : Int, d = .int y ∧ 0 ≤ y ∧ y < n ∧ z ≠ y := by
  subst hn
  constructor
  · rw [List.length_map]
    refine List.length_pos_iff.mpr fun e => ?_
    rw [List.filter_eq_nil_iff] at e
    rcases (by omega : z = 0 ∨ z = 1) with rfl | rfl
    · exact absurd (e 1 (by decide)) (by decide)
    · exact absurd (e 0 (by decide)) (by decide)
  · intro d hd
    obtain ⟨k, hk, rfl⟩ := List.mem_map.mp hd
    obtain ⟨hk1, hk2⟩ := List.mem_filter.mp hk
    have hk1 := List.mem_range.mp hk1
    refine ⟨0 + (k : Int), rfl, by omega, by omega, fun e => ?_⟩
    rw [← e, decide_eq_true rfl] at hk2
    exact nomatch hk2
theorem w__law_deed (h : W__law_deed ss Φ) : WS C c (t__law_deed C W__law_roll W__law_some W__law_answers) (startG n__law_deed ss) (retP Φ) := by
  obtain ⟨n, rfl, hn, q⟩ := h
  unfold t__law_deed
  repeat' walk_at "w"
  refine i__law_roll (by omega) (by omega) fun z hz1 hz2 => ?_
  repeat' walk_at "w"
  · refine i__law_answers (n := 6) rfl (by decide) fun a1 ha1 => ?_
    repeat' walk_at "w"
    refine i__law_answers (n := 6) rfl (by decide) fun a2 ha2 => ?_
    repeat' walk_at "w"
    refine i__law_answers (n := 6) rfl (by decide) fun a3 ha3 => ?_
    repeat' walk_at "w"
    refine addT_lst (Nat.le_of_ble_eq_true rfl) ?_
    repeat' walk_at "w"
    refine i__law_some (Nat.le_of_ble_eq_true rfl) (Nat.le_of_ble_eq_true rfl) fun d hd => ?_
    have hd2 : d ∈ ([[0, 0, 1, 1, 1, 1], [0, 0, 0, 1, 1, 0], [1, 0, 0, 1, 1, 1], [0, 0, 1, 1, 1, 0], [1, 1, 1, 0, 0, 0], [0, 0, 0, 1, 1, 1], [0, 1, 0, 0, 1, 0], a1, a2, a3] : List (List Int)).map fun an => PyData.tuple (an.map PyData.int) := hd
    obtain ⟨an, hL, rfl⟩ := List.mem_map.mp hd2
    have hb : bitsOk an 6 := by
      simp only [List.mem_cons, List.not_mem_nil, or_false] at hL
      rcases hL with rfl | rfl | rfl | rfl | rfl | rfl | rfl | rfl | rfl | rfl
      all_goals first
        | assumption
        | exact ⟨rfl, by decide⟩
    repeat' walk_at "w"
    exact q (.pairs z an) ⟨⟨hz1, hz2⟩, hb⟩
  · refine i__law_roll (by omega) (by omega) fun y hy1 hy2 => ?_
    repeat' walk_at "w"
    · refine i__law_answers (n := 6) rfl (by decide) fun a1 ha1 => ?_
      repeat' walk_at "w"
      refine i__law_answers (n := 6) rfl (by decide) fun a2 ha2 => ?_
      repeat' walk_at "w"
      refine i__law_answers (n := 6) rfl (by decide) fun a3 ha3 => ?_
      repeat' walk_at "w"
      refine addT_lst (Nat.le_of_ble_eq_true rfl) ?_
      repeat' walk_at "w"
      refine i__law_some (Nat.le_of_ble_eq_true rfl) (Nat.le_of_ble_eq_true rfl) fun d hd => ?_
      have hd2 : d ∈ ([[0, 0, 1, 1, 1, 1], [0, 0, 0, 1, 1, 0], [1, 0, 0, 1, 1, 1], [0, 0, 1, 1, 1, 0], [1, 1, 1, 0, 0, 0], [0, 0, 0, 1, 1, 1], [0, 1, 0, 0, 1, 0], a1, a2, a3] : List (List Int)).map fun an => PyData.tuple (an.map PyData.int) := hd
      obtain ⟨an, hL, rfl⟩ := List.mem_map.mp hd2
      have hb : bitsOk an 6 := by
        simp only [List.mem_cons, List.not_mem_nil, or_false] at hL
        rcases hL with rfl | rfl | rfl | rfl | rfl | rfl | rfl | rfl | rfl | rfl
        all_goals first
          | assumption
          | exact ⟨rfl, by decide⟩
      repeat' walk_at "w"
      exact q (.pairs z an) ⟨⟨hz1, hz2⟩, hb⟩
    · next hc1 hc2 =>
      have hn2 : n = 2 := by omega
      refine we_lcFilT encK (fun (k : Nat) => !decide (0 + (k : Int) = z)) encK ?_
      repeat' walk_at "w"
      refine ⟨n, rfl, by omega, by omega, List.range n, rfl, by rw [List.length_range]; omega, fun k hk => ?_, ?_⟩
      · repeat' walk_at "w"
        refine ⟨rfl, fun _ => ?_⟩
        repeat' walk_at "w"
        rfl
      repeat' walk_at "w"
      obtain ⟨o1, o2⟩ := others hn2 hz1 hz2
      have o3 := List.length_filter_le (fun (k : Nat) => !decide (0 + (k : Int) = z)) (List.range n)
      rw [List.length_range] at o3
      refine i__law_some o1 (by rw [List.length_map]; omega) fun d hd => ?_
      obtain ⟨u, rfl, u1, u2, u3⟩ := o2 d hd
      repeat' walk_at "w"
      refine i__law_roll (by decide) (by decide) fun v hv1 hv2 => ?_
      repeat' walk_at "w"
      · refine i__law_answers (n := 4) rfl (by decide) fun a1 ha1 => ?_
        repeat' walk_at "w"
        refine i__law_answers (n := 4) rfl (by decide) fun a2 ha2 => ?_
        repeat' walk_at "w"
        refine i__law_some (Nat.le_of_ble_eq_true rfl) (Nat.le_of_ble_eq_true rfl) fun d hd => ?_
        have hd2 : d ∈ ([[0, 1, 0, 1], [0, 1, 1, 0], [0, 1, 1, 1], [0, 0, 0, 1], [0, 0, 1, 1], a1, a2] : List (List Int)).map fun an => PyData.tuple (an.map PyData.int) := hd
        obtain ⟨an, hL, rfl⟩ := List.mem_map.mp hd2
        have hb : bitsOk an 4 := by
          simp only [List.mem_cons, List.not_mem_nil, or_false] at hL
          rcases hL with rfl | rfl | rfl | rfl | rfl | rfl | rfl
          all_goals first
            | assumption
            | exact ⟨rfl, by decide⟩
        repeat' walk_at "w"
        exact q (.takes z u an) ⟨⟨hz1, hz2⟩, ⟨u1, u2⟩, u3, hb⟩
      · refine i__law_some (Nat.le_of_ble_eq_true rfl) (Nat.le_of_ble_eq_true rfl) fun d hd => ?_
        have hd2 : d ∈ ([Wd3.know, Wd3.part, Wd3.turn] : List Wd3).map fun x => PyData.str x.s := hd
        obtain ⟨x, _, rfl⟩ := List.mem_map.mp hd2
        repeat' walk_at "w"
        exact q (.tie z u x) ⟨⟨hz1, hz2⟩, ⟨u1, u2⟩, u3⟩
/-! items -/
theorem deeds_ok {n : Nat} {ds : List Deed} (h : ∀ d ∈ ds, DOk n d) : ∀ i ∈ ds.map Item.deed, IOk n i := fun i hi => by
  obtain ⟨d, hd, rfl⟩ := List.mem_map.mp hi
  exact h d hd
def W_it0 : List Sl → PK → Prop := fun ss Φ => ∃ (n k : Nat), ss = [.cup, .d (.int n), .d (.int k), .d (.int 0)] ∧ (n = 1 ∨ n = 2) ∧ k ≤ 10 ∧ ∀ ds : List Deed, ds.length ≤ k → (∀ d ∈ ds, DOk n d) → Φ (.tuple (ds.map encD))
theorem i_it0 {n : Nat} {m : Int} (k : Nat) {e : Int} (e1 : m = k) (e2 : e = 0) (h1 : n = 1 ∨ n = 2) (h2 : k ≤ 10) (h : ∀ ds : List Deed, ds.length ≤ k → (∀ d ∈ ds, DOk n d) → Φ (.tuple (ds.map encD))) : W_it0 [.cup, .d (.int n), .d (.int m), .d (.int e)] Φ := ⟨n, k, by rw [e1, e2], h1, h2, h⟩
theorem w_it0 {Wr : List Sl → PK → Prop} (h : W_it0 ss Φ) : WS C c (t__law_items C W__law_roll W__law_some Wr W__law_deed) (startG n__law_items ss) (retP Φ) := by
  obtain ⟨n, k, rfl, hn, hk, q⟩ := h
  unfold t__law_items
  repeat' walk_at "w"
  refine ws_forT encK [5] ?_
  repeat' walk_at "w"
  refine i__law_roll (by omega) (by omega) fun z hz1 hz2 => ?_
  repeat' walk_at "w"
  refine ⟨z, rfl, by omega, by omega, List.range z.toNat, rfl, fun i Γ => ∃ (ds : List Deed) (x5 : Sl), Γ = [.cup, .d (.int n), .d (.int k), .d (.int 0), .d (.tuple (ds.map encD)), x5, .un, .un, .un, .un, .un] ∧ ds.length ≤ i ∧ ∀ d ∈ ds, DOk n d, ⟨[], _, rfl, Nat.zero_le _, fun d hd => nomatch hd⟩, fun i x Γ' hi hI => ?_, fun Γ' hI => ?_⟩
  · obtain ⟨ds, x5, rfl, hl, hd⟩ := hI
    have hik := (List.getElem?_eq_some_iff.mp hi).1
    rw [List.length_range] at hik
    repeat' walk_at "w"
    · next hc => exact absurd hc (by decide)
    all_goals
      refine i__law_deed hn fun d hd2 => ?_
      repeat' walk_at "w"
      refine addT_tup (by simp only [List.length_map, List.length_cons, List.length_nil]; omega) ?_
      repeat' walk_at "w"
      refine ⟨ds ++ [d], .d (encK x), by rw [List.map_append]; rfl, by rw [List.length_append, List.length_singleton]; omega, fun e he => ?_⟩
      rcases List.mem_append.mp he with he | he
      · exact hd e he
      · rw [List.mem_singleton] at he
        rw [he]
        exact hd2
  · obtain ⟨ds, x5, rfl, hl, hd⟩ := hI
    rw [List.length_range] at hl
    repeat' walk_at "w"
    exact q ds (by omega) hd
end
end DWG

section DWH
open PySem PySem.Spec PyProof.Rows L2
section
variable {C : Ct} {c : Option Addr} {ss : List Sl} {Φ : PK}
def W_it1 : List Sl → PK → Prop := fun ss Φ => ∃ n : Nat, ss = [.cup, .d (.int n), .d (.int 2), .d (.int 1)] ∧ (n = 1 ∨ n = 2) ∧ ∀ s : Scr, (∀ i ∈ s, IOk n i) → cntS s ≤ 6 → Φ (encS s)
theorem i_it1 {n : Nat} (h1 : n = 1 ∨ n = 2) (h : ∀ s : Scr, (∀ i ∈ s, IOk n i) → cntS s ≤ 6 → Φ (encS s)) : W_it1 [.cup, .d (.int n), .d (.int 2), .d (.int 1)] Φ := ⟨n, rfl, h1, h⟩
theorem w_it1 (h : W_it1 ss Φ) : WS C c (t__law_items C W__law_roll W__law_some W_it0 W__law_deed) (startG n__law_items ss) (retP Φ) := by
  obtain ⟨n, rfl, hn, q⟩ := h
  unfold t__law_items
  repeat' walk_at "w"
  refine ws_forT encK [5] ?_
  repeat' walk_at "w"
  refine i__law_roll (by decide) (by decide) fun z hz1 hz2 => ?_
  repeat' walk_at "w"
  refine ⟨z, rfl, by omega, by omega, List.range z.toNat, rfl, fun i Γ => ∃ (s : Scr) (x5 x6 x7 x8 x9 : Sl), Γ = [.cup, .d (.int n), .d (.int 2), .d (.int 1), .d (encS s), x5, x6, x7, x8, x9, .un] ∧ cntS s ≤ 3 * i ∧ ∀ j ∈ s, IOk n j, ⟨[], _, _, _, _, _, rfl, Nat.zero_le _, fun d hd => nomatch hd⟩, fun i x Γ' hi hI => ?_, fun Γ' hI => ?_⟩
  · obtain ⟨s, x5, x6, x7, x8, x9, rfl, hl, hd⟩ := hI
    have hik := (List.getElem?_eq_some_iff.mp hi).1
    rw [List.length_range] at hik
    have hsl := len_cntS s
    have fin : ∀ (it : Item) (x6 x7 x8 x9 : Sl), IOk n it → cntI it ≤ 3 → ∃ (s' : Scr) (y5 y6 y7 y8 y9 : Sl), [Sl.cup, .d (.int n), .d (.int 2), .d (.int 1), .d (.tuple (s.map encI ++ [encI it])), .d (encK x), x6, x7, x8, x9, .un] = [.cup, .d (.int n), .d (.int 2), .d (.int 1), .d (encS s'), y5, y6, y7, y8, y9, .un] ∧ cntS s' ≤ 3 * (i + 1) ∧ ∀ j ∈ s', IOk n j := by
      intro it x6 x7 x8 x9 h1 h2
      refine ⟨s ++ [it], _, _, _, _, _, by rw [encS, List.map_append]; rfl, ?_, fun e he => ?_⟩
      · rw [cntS_app, cntS_cons]
        have : cntS [] = 0 := rfl
        omega
      · rcases List.mem_append.mp he with he | he
        · exact hd e he
        · rw [List.mem_singleton] at he
          rw [he]
          exact h1
    repeat' walk_at "w"
    · next hc =>
      refine i__law_roll (by decide) (by decide) fun v hv1 hv2 => ?_
      repeat' walk_at "w"
      · refine i__law_roll (by omega) (by omega) fun a ha1 ha2 => ?_
        repeat' walk_at "w"
        have hn2 : n = 2 := by omega
        refine we_lcFilT encK (fun (k : Nat) => !decide (0 + (k : Int) = a)) encK ?_
        repeat' walk_at "w"
        refine ⟨n, rfl, by omega, by omega, List.range n, rfl, by rw [List.length_range]; omega, fun k hk => ?_, ?_⟩
        · repeat' walk_at "w"
          refine ⟨rfl, fun _ => ?_⟩
          repeat' walk_at "w"
          rfl
        repeat' walk_at "w"
        obtain ⟨o1, o2⟩ := others hn2 ha1 ha2
        have o3 := List.length_filter_le (fun (k : Nat) => !decide (0 + (k : Int) = a)) (List.range n)
        rw [List.length_range] at o3
        refine i__law_some o1 (by rw [List.length_map]; omega) fun d hd => ?_
        obtain ⟨u, rfl, u1, u2, u3⟩ := o2 d hd
        repeat' walk_at "w"
        refine iT_div ⟨by decide, by decide⟩ ?_
        repeat' walk_at "w"
        refine i_it0 1 rfl rfl hn (by decide) fun y hy1 hy2 => ?_
        repeat' walk_at "w"
        refine iT_div ⟨by decide, by decide⟩ ?_
        repeat' walk_at "w"
        refine i_it0 1 rfl rfl hn (by decide) fun m hm1 hm2 => ?_
        repeat' walk_at "w"
        refine addT_tup (by simp only [List.length_map, List.length_cons, List.length_nil]; omega) ?_
        repeat' walk_at "w"
        exact fin (.ask a u y m) _ _ _ _ ⟨⟨ha1, ha2⟩, ⟨u1, u2⟩, u3, hy2, hm2⟩ (by simp only [cntI]; omega)
      · refine i__law_deed hn fun d hd2 => ?_
        repeat' walk_at "w"
        refine addT_tup (by simp only [List.length_map, List.length_cons, List.length_nil]; omega) ?_
        repeat' walk_at "w"
        exact fin (.deed d) _ _ _ _ hd2 (by simp only [cntI]; omega)
    all_goals first
      | (next hc => exact absurd (by decide : (0 : Int) < 1) hc)
      | skip
    all_goals
      refine i__law_deed hn fun d hd2 => ?_
      repeat' walk_at "w"
      refine addT_tup (by simp only [List.length_map, List.length_cons, List.length_nil]; omega) ?_
      repeat' walk_at "w"
      exact fin (.deed d) _ _ _ _ hd2 (by simp only [cntI]; omega)
  · obtain ⟨s, x5, x6, x7, x8, x9, rfl, hl, hd⟩ := hI
    rw [List.length_range] at hl
    repeat' walk_at "w"
    exact q s hd (by omega)
/-! count -/
def W_count (lv : Nat) : List Sl → PK → Prop := fun ss Φ => ∃ s : Scr, ss = [.d (encS s)] ∧ (lv = 0 → ∀ i ∈ s, isAsk i = false) ∧ Φ (.int (cntS s : Nat))
theorem i_count {lv : Nat} {s : Scr} (h : lv = 0 → ∀ i ∈ s, isAsk i = false) (q : Φ (.int (cntS s : Nat))) : W_count lv [.d (encS s)] Φ := ⟨s, rfl, h, q⟩
theorem i_count_deeds {lv : Nat} {y : List Deed} (q : Φ (.int (y.length : Nat))) : W_count lv [.d (.tuple (y.map encD))] Φ := by
  rw [enc_deeds]
  refine ⟨y.map .deed, rfl, fun _ i hi => ?_, ?_⟩
  · obtain ⟨d, hd, rfl⟩ := List.mem_map.mp hi
    rfl
  · rw [cntS_deeds]
    exact q
theorem w_count {lv : Nat} {Wr : List Sl → PK → Prop} (hr : lv ≠ 0 → Wr = W_count (lv - 1)) (h : W_count lv ss Φ) : WS C c (t__law_count C Wr) (startG n__law_count ss) (retP Φ) := by
  obtain ⟨s, rfl, h0, q⟩ := h
  unfold t__law_count
  repeat' walk_at "w"
  refine ws_forT encI [2] ?_
  repeat' walk_at "w"
  refine ⟨s, rfl, fun k Γ => ∃ x2, Γ = [.d (encS s), .d (.int (cntS (s.take k) : Nat)), x2], ⟨_, rfl⟩, fun k it Γ' hk hI => ?_, fun Γ' hI => ?_⟩
  · obtain ⟨x2, rfl⟩ := hI
    have step : cntS (s.take (k + 1)) = cntS (s.take k) + cntI it := by
      rw [List.take_add_one, hk, Option.toList_some, cntS_app, cntS_cons]
      rfl
    repeat' walk_at "w"
    cases it with
    | deed d =>
      refine iBf ?_
      repeat' walk_at "w"
      refine ⟨.d (encI (.deed d)), ?_⟩
      rw [step]
      rfl
    | ask a b y m =>
      have hl : lv ≠ 0 := fun e => by
        have := h0 e _ (List.mem_of_getElem? hk)
        exact nomatch this
      have eW := hr hl
      subst eW
      refine iBt ?_
      simp only [encI]
      repeat' walk_at "w"
      refine i_count_deeds ?_
      repeat' walk_at "w"
      refine i_count_deeds ?_
      repeat' walk_at "w"
      refine ⟨.d (encI (.ask a b y m)), ?_⟩
      rw [step]
      have e : ((cntS (s.take k) : Nat) : Int) + 1 + ((y.length : Nat) + (m.length : Nat)) = ((cntS (s.take k) + cntI (.ask a b y m) : Nat) : Int) := by
        simp only [cntI]
        push_cast
        omega
      rw [← e]
      rfl
  · obtain ⟨x2, rfl⟩ := hI
    rw [List.take_length]
    repeat' walk_at "w"
    exact q
def W__law_script : List Sl → PK → Prop := W_it1
theorem i__law_script {n : Nat} (h1 : n = 1 ∨ n = 2) (h : ∀ s : Scr, (∀ i ∈ s, IOk n i) → cntS s ≤ 6 → Φ (encS s)) : W__law_script [.cup, .d (.int n), .d (.int 2), .d (.int 1)] Φ := ⟨n, rfl, h1, h⟩
theorem w__law_script (h : W__law_script ss Φ) : WS C c (t__law_script C W_it1 (W_count 1)) (startG n__law_script ss) (retP Φ) := by
  obtain ⟨n, rfl, hn, q⟩ := h
  unfold t__law_script
  repeat' walk_at "w"
  refine i_it1 hn fun s hs hc => ?_
  repeat' walk_at "w"
  refine ws_while (fun m Γ => Γ = [.cup, .d (.int n), .d (.int 2), .d (.int 1), .d (encS s)]) 0 rfl ?_
  rintro m Γ' rfl
  repeat' walk_at "w"
  refine i_count (fun e => nomatch e) ?_
  repeat' walk_at "w"
  · next hc2 =>
    exfalso
    omega
  · exact q s hs hc
theorem atI_lastG {α : Type} (f : α → PyData) {l : List α} {x : α} (h : l.getLast? = some x) : atI (l.map f) (-1) = some (f x) := by
  have hl : 0 < l.length := by
    cases l with
    | nil => exact nomatch h
    | cons a l => exact Nat.succ_pos _
  have e : ixN (l.map f).length (-1) = some (l.length - 1) := by
    unfold ixN
    rw [List.length_map, if_neg (by omega), if_pos (by omega)]
    congr 1
    omega
  unfold atI
  rw [e, Option.bind_some, List.getElem?_map, ← List.getLast?_eq_getElem?, h]
  rfl
def W__law_scripts : List Sl → PK → Prop := fun ss Φ => ∃ n : Nat, ss = [.cup, .d (.int n)] ∧ (n = 1 ∨ n = 2) ∧ ∀ scs : List Scr, ScsOk n scs → Φ (.tuple (scs.map encS))
theorem i__law_scripts {n : Nat} (h1 : n = 1 ∨ n = 2) (h : ∀ scs : List Scr, ScsOk n scs → Φ (.tuple (scs.map encS))) : W__law_scripts [.cup, .d (.int n)] Φ := ⟨n, rfl, h1, h⟩
theorem w__law_scripts (h : W__law_scripts ss Φ) : WS C c (t__law_scripts C W__law_script W__law_roll (W_count 1)) (startG n__law_scripts ss) (retP Φ) := by
  obtain ⟨n, rfl, hn, q⟩ := h
  unfold t__law_scripts
  repeat' walk_at "w"
  refine i__law_script hn fun s0 hs0 hc0 => ?_
  repeat' walk_at "w"
  refine ws_forT encK [3] ?_
  repeat' walk_at "w"
  refine i__law_roll (by decide) (by decide) fun z hz1 hz2 => ?_
  repeat' walk_at "w"
  refine ⟨1 + z, rfl, by omega, by omega, List.range (1 + z).toNat, rfl, fun i Γ => ∃ (scs : List Scr) (x3 x4 x5 x6 : Sl), Γ = [.cup, .d (.int n), .d (.tuple (scs.map encS)), x3, x4, x5, x6] ∧ scs.length = i + 1 ∧ ∀ s ∈ scs, SOk n s,
    ⟨[s0], _, _, _, _, rfl, rfl, fun s hs => by rw [List.mem_singleton] at hs; rw [hs]; exact ⟨hs0, by omega⟩⟩, fun i x Γ' hi hI => ?_, fun Γ' hI => ?_⟩
  · obtain ⟨scs, x3, x4, x5, x6, rfl, hl, hd⟩ := hI
    have hik := (List.getElem?_eq_some_iff.mp hi).1
    rw [List.length_range] at hik
    obtain ⟨last, hlast⟩ : ∃ l, scs.getLast? = some l := by
      cases e : scs.getLast? with
      | some l => exact ⟨l, rfl⟩
      | none =>
        rw [List.getLast?_eq_none_iff] at e
        rw [e] at hl
        exact nomatch hl
    have hlm := hd last (List.mem_of_getLast? hlast)
    have fin : ∀ (s : Scr) (x4 x5 x6 : Sl), SOk n s → ∃ (scs' : List Scr) (y3 y4 y5 y6 : Sl), [Sl.cup, .d (.int n), .d (.tuple (scs.map encS ++ [encS s])), .d (encK x), x4, x5, x6] = [.cup, .d (.int n), .d (.tuple (scs'.map encS)), y3, y4, y5, y6] ∧ scs'.length = i + 1 + 1 ∧ ∀ s ∈ scs', SOk n s := by
      intro s x4 x5 x6 h1
      refine ⟨scs ++ [s], _, _, _, _, by rw [List.map_append]; rfl, by rw [List.length_append, hl]; rfl, fun e he => ?_⟩
      rcases List.mem_append.mp he with he | he
      · exact hd e he
      · rw [List.mem_singleton] at he
        rw [he]
        exact h1
    repeat' walk_at "w"
    refine i__law_roll (by decide) (by decide) fun v hv1 hv2 => ?_
    repeat' walk_at "w"
    refine ⟨_, atI_lastG encS hlast, ?_⟩
    repeat' walk_at "w"
    refine i__law_script hn fun fresh hf hfc => ?_
    have hfr : SOk n fresh := ⟨hf, by omega⟩
    repeat' walk_at "w"
    · refine addT_tup (by simp only [List.length_map, List.length_cons, List.length_nil]; omega) ?_
      repeat' walk_at "w"
      exact fin last _ _ _ hlm
    · have b1 := len_cntS last
      have b2 := len_cntS fresh
      have b3 := hlm.cn
      refine addT_tup (by simp only [List.length_map]; omega) ?_
      rw [← List.map_append]
      repeat' walk_at "w"
      refine i_count (s := last ++ fresh) (fun e => nomatch e) ?_
      repeat' walk_at "w"
      · next hc =>
        refine addT_tup (by simp only [List.length_map]; omega) ?_
        rw [← List.map_append]
        repeat' walk_at "w"
        refine addT_tup (by simp only [List.length_map, List.length_cons, List.length_nil]; omega) ?_
        repeat' walk_at "w"
        refine fin (last ++ fresh) _ _ _ ⟨fun e he => ?_, by omega⟩
        rcases List.mem_append.mp he with he | he
        · exact hlm.it e he
        · exact hf e he
      · refine addT_tup (by simp only [List.length_map, List.length_cons, List.length_nil]; omega) ?_
        repeat' walk_at "w"
        exact fin fresh _ _ _ hfr
    · refine addT_tup (by simp only [List.length_map, List.length_cons, List.length_nil]; omega) ?_
      repeat' walk_at "w"
      exact fin fresh _ _ _ hfr
  · obtain ⟨scs, x3, x4, x5, x6, rfl, hl, hd⟩ := hI
    rw [List.length_range] at hl
    repeat' walk_at "w"
    exact q scs ⟨by omega, by omega, hd⟩
end
end DWH

section DWI
open PySem PySem.Spec PyProof.Rows L2
section
variable {C : Ct} {c : Option Addr} {ss : List Sl} {Φ : PK}
/-! the rows that stand in the law -/
abbrev Row := Nat × List Scr × List Co
abbrev encR (r : Row) : PyData := .tuple [.int r.1, .tuple (r.2.1.map encS), .tuple (r.2.2.map encC)]
def tk : Scr := [.deed (.pairs 0 [0, 0, 1, 1, 1, 0])]
def tpart : Scr := [.deed (.tie 0 1 .part)]
def tknow : Scr := [.deed (.tie 0 1 .know)]
def tturn : Scr := [.deed (.tie 0 1 .turn)]
def rows : List Row :=
  [(1, [tk, tk, []], [(1, [])]), (1, [tk, tk], []), (2, [[], tpart, tknow], [(2, []), (2, [(0, 1)])]), (2, [[], tpart], [(2, [(0, 1)])]), (2, [[], tknow], [(2, [])]), (2, [[], tturn], [(2, [])]),
   (2, [[.ask 0 1 [.pairs 0 [0, 0, 1, 1, 1, 0]] []], []], [(2, [(0, 1)])]), (2, [[.ask 0 1 [.pairs 0 [0, 0, 1, 1, 1, 0]] []], [], [.ask 0 1 [] [.pairs 0 [0, 0, 1, 1, 1, 0]]]], [(2, []), (2, [(0, 1)])]), (2, [tk, [], tturn], [(2, [])]),
   (2, [tpart, tknow, tturn], [(2, []), (2, [(0, 1)])]), (2, [tturn ++ tturn, []], [])]
def bitsB (an : List Int) (n : Nat) : Bool := decide (an.length = n) && an.all fun x => decide (0 ≤ x ∧ x ≤ 1)
theorem bitsB_ok {an : List Int} {n : Nat} (h : bitsB an n = true) : bitsOk an n := by
  unfold bitsB at h
  rw [Bool.and_eq_true, decide_eq_true_eq, List.all_eq_true] at h
  exact ⟨h.1, fun x hx => of_decide_eq_true (h.2 x hx)⟩
def dokB (n : Nat) : Deed → Bool
  | .pairs a an => decide (0 ≤ a ∧ a < n) && bitsB an 6
  | .takes a b an => decide ((0 ≤ a ∧ a < n) ∧ (0 ≤ b ∧ b < n) ∧ a ≠ b) && bitsB an 4
  | .tie a b _ => decide ((0 ≤ a ∧ a < n) ∧ (0 ≤ b ∧ b < n) ∧ a ≠ b)
theorem dokB_ok {n : Nat} {d : Deed} (h : dokB n d = true) : DOk n d := by
  cases d with
  | pairs a an =>
    rw [dokB, Bool.and_eq_true, decide_eq_true_eq] at h
    exact ⟨h.1, bitsB_ok h.2⟩
  | takes a b an =>
    rw [dokB, Bool.and_eq_true, decide_eq_true_eq] at h
    exact ⟨h.1.1, h.1.2.1, h.1.2.2, bitsB_ok h.2⟩
  | tie a b w =>
    rw [dokB, decide_eq_true_eq] at h
    exact h
def iokB (n : Nat) : Item → Bool
  | .deed d => dokB n d
  | .ask a b y m => decide ((0 ≤ a ∧ a < n) ∧ (0 ≤ b ∧ b < n) ∧ a ≠ b) && (y.all (dokB n) && m.all (dokB n))
theorem iokB_ok {n : Nat} {i : Item} (h : iokB n i = true) : IOk n i := by
  cases i with
  | deed d => exact dokB_ok (d := d) h
  | ask a b y m =>
    rw [iokB, Bool.and_eq_true, Bool.and_eq_true, decide_eq_true_eq, List.all_eq_true, List.all_eq_true] at h
    exact ⟨h.1.1, h.1.2.1, h.1.2.2, fun d hd => dokB_ok (h.2.1 d hd), fun d hd => dokB_ok (h.2.2 d hd)⟩
def rowB (r : Row) : Bool := decide (r.1 = 1 ∨ r.1 = 2) && (decide (2 ≤ r.2.1.length ∧ r.2.1.length ≤ 3) && ((r.2.1.all fun s => s.all (iokB r.1) && decide (cntS s ≤ 30)) && decide (few r.1 r.2.1 = r.2.2)))
theorem rowB_ok {r : Row} (h : rowB r = true) : (r.1 = 1 ∨ r.1 = 2) ∧ ScsOk r.1 r.2.1 ∧ few r.1 r.2.1 = r.2.2 := by
  rw [rowB, Bool.and_eq_true, Bool.and_eq_true, Bool.and_eq_true, decide_eq_true_eq, decide_eq_true_eq, decide_eq_true_eq, List.all_eq_true] at h
  obtain ⟨h1, h2, h3, h4⟩ := h
  refine ⟨h1, ⟨h2.1, h2.2, fun s hs => ?_⟩, h4⟩
  have := h3 s hs
  rw [Bool.and_eq_true, decide_eq_true_eq, List.all_eq_true] at this
  exact ⟨fun i hi => iokB_ok (this.1 i hi), this.2⟩
theorem rows_ok : rows.all rowB = true := by decide +kernel
theorem w_law (h : Φ (.bool true)) : WS C c (t_law C W__law_some W__law_scripts W_telling_starts W__law_least) [.un, .cup, .un, .un, .un, .un, .un, .un, .un, .un, .un, .un] (retP Φ) := by
  unfold t_law
  repeat' walk_at "w"
  refine ws_forT encK [2] ?_
  repeat' walk_at "w"
  refine ⟨2, rfl, by omega, by omega, List.range 2, rfl, fun i Γ => ∃ x2 x3 x4, Γ = [.un, .cup, x2, x3, x4, .un, .un, .un, .un, .un, .un, .un], ⟨_, _, _, rfl⟩, fun i x Γ' hi hI => ?_, fun Γ' hI => ?_⟩
  · obtain ⟨x2, x3, x4, rfl⟩ := hI
    repeat' walk_at "w"
    refine i__law_some (by decide) (by decide) fun d hd => ?_
    obtain ⟨n, hn, rfl⟩ : ∃ n : Nat, (n = 1 ∨ n = 2) ∧ d = .int n := by
      simp only [List.mem_cons, List.not_mem_nil, or_false] at hd
      rcases hd with rfl | rfl | rfl | rfl
      · exact ⟨1, .inl rfl, rfl⟩
      · exact ⟨2, .inr rfl, rfl⟩
      · exact ⟨2, .inr rfl, rfl⟩
      · exact ⟨2, .inr rfl, rfl⟩
    repeat' walk_at "w"
    refine i__law_scripts hn fun scs hs => ?_
    repeat' walk_at "w"
    refine i_telling_starts hn hs ?_
    repeat' walk_at "w"
    refine i_telling_starts hn hs ?_
    repeat' walk_at "w"
    · next hc => exact absurd rfl hc
    · next hc => exact ⟨_, _, _, rfl⟩
  · obtain ⟨x2, x3, x4, rfl⟩ := hI
    refine sq_nx (ws_seq (ws_asgG [5, 6, 7] ?_))
    repeat' walk_at "w"
    refine ws_asgG [8, 9, 2] ?_
    repeat' walk_at "w"
    refine addT_lst (Nat.le_of_ble_eq_true rfl) ?_
    repeat' walk_at "w"
    refine addT_tup (Nat.le_of_ble_eq_true rfl) ?_
    repeat' walk_at "w"
    refine addT_lst (Nat.le_of_ble_eq_true rfl) ?_
    repeat' walk_at "w"
    refine we_lcFilT encR (fun _ => false) encR ?_
    repeat' walk_at "w"
    refine ⟨rows, rfl, by decide, fun r hr => ?_, ?_⟩
    · obtain ⟨h1, h2, h3⟩ := rowB_ok (List.all_eq_true.mp rows_ok r hr)
      obtain ⟨n, scs, cs⟩ := r
      repeat' walk_at "w"
      refine i_telling_starts h1 h2 ?_
      simp only at h3
      rw [h3]
      repeat' walk_at "w"
      · next hc => exact absurd rfl hc
      · next hc =>
        refine i_telling_starts h1 h2 ?_
        rw [h3]
        repeat' walk_at "w"
        rw [decide_eq_true (show cs = (n, scs, cs).snd.snd from rfl)]
        exact ⟨rfl, fun e => nomatch e⟩
    · rw [List.filter_eq_nil_iff.mpr fun _ _ => Bool.false_ne_true]
      repeat' walk_at "w"
      exact ⟨⟨rfl, rfl⟩, h⟩
end
end DWI

/-! The cup, the law's own beginning. -/
section DX1
open PySem PySem.Spec PyProof.Rows L2
abbrev s__law_cup : Stmt := topS 41
abbrev n__law_cup : List Str := ["_law_script_here", "_law_cell"]
abbrev p__law_cup : List Str := ["_law_script_here"]
theorem sc__law_cup : FnScope n__law_cup p__law_cup (defScope s__law_cup) := ⟨rfl, rfl, rfl, by decide +kernel, rfl, by decide +kernel, by decide +kernel⟩
theorem bn__law_cup (kV doc pm : Value) (an : Option Addr) (cdv ct : Value) (us : List Value) (hl : us.length = (p__law_cup).length) : bindArgs (PySem.W.fnOf "_law_cup" "_law_cup" (defArgs s__law_cup) (defBody s__law_cup) (defScope s__law_cup) .none kV doc pm an cdv ct) ⟨us, []⟩ = pure ((p__law_cup).zip us) := match us, hl with | [_], _ => rfl
def spCup (K : PySem.W.Frag) : Sp := fun vs H Q _ => ∃ (a : Addr) (ns : List Int), vs = [.ref a] ∧ SqL K H a (ns.map V.int) ∧ ns.length ≤ 63 ∧
  ∀ (p : Addr) (x y : Int) (H' : Hp), H' p = some (.lst [.int x, .int y]) → 0 ≤ y → y < 2 ^ 40 → Q (.ref p) H'
section
variable {P : Program} {w : World} {K : PySem.W.Frag} {mg : Str → Option Value} {base : Heap}
theorem ok_cup {f : Addr} {fd : FuncData} {k : Nat} (F : Fun K "_law_cup" "_law_cup" s__law_cup f fd) (B : Blt mg) : FnOk P w K mg base CX0 (k + 1) f fd ["_law_script_here"] (spCup K) := by
  refine F.ok sc__law_cup (fun vs H Q E h => ?_) (fun cdv A outer s H vs Q E hr h => ?_)
  · obtain ⟨a, ns, rfl, _⟩ := h
    rfl
  · obtain ⟨a, ns, rfl, hS, hl, q⟩ := h
    refine ⟨_, pss_cons (ps_set (i := 1) sc__law_cup.nd rfl (.inl rfl) (pe_callB call_abs (by rfl) B.abs bt_abs (pa_cons (pe_ix ix_list (pe_op op_cat (pe_callTy call_list_of (by rfl) B.list bt_list (pa_cons (pv 0) pa_nil)) (pe_lst (pa_cons pe_int pa_nil))) pe_int (fun _ _ => rfl)) pa_nil)))
      (pss_one (ps_ret (pe_lst (pa_cons (pe_ifExp (pt_cmpR op_ge (pv 1) (pe_op op_pow pe_int pe_int) (nomark _)) (pe_op op_fdivN (pv 1) pe_int) pe_int) (pa_cons (pe_op op_add (pe_op op_modN (pe_callTy call_int1 (by rfl) B.int bt_int (pa_cons (pe_op op_add (pe_op op_mul (pv 1) pe_int) pe_int) pa_nil)) pe_int) pe_int) pa_nil))))), ?_⟩
    -- list(_law_script_here)
    refine ⟨.ref a, rfl, a, ns.map V.int, rfl, .inl hS, fun l nl => ?_⟩
    -- [0]
    refine ⟨by decide, fun b nb => ?_⟩
    have hlb : l ≠ b := fun e => by
      rw [← e, upd_same] at nb
      cases nb
    have hz : (ns.map V.int).length + [V.int 0].length ≤ sizeLine := Nat.le_trans (by rw [List.length_map, List.length_singleton]; omega) (by decide : 64 ≤ sizeLine)
    refine ⟨l, b, ns.map V.int, [.int 0], rfl, rfl, by rw [upd_ne hlb, upd_same], upd_same, hz, fun c nc => ?_⟩
    obtain ⟨z, hz2⟩ : ∃ z : Int, atI (ns.map V.int ++ [V.int 0]) 0 = some (.int z) := by
      cases ns with
      | nil => exact ⟨0, atI_natk (k := 0) rfl rfl⟩
      | cons n ns => exact ⟨n, atI_natk (k := 0) rfl rfl⟩
    refine ⟨c, _, 0, .int z, rfl, rfl, SqL.of upd_same, hz2, z, rfl, ?_⟩
    generalize (if z < 0 then -z else z) = u
    -- the cup
    have fin : ∀ (p : Addr) (v : Int) (H' : Hp), Q (.ref p) (upd H' p (.lst [.int v, .int ((u * 251 + 2111).fmod 2077503301 + 137)])) := fun p v H' => by
      have h1 := fmod_ge (a := u * 251 + 2111) (b := 2077503301) (by decide)
      have h2 := fmod_lt (a := u * 251 + 2111) (b := 2077503301) (by decide)
      exact q p v _ _ upd_same (by omega) (Int.lt_trans (by omega : (u * 251 + 2111).fmod 2077503301 + 137 < 2077503438) (by decide))
    refine ⟨.int u, rfl, 10, 18, rfl, rfl, ⟨by decide, by decide, by decide⟩, u, 10 ^ (18 : Int).toNat, rfl, rfl, decide (10 ^ (18 : Int).toNat ≤ u), rfl, ?_⟩
    cases decide (10 ^ (18 : Int).toNat ≤ u) with
    | true =>
      refine iteT ⟨.int u, rfl, u, 43, rfl, rfl, ⟨by decide, by decide⟩, ?_⟩
      exact ⟨.int u, rfl, u, 251, rfl, rfl, .inr (by decide), u * 251, 2111, rfl, rfl, .inl ⟨u * 251 + 2111, rfl, u * 251 + 2111, 2077503301, rfl, rfl, (by decide : (2077503301 : Int) ≠ 0), (u * 251 + 2111).fmod 2077503301, 137, rfl, rfl, Nat.le_trans (Nat.le_refl 2) (by decide : 2 ≤ sizeLine), fun p np => fin p _ _⟩⟩
    | false =>
      refine iteF ?_
      exact ⟨.int u, rfl, u, 251, rfl, rfl, .inr (by decide), u * 251, 2111, rfl, rfl, .inl ⟨u * 251 + 2111, rfl, u * 251 + 2111, 2077503301, rfl, rfl, (by decide : (2077503301 : Int) ≠ 0), (u * 251 + 2111).fmod 2077503301, 137, rfl, rfl, Nat.le_trans (Nat.le_refl 2) (by decide : 2 ≤ sizeLine), fun p np => fin p _ _⟩⟩
/-! the law -/
def spLaw (K : PySem.W.Frag) : Sp := fun vs H Q _ => ∃ (a : Addr) (ns : List Int), vs = [.ref a] ∧ SqL K H a (ns.map V.int) ∧ ns.length ≤ 63 ∧ ∀ H', Q (.bl true) H'
theorem ok_law {f fC : Addr} {fd fdC : FuncData} {k : Nat} (F : Fun K "law" "law" s_law f fd) (B : Blt mg) (FC : Fun K "_law_cup" "_law_cup" s__law_cup fC fdC) (gC : mg "_law_cup" = some (.ref fC)) (bC : Binds K fdC ["_law_script_here"] [])
    (GC : FnOk P w K mg base CX0 k fC fdC ["_law_script_here"] (spCup K)) (h__law_some : Has P w K mg base k "_law_some" W__law_some) (h__law_scripts : Has P w K mg base k "_law_scripts" W__law_scripts) (h_telling_starts : Has P w K mg base k "telling_starts" W_telling_starts) (h__law_least : Has P w K mg base k "_law_least" W__law_least) :
    FnOk P w K mg base CX0 (k + 1) f fd ["_law_script_here"] (spLaw K) := by
  refine F.ok sc_law (fun vs H Q E h => ?_) (fun cdv A outer s H vs Q E hr h => ?_)
  · obtain ⟨a, ns, rfl, _⟩ := h
    rfl
  · obtain ⟨a, ns, rfl, hS, hl, q⟩ := h
    refine ⟨_, pss_cons (ps_set (i := 1) sc_law.nd rfl (.inl rfl) (pe_call GC hr (by rfl) gC FC.kp bC .nil pass0 (pa_cons (pv 0) pa_nil))) (d_law hr B h__law_some h__law_scripts h_telling_starts h__law_least), ?_⟩
    refine ⟨.ref a, rfl, a, ns, rfl, hS, hl, fun p x y H' hp hy1 hy2 => ?_⟩
    refine w_law (c := some p) (Φ := fun d => d = .bool true) rfl (fun _ => none) H' _ _ ⟨fun _ _ z => (nomatch z), fun b e => ?_⟩ ?_ fun o ho => ?_
    · cases e
      exact ⟨rfl, x, y, hp, hy1, hy2⟩
    · exact .cons trivial (.cons ⟨p, rfl, rfl⟩ (.cons trivial (.cons trivial (.cons trivial (.cons trivial (.cons trivial (.cons trivial (.cons trivial (.cons trivial (.cons trivial (.cons trivial .nil)))))))))))
    · cases o with
      | nx Γ => exact nomatch (show PyData.none = PyData.bool true from ho)
      | rt d =>
        have ho : d = .bool true := ho
        subst ho
        intro v G' H'' s2 r
        cases r
        exact q H''
      | bk Γ => exact ho.elim
      | ct Γ => exact ho.elim
end
end DX1

/-! Each def's promise, by levels. -/
section DX2
open PySem PySem.Spec PyProof.Rows L2
section
variable {P : Program} {w : World} {K : PySem.W.Frag} {mg : Str → Option Value} {base : Heap}
theorem law_all {f fC bW : Addr} {fd fdC : FuncData} (B : Blt mg) (FL : Fun K "law" "law" s_law f fd) (FC : Fun K "_law_cup" "_law_cup" s__law_cup fC fdC) (gC : mg "_law_cup" = some (.ref fC)) (hW : WordsOk K bW)
    (gNAMED : ∃ u, mg "NAMED" = some u ∧ RelV (.int 3) u) (gITEMS : ∃ u, mg "ITEMS" = some u ∧ RelV (.int 30) u) (gDEEPEST : ∃ u, mg "DEEPEST" = some u ∧ RelV (.int 4) u) (gWORDS : ∃ u, mg "WORDS" = some u ∧ RelV (.ref bW) u)
    (F_is_whole : HasF K mg "is_whole" s_is_whole) (F_is_tuple_of : HasF K mg "is_tuple_of" s_is_tuple_of) (F_are_whole : HasF K mg "are_whole" s_are_whole) (F_pairs_of : HasF K mg "pairs_of" s_pairs_of) (F_pair_of : HasF K mg "pair_of" s_pair_of) (F_company_by : HasF K mg "company_by" s_company_by) (F_ties_in : HasF K mg "ties_in" s_ties_in) (F_need_named : HasF K mg "need_named" s_need_named) (F_answer_of : HasF K mg "answer_of" s_answer_of) (F_behind : HasF K mg "behind" s_behind) (F_run_by : HasF K mg "run_by" s_run_by) (F_are_two_named : HasF K mg "are_two_named" s_are_two_named) (F_are_answers : HasF K mg "are_answers" s_are_answers) (F_fits_deed : HasF K mg "fits_deed" s_fits_deed) (F_fits_choice : HasF K mg "fits_choice" s_fits_choice) (F_items_in : HasF K mg "items_in" s_items_in) (F_fits_script : HasF K mg "fits_script" s_fits_script) (F_need_scripts : HasF K mg "need_scripts" s_need_scripts) (F_twos_of : HasF K mg "twos_of" s_twos_of) (F_parted_in : HasF K mg "parted_in" s_parted_in) (F_lots_within : HasF K mg "lots_within" s_lots_within) (F_views_at : HasF K mg "views_at" s_views_at) (F_parting_views : HasF K mg "parting_views" s_parting_views) (F_all_starts : HasF K mg "all_starts" s_all_starts) (F_lots_of : HasF K mg "lots_of" s_lots_of) (F_parted_of : HasF K mg "parted_of" s_parted_of) (F_fewest_starts : HasF K mg "fewest_starts" s_fewest_starts) (F_telling_starts : HasF K mg "telling_starts" s_telling_starts) (F__law_roll : HasF K mg "_law_roll" s__law_roll) (F__law_some : HasF K mg "_law_some" s__law_some) (F__law_two : HasF K mg "_law_two" s__law_two) (F__law_pairs : HasF K mg "_law_pairs" s__law_pairs) (F__law_knows : HasF K mg "_law_knows" s__law_knows) (F__law_behind : HasF K mg "_law_behind" s__law_behind) (F__law_done : HasF K mg "_law_done" s__law_done) (F__law_answers : HasF K mg "_law_answers" s__law_answers) (F__law_deed : HasF K mg "_law_deed" s__law_deed) (F__law_items : HasF K mg "_law_items" s__law_items) (F__law_count : HasF K mg "_law_count" s__law_count) (F__law_script : HasF K mg "_law_script" s__law_script) (F__law_scripts : HasF K mg "_law_scripts" s__law_scripts) (F__law_parted : HasF K mg "_law_parted" s__law_parted) (F__law_starts : HasF K mg "_law_starts" s__law_starts) (F__law_parted_at : HasF K mg "_law_parted_at" s__law_parted_at) (F__law_least : HasF K mg "_law_least" s__law_least) : FnOk P w K mg base CX0 9 f fd ["_law_script_here"] (spLaw K) := by
  have h_is_whole : Has P w K mg base 1 "is_whole" W_is_whole := hasD (k := 0) F_is_whole sc_is_whole bn_is_whole (fun ss Φ h => by obtain ⟨_, _, _, rfl, _⟩ := h; rfl) fun f cdv A outer s H E hr => ⟨_, d_is_whole hr B, fun c ss Φ h => w_is_whole h⟩
  have h_is_tuple_of : Has P w K mg base 1 "is_tuple_of" W_is_tuple_of := hasD (k := 0) F_is_tuple_of sc_is_tuple_of bn_is_tuple_of (fun ss Φ h => by obtain ⟨_, _, _, rfl, _⟩ := h; rfl) fun f cdv A outer s H E hr => ⟨_, d_is_tuple_of hr B, fun c ss Φ h => w_is_tuple_of h⟩
  have h_are_whole : Has P w K mg base 2 "are_whole" W_are_whole := hasD (k := 1) F_are_whole sc_are_whole bn_are_whole (fun ss Φ h => by obtain ⟨_, _, _, rfl, _⟩ := h; rfl) fun f cdv A outer s H E hr => ⟨_, d_are_whole hr B (h_is_whole.mono (by decide)), fun c ss Φ h => w_are_whole h⟩
  have h_pairs_of : Has P w K mg base 1 "pairs_of" W_pairs_of := hasD (k := 0) F_pairs_of sc_pairs_of bn_pairs_of (fun ss Φ h => by obtain ⟨_, rfl, _⟩ := h; rfl) fun f cdv A outer s H E hr => ⟨_, d_pairs_of hr B, fun c ss Φ h => w_pairs_of h⟩
  have h_pair_of : Has P w K mg base 1 "pair_of" W_pair_of := hasD (k := 0) F_pair_of sc_pair_of bn_pair_of (fun ss Φ h => by obtain ⟨_, _, rfl, _⟩ := h; rfl) fun f cdv A outer s H E hr => ⟨_, d_pair_of hr B, fun c ss Φ h => w_pair_of h⟩
  have h_company_by : Has P w K mg base 2 "company_by" W_company_by := hasD (k := 1) F_company_by sc_company_by bn_company_by (fun ss Φ h => by obtain ⟨_, _, rfl, _⟩ := h; rfl) fun f cdv A outer s H E hr => ⟨_, d_company_by hr B (h_pairs_of.mono (by decide)), fun c ss Φ h => w_company_by h⟩
  have h_ties_in : Has P w K mg base 2 "ties_in" W_ties_in := hasD (k := 1) F_ties_in sc_ties_in bn_ties_in (fun ss Φ h => by obtain ⟨_, rfl, _⟩ := h; rfl) fun f cdv A outer s H E hr => ⟨_, d_ties_in hr B (h_pairs_of.mono (by decide)), fun c ss Φ h => w_ties_in h⟩
  have h_need_named : Has P w K mg base 2 "need_named" W_need_named := hasD (k := 1) F_need_named sc_need_named bn_need_named (fun ss Φ h => by obtain ⟨_, rfl, _⟩ := h; rfl) fun f cdv A outer s H E hr => ⟨_, d_need_named hr B (h_is_whole.mono (by decide)) gNAMED, fun c ss Φ h => w_need_named h⟩
  have h_answer_of : Has P w K mg base 2 "answer_of" W_answer_of := hasD (k := 1) F_answer_of sc_answer_of bn_answer_of (fun ss Φ h => by obtain ⟨_, _, _, _, rfl, _⟩ := h; rfl) fun f cdv A outer s H E hr => ⟨_, d_answer_of hr B (h_pair_of.mono (by decide)), fun c ss Φ h => w_answer_of h⟩
  have h_behind : Has P w K mg base 3 "behind" W_behind := hasD (k := 2) F_behind sc_behind bn_behind (fun ss Φ h => by obtain ⟨_, _, rfl, _⟩ := h; rfl) fun f cdv A outer s H E hr => ⟨_, d_behind hr B (h_ties_in.mono (by decide)) (h_pairs_of.mono (by decide)) (h_company_by.mono (by decide)) (h_answer_of.mono (by decide)), fun c ss Φ h => w_behind h⟩
  have h_run_by : Has P w K mg base 4 "run_by" W_run_by := hasD (k := 3) F_run_by sc_run_by bn_run_by (fun ss Φ h => by obtain ⟨_, _, rfl, _⟩ := h; rfl) fun f cdv A outer s H E hr => ⟨_, d_run_by hr B (h_pair_of.mono (by decide)) (h_behind.mono (by decide)), fun c ss Φ h => w_run_by h⟩
  have h_are_two_named : Has P w K mg base 2 "are_two_named" W_are_two_named := hasD (k := 1) F_are_two_named sc_are_two_named bn_are_two_named (fun ss Φ h => by obtain ⟨_, _, _, rfl, _⟩ := h; rfl) fun f cdv A outer s H E hr => ⟨_, d_are_two_named hr B (h_is_whole.mono (by decide)), fun c ss Φ h => w_are_two_named h⟩
  have h_are_answers : Has P w K mg base 3 "are_answers" W_are_answers := hasD (k := 2) F_are_answers sc_are_answers bn_are_answers (fun ss Φ h => by obtain ⟨_, _, rfl, _⟩ := h; rfl) fun f cdv A outer s H E hr => ⟨_, d_are_answers hr B (h_are_whole.mono (by decide)) (h_is_tuple_of.mono (by decide)), fun c ss Φ h => w_are_answers h⟩
  have h_fits_deed : Has P w K mg base 4 "fits_deed" W_fits_deed := hasD (k := 3) F_fits_deed sc_fits_deed bn_fits_deed (fun ss Φ h => by obtain ⟨_, _, rfl, _⟩ := h; rfl) fun f cdv A outer s H E hr => ⟨_, d_fits_deed hr B (h_is_tuple_of.mono (by decide)) (h_are_answers.mono (by decide)) (h_is_whole.mono (by decide)) (h_are_two_named.mono (by decide)) gWORDS, fun c ss Φ h => w_fits_deed hW h⟩
  have h_fits_choice : Has P w K mg base 3 "fits_choice" W_fits_choice := hasD (k := 2) F_fits_choice sc_fits_choice bn_fits_choice (fun ss Φ h => by obtain ⟨_, _, rfl, _⟩ := h; rfl) fun f cdv A outer s H E hr => ⟨_, d_fits_choice hr B (h_is_tuple_of.mono (by decide)) (h_are_two_named.mono (by decide)), fun c ss Φ h => w_fits_choice h⟩
  have h_items_in : Has P w K mg base 5 "items_in" W_items_in := hasD (k := 4) F_items_in sc_items_in bn_items_in (fun ss Φ h => by obtain ⟨_, _, rfl, _⟩ := h; rfl) fun f cdv A outer s H E hr => ⟨_, d_items_in hr B (h_fits_choice.mono (by decide)) (h_fits_deed.mono (by decide)) gITEMS, fun c ss Φ h => w_items_in h⟩
  have h_fits_script : Has P w K mg base 6 "fits_script" W_fits_script := hasD (k := 5) F_fits_script sc_fits_script bn_fits_script (fun ss Φ h => by obtain ⟨_, _, rfl, _⟩ := h; rfl) fun f cdv A outer s H E hr => ⟨_, d_fits_script hr B (h_items_in.mono (by decide)) gDEEPEST, fun c ss Φ h => w_fits_script h⟩
  have h_need_scripts : Has P w K mg base 7 "need_scripts" W_need_scripts := hasD (k := 6) F_need_scripts sc_need_scripts bn_need_scripts (fun ss Φ h => by obtain ⟨_, _, rfl, _⟩ := h; rfl) fun f cdv A outer s H E hr => ⟨_, d_need_scripts hr B (h_fits_script.mono (by decide)) (h_is_tuple_of.mono (by decide)), fun c ss Φ h => w_need_scripts h⟩
  have h_twos_of : Has P w K mg base 2 "twos_of" W_twos_of := hasD (k := 1) F_twos_of sc_twos_of bn_twos_of (fun ss Φ h => by obtain ⟨_, rfl, _⟩ := h; rfl) fun f cdv A outer s H E hr => ⟨_, d_twos_of hr B (h_pairs_of.mono (by decide)), fun c ss Φ h => w_twos_of h⟩
  have h_parted_in : Has P w K mg base 5 "parted_in" W_parted_in := hasD (k := 4) F_parted_in sc_parted_in bn_parted_in (fun ss Φ h => by obtain ⟨_, _, rfl, _⟩ := h; rfl) fun f cdv A outer s H E hr => ⟨_, d_parted_in hr B (h_run_by.mono (by decide)) (h_twos_of.mono (by decide)), fun c ss Φ h => w_parted_in h⟩
  have h_lots_within : Has P w K mg base 1 "lots_within" W_lots_within := hasD (k := 0) F_lots_within sc_lots_within bn_lots_within (fun ss Φ h => by obtain ⟨_, rfl, _⟩ := h; rfl) fun f cdv A outer s H E hr => ⟨_, d_lots_within hr B, fun c ss Φ h => w_lots_within h⟩
  have h_views_at : Has P w K mg base 2 "views_at" W_views_at := hasD (k := 1) F_views_at sc_views_at bn_views_at (fun ss Φ h => by obtain ⟨_, _, rfl, _⟩ := h; rfl) fun f cdv A outer s H E hr => ⟨_, d_views_at hr B (h_pairs_of.mono (by decide)) (h_lots_within.mono (by decide)), fun c ss Φ h => w_views_at h⟩
  have h_parting_views : Has P w K mg base 6 "parting_views" W_parting_views := hasD (k := 5) F_parting_views sc_parting_views bn_parting_views (fun ss Φ h => by obtain ⟨_, _, _, rfl, _⟩ := h; rfl) fun f cdv A outer s H E hr => ⟨_, d_parting_views hr B (h_views_at.mono (by decide)) (h_parted_in.mono (by decide)), fun c ss Φ h => w_parting_views h⟩
  have h_all_starts : Has P w K mg base 2 "all_starts" W_all_starts := hasD (k := 1) F_all_starts sc_all_starts bn_all_starts (fun ss Φ h => by obtain ⟨_, rfl, _⟩ := h; rfl) fun f cdv A outer s H E hr => ⟨_, d_all_starts hr B (h_lots_within.mono (by decide)) (h_pairs_of.mono (by decide)), fun c ss Φ h => w_all_starts h⟩
  have h_lots_of : Has P w K mg base 1 "lots_of" W_lots_of := hasD (k := 0) F_lots_of sc_lots_of bn_lots_of (fun ss Φ h => by obtain ⟨_, _, rfl, _⟩ := h; rfl) fun f cdv A outer s H E hr => ⟨_, d_lots_of hr B, fun c ss Φ h => w_lots_of h⟩
  have h_parted_of__L : Has P w K mg base 1 "parted_of" W_parted_of__L := hasD (k := 0) F_parted_of sc_parted_of bn_parted_of (fun ss Φ h => by obtain ⟨_, _, _, _, rfl, _⟩ := h; rfl) fun f cdv A outer s H E hr => ⟨_, d_parted_of__L hr B, fun c ss Φ h => w_parted_of__L h⟩
  have h_parted_of__T : Has P w K mg base 1 "parted_of" W_parted_of__T := hasD (k := 0) F_parted_of sc_parted_of bn_parted_of (fun ss Φ h => by obtain ⟨_, _, _, _, rfl, _⟩ := h; rfl) fun f cdv A outer s H E hr => ⟨_, d_parted_of__T hr B, fun c ss Φ h => w_parted_of__T h⟩
  have h_fewest_starts : Has P w K mg base 2 "fewest_starts" W_fewest_starts := hasD (k := 1) F_fewest_starts sc_fewest_starts bn_fewest_starts (fun ss Φ h => by obtain ⟨_, _, _, rfl, _⟩ := h; rfl) fun f cdv A outer s H E hr => ⟨_, d_fewest_starts hr B (h_parted_of__L.mono (by decide)) (h_lots_of.mono (by decide)) (h_parted_of__T.mono (by decide)), fun c ss Φ h => w_fewest_starts h⟩
  have h_telling_starts : Has P w K mg base 8 "telling_starts" W_telling_starts := hasD (k := 7) F_telling_starts sc_telling_starts bn_telling_starts (fun ss Φ h => by obtain ⟨_, _, rfl, _⟩ := h; rfl) fun f cdv A outer s H E hr => ⟨_, d_telling_starts hr B (h_need_named.mono (by decide)) (h_need_scripts.mono (by decide)) (h_all_starts.mono (by decide)) (h_fewest_starts.mono (by decide)) (h_parting_views.mono (by decide)), fun c ss Φ h => w_telling_starts h⟩
  have h__law_roll : Has P w K mg base 1 "_law_roll" W__law_roll := hasD (k := 0) F__law_roll sc__law_roll bn__law_roll (fun ss Φ h => by obtain ⟨_, rfl, _⟩ := h; rfl) fun f cdv A outer s H E hr => ⟨_, d__law_roll hr B, fun c ss Φ h => w__law_roll h⟩
  have h__law_some : Has P w K mg base 2 "_law_some" W__law_some := hasD (k := 1) F__law_some sc__law_some bn__law_some (fun ss Φ h => by obtain ⟨_, rfl, _⟩ := h; rfl) fun f cdv A outer s H E hr => ⟨_, d__law_some hr B (h__law_roll.mono (by decide)), fun c ss Φ h => w__law_some h⟩
  have h__law_two : Has P w K mg base 1 "_law_two" W__law_two := hasD (k := 0) F__law_two sc__law_two bn__law_two (fun ss Φ h => by obtain ⟨_, _, rfl, _⟩ := h; rfl) fun f cdv A outer s H E hr => ⟨_, d__law_two hr B, fun c ss Φ h => w__law_two h⟩
  have h__law_pairs : Has P w K mg base 1 "_law_pairs" W__law_pairs := hasD (k := 0) F__law_pairs sc__law_pairs bn__law_pairs (fun ss Φ h => by obtain ⟨_, rfl, _⟩ := h; rfl) fun f cdv A outer s H E hr => ⟨_, d__law_pairs hr B, fun c ss Φ h => w__law_pairs h⟩
  have h__law_knows : Has P w K mg base 2 "_law_knows" W__law_knows := hasD (k := 1) F__law_knows sc__law_knows bn__law_knows (fun ss Φ h => by obtain ⟨_, _, _, rfl, _⟩ := h; rfl) fun f cdv A outer s H E hr => ⟨_, d__law_knows hr B (h__law_two.mono (by decide)), fun c ss Φ h => w__law_knows h⟩
  have h__law_behind : Has P w K mg base 3 "_law_behind" W__law_behind := hasD (k := 2) F__law_behind sc__law_behind bn__law_behind (fun ss Φ h => by obtain ⟨_, _, rfl, _⟩ := h; rfl) fun f cdv A outer s H E hr => ⟨_, d__law_behind hr B (h__law_pairs.mono (by decide)) (h__law_knows.mono (by decide)) (h__law_two.mono (by decide)), fun c ss Φ h => w__law_behind h⟩
  have h_doneN := hasNo (N := []) (P := P) (w := w) (base := base) F__law_done bn__law_done
  have h_done0 : Has P w K mg base 4 "_law_done" (W_done 0) := hasD (k := 3) F__law_done sc__law_done bn__law_done (fun ss Φ h => by obtain ⟨_, _, rfl, _⟩ := h; rfl) fun f cdv A outer s H E hr => ⟨_, d__law_done hr B (h_doneN.mono (by decide)) (h__law_knows.mono (by decide)) (h__law_behind.mono (by decide)), fun c ss Φ h => w_done (lv := 0) (fun e => absurd rfl e) h⟩
  have h_done1 : Has P w K mg base 5 "_law_done" (W_done 1) := hasD (k := 4) F__law_done sc__law_done bn__law_done (fun ss Φ h => by obtain ⟨_, _, rfl, _⟩ := h; rfl) fun f cdv A outer s H E hr => ⟨_, d__law_done hr B (h_done0.mono (by decide)) (h__law_knows.mono (by decide)) (h__law_behind.mono (by decide)), fun c ss Φ h => w_done (lv := 1) (fun e => rfl) h⟩
  have h__law_answers : Has P w K mg base 2 "_law_answers" W__law_answers := hasD (k := 1) F__law_answers sc__law_answers bn__law_answers (fun ss Φ h => by obtain ⟨_, rfl, _⟩ := h; rfl) fun f cdv A outer s H E hr => ⟨_, d__law_answers hr B (h__law_roll.mono (by decide)), fun c ss Φ h => w__law_answers h⟩
  have h__law_deed : Has P w K mg base 3 "_law_deed" W__law_deed := hasD (k := 2) F__law_deed sc__law_deed bn__law_deed (fun ss Φ h => by obtain ⟨_, rfl, _⟩ := h; rfl) fun f cdv A outer s H E hr => ⟨_, d__law_deed hr B (h__law_roll.mono (by decide)) (h__law_some.mono (by decide)) (h__law_answers.mono (by decide)), fun c ss Φ h => w__law_deed h⟩
  have h_itN := hasNo (N := []) (P := P) (w := w) (base := base) F__law_items bn__law_items
  have h_it0 : Has P w K mg base 4 "_law_items" W_it0 := hasD (k := 3) F__law_items sc__law_items bn__law_items (fun ss Φ h => by obtain ⟨_, _, rfl, _⟩ := h; rfl) fun f cdv A outer s H E hr => ⟨_, d__law_items hr B (h__law_roll.mono (by decide)) (h__law_some.mono (by decide)) (h_itN.mono (by decide)) (h__law_deed.mono (by decide)), fun c ss Φ h => w_it0 h⟩
  have h_it1 : Has P w K mg base 5 "_law_items" W_it1 := hasD (k := 4) F__law_items sc__law_items bn__law_items (fun ss Φ h => by obtain ⟨_, rfl, _⟩ := h; rfl) fun f cdv A outer s H E hr => ⟨_, d__law_items hr B (h__law_roll.mono (by decide)) (h__law_some.mono (by decide)) (h_it0.mono (by decide)) (h__law_deed.mono (by decide)), fun c ss Φ h => w_it1 h⟩
  have h_countN := hasNo (N := []) (P := P) (w := w) (base := base) F__law_count bn__law_count
  have h_count0 : Has P w K mg base 1 "_law_count" (W_count 0) := hasD (k := 0) F__law_count sc__law_count bn__law_count (fun ss Φ h => by obtain ⟨_, rfl, _⟩ := h; rfl) fun f cdv A outer s H E hr => ⟨_, d__law_count hr B (h_countN.mono (by decide)), fun c ss Φ h => w_count (lv := 0) (fun e => absurd rfl e) h⟩
  have h_count1 : Has P w K mg base 2 "_law_count" (W_count 1) := hasD (k := 1) F__law_count sc__law_count bn__law_count (fun ss Φ h => by obtain ⟨_, rfl, _⟩ := h; rfl) fun f cdv A outer s H E hr => ⟨_, d__law_count hr B (h_count0.mono (by decide)), fun c ss Φ h => w_count (lv := 1) (fun e => rfl) h⟩
  have h__law_script : Has P w K mg base 6 "_law_script" W__law_script := hasD (k := 5) F__law_script sc__law_script bn__law_script (fun ss Φ h => by obtain ⟨_, rfl, _⟩ := h; rfl) fun f cdv A outer s H E hr => ⟨_, d__law_script hr B (h_it1.mono (by decide)) (h_count1.mono (by decide)), fun c ss Φ h => w__law_script h⟩
  have h__law_scripts : Has P w K mg base 7 "_law_scripts" W__law_scripts := hasD (k := 6) F__law_scripts sc__law_scripts bn__law_scripts (fun ss Φ h => by obtain ⟨_, rfl, _⟩ := h; rfl) fun f cdv A outer s H E hr => ⟨_, d__law_scripts hr B (h__law_script.mono (by decide)) (h__law_roll.mono (by decide)) (h_count1.mono (by decide)), fun c ss Φ h => w__law_scripts h⟩
  have h__law_parted : Has P w K mg base 6 "_law_parted" W__law_parted := hasD (k := 5) F__law_parted sc__law_parted bn__law_parted (fun ss Φ h => by obtain ⟨_, _, rfl, _⟩ := h; rfl) fun f cdv A outer s H E hr => ⟨_, d__law_parted hr B (h_done1.mono (by decide)) (h__law_pairs.mono (by decide)), fun c ss Φ h => w__law_parted h⟩
  have h__law_starts : Has P w K mg base 2 "_law_starts" W__law_starts := hasD (k := 1) F__law_starts sc__law_starts bn__law_starts (fun ss Φ h => by obtain ⟨_, rfl, _⟩ := h; rfl) fun f cdv A outer s H E hr => ⟨_, d__law_starts hr B (h__law_pairs.mono (by decide)), fun c ss Φ h => w__law_starts h⟩
  have h__law_parted_at : Has P w K mg base 7 "_law_parted_at" W__law_parted_at := hasD (k := 6) F__law_parted_at sc__law_parted_at bn__law_parted_at (fun ss Φ h => by obtain ⟨_, _, _, rfl, _⟩ := h; rfl) fun f cdv A outer s H E hr => ⟨_, d__law_parted_at hr B (h__law_pairs.mono (by decide)) (h__law_parted.mono (by decide)), fun c ss Φ h => w__law_parted_at h⟩
  have h__law_least : Has P w K mg base 8 "_law_least" W__law_least := hasD (k := 7) F__law_least sc__law_least bn__law_least (fun ss Φ h => by obtain ⟨_, _, rfl, _⟩ := h; rfl) fun f cdv A outer s H E hr => ⟨_, d__law_least hr B (h__law_starts.mono (by decide)) (h__law_parted_at.mono (by decide)), fun c ss Φ h => w__law_least h⟩
  exact ok_law FL B FC gC (FC.binds (ps := ["_law_script_here"]) bn__law_cup) (ok_cup (k := 7) FC B) (h__law_some.mono (by decide)) (h__law_scripts.mono (by decide)) (h_telling_starts.mono (by decide)) (h__law_least.mono (by decide))
end
end DX2

/-! What the top has written; the theorem. -/
section DX3
open PySem PySem.Spec PyProof.Rows L2
theorem hasF_mk {K : PySem.W.Frag} {h : Heap} {mg : Str → Option Value} {x : Str} {st : Stmt} {f : Addr} {od an : Option Addr} {sl : Array (Option Value)} {oc kV dc pm cd ct : Value} (X : K.In h) (G : h.Ns mainGlobals mg) (a : PySem.W.nsIn K mainGlobals x = some (some (.ref f)))
    (l : K.lookup f = some ⟨oc, od, .func (PySem.W.fnOf x x (defArgs st) (defBody st) (defScope st) .none kV dc pm an cd ct), sl⟩) (c : PySem.W.codeIn K cd x = true) (k : PySem.W.keepIn K (.ref f) = true) : HasF K mg x st := ⟨f, _, PySem.W.mg_of X G a, fun_mk l c k⟩
theorem words_mk {K : PySem.W.Frag} {b : Addr} {od : Option Addr} {sl : Array (Option Value)} {n : Nat} {t1 t2 t3 : Tok} (l : K.lookup b = some ⟨.type "tuple", od, .seq #[.str "know" t1, .str "part" t2, .str "turn" t3] n, sl⟩) : WordsOk K b :=
  ⟨_, _, n, l, rfl, rfl, (by decide : 3 ≤ sizeLine), .cons ⟨t1, rfl⟩ (.cons ⟨t2, rfl⟩ (.cons ⟨t3, rfl⟩ .nil))⟩
theorem all_mk {l : PySem.W.OpenLaw} {w : World} {K : PySem.W.Frag} {h : Heap} {mg : Str → Option Value} {fa f2 fC bW : Addr} (X : K.In h) (G : h.Ns mainGlobals mg) (hfa : mg "law" = some (.ref fa))
    {od2 an2 od3 an3 : Option Addr} {sl2 sl3 : Array (Option Value)} {oc2 kV2 dc2 pm2 cd2 ct2 oc3 kV3 dc3 pm3 cd3 ct3 : Value} {tN tI tD : _}
    (a2 : PySem.W.nsIn K mainGlobals "law" = some (some (.ref f2))) (l2 : K.lookup f2 = some ⟨oc2, od2, .func (PySem.W.fnOf "law" "law" (defArgs s_law) (defBody s_law) (defScope s_law) .none kV2 dc2 pm2 an2 cd2 ct2), sl2⟩) (c2 : PySem.W.codeIn K cd2 "law" = true) (k2 : PySem.W.keepIn K (.ref f2) = true)
    (a3 : PySem.W.nsIn K mainGlobals "_law_cup" = some (some (.ref fC))) (l3 : K.lookup fC = some ⟨oc3, od3, .func (PySem.W.fnOf "_law_cup" "_law_cup" (defArgs s__law_cup) (defBody s__law_cup) (defScope s__law_cup) .none kV3 dc3 pm3 an3 cd3 ct3), sl3⟩) (c3 : PySem.W.codeIn K cd3 "_law_cup" = true) (k3 : PySem.W.keepIn K (.ref fC) = true)
    (aN : PySem.W.nsIn K mainGlobals "NAMED" = some (some (.int 3 tN))) (aI : PySem.W.nsIn K mainGlobals "ITEMS" = some (some (.int 30 tI))) (aD : PySem.W.nsIn K mainGlobals "DEEPEST" = some (some (.int 4 tD))) (aW : PySem.W.nsIn K mainGlobals "WORDS" = some (some (.ref bW))) (hW : WordsOk K bW)
    (z_len : PySem.W.nsIn K mainGlobals "len" = some none) (z_range : PySem.W.nsIn K mainGlobals "range" = some none) (z_sorted : PySem.W.nsIn K mainGlobals "sorted" = some none) (z_set : PySem.W.nsIn K mainGlobals "set" = some none) (z_sum : PySem.W.nsIn K mainGlobals "sum" = some none) (z_list : PySem.W.nsIn K mainGlobals "list" = some none) (z_tuple : PySem.W.nsIn K mainGlobals "tuple" = some none) (z_dict : PySem.W.nsIn K mainGlobals "dict" = some none) (z_isinstance : PySem.W.nsIn K mainGlobals "isinstance" = some none) (z_all : PySem.W.nsIn K mainGlobals "all" = some none) (z_min : PySem.W.nsIn K mainGlobals "min" = some none) (z_max : PySem.W.nsIn K mainGlobals "max" = some none) (z_int : PySem.W.nsIn K mainGlobals "int" = some none) (z_bool : PySem.W.nsIn K mainGlobals "bool" = some none) (z_str : PySem.W.nsIn K mainGlobals "str" = some none) (z_abs : PySem.W.nsIn K mainGlobals "abs" = some none)
    (F_is_whole : HasF K mg "is_whole" s_is_whole) (F_is_tuple_of : HasF K mg "is_tuple_of" s_is_tuple_of) (F_are_whole : HasF K mg "are_whole" s_are_whole) (F_pairs_of : HasF K mg "pairs_of" s_pairs_of) (F_pair_of : HasF K mg "pair_of" s_pair_of) (F_company_by : HasF K mg "company_by" s_company_by) (F_ties_in : HasF K mg "ties_in" s_ties_in) (F_need_named : HasF K mg "need_named" s_need_named) (F_answer_of : HasF K mg "answer_of" s_answer_of) (F_behind : HasF K mg "behind" s_behind) (F_run_by : HasF K mg "run_by" s_run_by) (F_are_two_named : HasF K mg "are_two_named" s_are_two_named) (F_are_answers : HasF K mg "are_answers" s_are_answers) (F_fits_deed : HasF K mg "fits_deed" s_fits_deed) (F_fits_choice : HasF K mg "fits_choice" s_fits_choice) (F_items_in : HasF K mg "items_in" s_items_in) (F_fits_script : HasF K mg "fits_script" s_fits_script) (F_need_scripts : HasF K mg "need_scripts" s_need_scripts) (F_twos_of : HasF K mg "twos_of" s_twos_of) (F_parted_in : HasF K mg "parted_in" s_parted_in) (F_lots_within : HasF K mg "lots_within" s_lots_within) (F_views_at : HasF K mg "views_at" s_views_at) (F_parting_views : HasF K mg "parting_views" s_parting_views) (F_all_starts : HasF K mg "all_starts" s_all_starts) (F_lots_of : HasF K mg "lots_of" s_lots_of) (F_parted_of : HasF K mg "parted_of" s_parted_of) (F_fewest_starts : HasF K mg "fewest_starts" s_fewest_starts) (F_telling_starts : HasF K mg "telling_starts" s_telling_starts) (F__law_roll : HasF K mg "_law_roll" s__law_roll) (F__law_some : HasF K mg "_law_some" s__law_some) (F__law_two : HasF K mg "_law_two" s__law_two) (F__law_pairs : HasF K mg "_law_pairs" s__law_pairs) (F__law_knows : HasF K mg "_law_knows" s__law_knows) (F__law_behind : HasF K mg "_law_behind" s__law_behind) (F__law_done : HasF K mg "_law_done" s__law_done) (F__law_answers : HasF K mg "_law_answers" s__law_answers) (F__law_deed : HasF K mg "_law_deed" s__law_deed) (F__law_items : HasF K mg "_law_items" s__law_items) (F__law_count : HasF K mg "_law_count" s__law_count) (F__law_script : HasF K mg "_law_script" s__law_script) (F__law_scripts : HasF K mg "_law_scripts" s__law_scripts) (F__law_parted : HasF K mg "_law_parted" s__law_parted) (F__law_starts : HasF K mg "_law_starts" s__law_starts) (F__law_parted_at : HasF K mg "_law_parted_at" s__law_parted_at) (F__law_least : HasF K mg "_law_least" s__law_least) :
    ∃ fd : FuncData, (∀ (s : Shared) (v : Value), BindsTo s fd ⟨[v], []⟩ [("_law_script_here", v)]) ∧ ∀ base : Heap, K.In base → base.Ns mainGlobals mg → FnOk l.prog w K mg base CX0 9 fa fd ["_law_script_here"] (spLaw K) := by
  have e := hfa.symm.trans (PySem.W.mg_of X G a2)
  cases e
  exact ⟨PySem.W.fnOf "law" "law" (defArgs s_law) (defBody s_law) (defScope s_law) .none kV2 dc2 pm2 an2 cd2 ct2, fun s v => .of_eq rfl, fun base _ _ =>
    law_all ⟨PySem.W.mg_none_of X G z_len, PySem.W.mg_none_of X G z_range, PySem.W.mg_none_of X G z_sorted, PySem.W.mg_none_of X G z_set, PySem.W.mg_none_of X G z_sum, PySem.W.mg_none_of X G z_list, PySem.W.mg_none_of X G z_tuple, PySem.W.mg_none_of X G z_dict, PySem.W.mg_none_of X G z_isinstance, PySem.W.mg_none_of X G z_all, PySem.W.mg_none_of X G z_min, PySem.W.mg_none_of X G z_max, PySem.W.mg_none_of X G z_int, PySem.W.mg_none_of X G z_bool, PySem.W.mg_none_of X G z_str, PySem.W.mg_none_of X G z_abs⟩ (fun_mk l2 c2 k2) (fun_mk l3 c3 k3) (PySem.W.mg_of X G a3) hW ⟨_, PySem.W.mg_of X G aN, tN, rfl⟩ ⟨_, PySem.W.mg_of X G aI, tI, rfl⟩ ⟨_, PySem.W.mg_of X G aD, tD, rfl⟩ ⟨_, PySem.W.mg_of X G aW, rfl⟩
      F_is_whole F_is_tuple_of F_are_whole F_pairs_of F_pair_of F_company_by F_ties_in F_need_named F_answer_of F_behind F_run_by F_are_two_named F_are_answers F_fits_deed F_fits_choice F_items_in F_fits_script F_need_scripts F_twos_of F_parted_in F_lots_within F_views_at F_parting_views F_all_starts F_lots_of F_parted_of F_fewest_starts F_telling_starts F__law_roll F__law_some F__law_two F__law_pairs F__law_knows F__law_behind F__law_done F__law_answers F__law_deed F__law_items F__law_count F__law_script F__law_scripts F__law_parted F__law_starts F__law_parted_at F__law_least⟩
end DX3

end DL
open PySem PySem.W PyProof.Rows
set_option maxHeartbeats 0 in
theorem PySem.Challenge.cw_twobesides_k64_whole_fewest_starts_holds : PySem.Challenge.rw_twobesides_k64_whole_fewest_starts.Holds := by
  w_on; o_law; k_head; (case hw => w_witness2)
  k_fill
  refine L2.walk_of (l := PySem.Challenge.rw_twobesides_k64_whole_fewest_starts) (n := 63) (k := 9) (x := "_law_script_here") (CX := fun _ => L2.CX0) (sp := fun w => DL.spLaw _) rfl (by decide) rfl ⟨rfl, by decide, by decide⟩ (fun w h Y => PySem.W.kIn_of Y) ?F (fun _ _ a ns hl _ hS => ⟨a, ns, rfl, hS, hl, fun _ => rfl⟩) (fun _ _ _ _ _ h => h)
  case F =>
    intro w mg fa h KX G hmg
    refine' DL.all_mk KX G hmg ?a2 ?l2 ?c2 ?k2 ?a3 ?l3 ?c3 ?k3 ?aN ?aI ?aD ?aW (DL.words_mk ?lW) ?z_len ?z_range ?z_sorted ?z_set ?z_sum ?z_list ?z_tuple ?z_dict ?z_isinstance ?z_all ?z_min ?z_max ?z_int ?z_bool ?z_str ?z_abs (DL.hasF_mk KX G ?a_is_whole ?l_is_whole ?c_is_whole ?k_is_whole) (DL.hasF_mk KX G ?a_is_tuple_of ?l_is_tuple_of ?c_is_tuple_of ?k_is_tuple_of) (DL.hasF_mk KX G ?a_are_whole ?l_are_whole ?c_are_whole ?k_are_whole) (DL.hasF_mk KX G ?a_pairs_of ?l_pairs_of ?c_pairs_of ?k_pairs_of) (DL.hasF_mk KX G ?a_pair_of ?l_pair_of ?c_pair_of ?k_pair_of) (DL.hasF_mk KX G ?a_company_by ?l_company_by ?c_company_by ?k_company_by) (DL.hasF_mk KX G ?a_ties_in ?l_ties_in ?c_ties_in ?k_ties_in) (DL.hasF_mk KX G ?a_need_named ?l_need_named ?c_need_named ?k_need_named) (DL.hasF_mk KX G ?a_answer_of ?l_answer_of ?c_answer_of ?k_answer_of) (DL.hasF_mk KX G ?a_behind ?l_behind ?c_behind ?k_behind) (DL.hasF_mk KX G ?a_run_by ?l_run_by ?c_run_by ?k_run_by) (DL.hasF_mk KX G ?a_are_two_named ?l_are_two_named ?c_are_two_named ?k_are_two_named) (DL.hasF_mk KX G ?a_are_answers ?l_are_answers ?c_are_answers ?k_are_answers) (DL.hasF_mk KX G ?a_fits_deed ?l_fits_deed ?c_fits_deed ?k_fits_deed) (DL.hasF_mk KX G ?a_fits_choice ?l_fits_choice ?c_fits_choice ?k_fits_choice) (DL.hasF_mk KX G ?a_items_in ?l_items_in ?c_items_in ?k_items_in) (DL.hasF_mk KX G ?a_fits_script ?l_fits_script ?c_fits_script ?k_fits_script) (DL.hasF_mk KX G ?a_need_scripts ?l_need_scripts ?c_need_scripts ?k_need_scripts) (DL.hasF_mk KX G ?a_twos_of ?l_twos_of ?c_twos_of ?k_twos_of) (DL.hasF_mk KX G ?a_parted_in ?l_parted_in ?c_parted_in ?k_parted_in) (DL.hasF_mk KX G ?a_lots_within ?l_lots_within ?c_lots_within ?k_lots_within) (DL.hasF_mk KX G ?a_views_at ?l_views_at ?c_views_at ?k_views_at) (DL.hasF_mk KX G ?a_parting_views ?l_parting_views ?c_parting_views ?k_parting_views) (DL.hasF_mk KX G ?a_all_starts ?l_all_starts ?c_all_starts ?k_all_starts) (DL.hasF_mk KX G ?a_lots_of ?l_lots_of ?c_lots_of ?k_lots_of) (DL.hasF_mk KX G ?a_parted_of ?l_parted_of ?c_parted_of ?k_parted_of) (DL.hasF_mk KX G ?a_fewest_starts ?l_fewest_starts ?c_fewest_starts ?k_fewest_starts) (DL.hasF_mk KX G ?a_telling_starts ?l_telling_starts ?c_telling_starts ?k_telling_starts) (DL.hasF_mk KX G ?a__law_roll ?l__law_roll ?c__law_roll ?k__law_roll) (DL.hasF_mk KX G ?a__law_some ?l__law_some ?c__law_some ?k__law_some) (DL.hasF_mk KX G ?a__law_two ?l__law_two ?c__law_two ?k__law_two) (DL.hasF_mk KX G ?a__law_pairs ?l__law_pairs ?c__law_pairs ?k__law_pairs) (DL.hasF_mk KX G ?a__law_knows ?l__law_knows ?c__law_knows ?k__law_knows) (DL.hasF_mk KX G ?a__law_behind ?l__law_behind ?c__law_behind ?k__law_behind) (DL.hasF_mk KX G ?a__law_done ?l__law_done ?c__law_done ?k__law_done) (DL.hasF_mk KX G ?a__law_answers ?l__law_answers ?c__law_answers ?k__law_answers) (DL.hasF_mk KX G ?a__law_deed ?l__law_deed ?c__law_deed ?k__law_deed) (DL.hasF_mk KX G ?a__law_items ?l__law_items ?c__law_items ?k__law_items) (DL.hasF_mk KX G ?a__law_count ?l__law_count ?c__law_count ?k__law_count) (DL.hasF_mk KX G ?a__law_script ?l__law_script ?c__law_script ?k__law_script) (DL.hasF_mk KX G ?a__law_scripts ?l__law_scripts ?c__law_scripts ?k__law_scripts) (DL.hasF_mk KX G ?a__law_parted ?l__law_parted ?c__law_parted ?k__law_parted) (DL.hasF_mk KX G ?a__law_starts ?l__law_starts ?c__law_starts ?k__law_starts) (DL.hasF_mk KX G ?a__law_parted_at ?l__law_parted_at ?c__law_parted_at ?k__law_parted_at) (DL.hasF_mk KX G ?a__law_least ?l__law_least ?c__law_least ?k__law_least)
    (case a2 => k_is); (case l2 => k_is); (case c2 => k_is); (case k2 => k_is)
    (case a3 => k_is); (case l3 => k_is); (case c3 => k_is); (case k3 => k_is)
    (case aN => k_is); (case aI => k_is); (case aD => k_is); (case aW => k_is)
    (case lW => k_is); (case z_len => k_is); (case z_range => k_is); (case z_sorted => k_is)
    (case z_set => k_is); (case z_sum => k_is); (case z_list => k_is); (case z_tuple => k_is)
    (case z_dict => k_is); (case z_isinstance => k_is); (case z_all => k_is); (case z_min => k_is)
    (case z_max => k_is); (case z_int => k_is); (case z_bool => k_is); (case z_str => k_is)
    (case z_abs => k_is); (case a_is_whole => k_is); (case l_is_whole => k_is); (case c_is_whole => k_is)
    (case k_is_whole => k_is); (case a_is_tuple_of => k_is); (case l_is_tuple_of => k_is); (case c_is_tuple_of => k_is)
    (case k_is_tuple_of => k_is); (case a_are_whole => k_is); (case l_are_whole => k_is); (case c_are_whole => k_is)
    (case k_are_whole => k_is); (case a_pairs_of => k_is); (case l_pairs_of => k_is); (case c_pairs_of => k_is)
    (case k_pairs_of => k_is); (case a_pair_of => k_is); (case l_pair_of => k_is); (case c_pair_of => k_is)
    (case k_pair_of => k_is); (case a_company_by => k_is); (case l_company_by => k_is); (case c_company_by => k_is)
    (case k_company_by => k_is); (case a_ties_in => k_is); (case l_ties_in => k_is); (case c_ties_in => k_is)
    (case k_ties_in => k_is); (case a_need_named => k_is); (case l_need_named => k_is); (case c_need_named => k_is)
    (case k_need_named => k_is); (case a_answer_of => k_is); (case l_answer_of => k_is); (case c_answer_of => k_is)
    (case k_answer_of => k_is); (case a_behind => k_is); (case l_behind => k_is); (case c_behind => k_is)
    (case k_behind => k_is); (case a_run_by => k_is); (case l_run_by => k_is); (case c_run_by => k_is)
    (case k_run_by => k_is); (case a_are_two_named => k_is); (case l_are_two_named => k_is); (case c_are_two_named => k_is)
    (case k_are_two_named => k_is); (case a_are_answers => k_is); (case l_are_answers => k_is); (case c_are_answers => k_is)
    (case k_are_answers => k_is); (case a_fits_deed => k_is); (case l_fits_deed => k_is); (case c_fits_deed => k_is)
    (case k_fits_deed => k_is); (case a_fits_choice => k_is); (case l_fits_choice => k_is); (case c_fits_choice => k_is)
    (case k_fits_choice => k_is); (case a_items_in => k_is); (case l_items_in => k_is); (case c_items_in => k_is)
    (case k_items_in => k_is); (case a_fits_script => k_is); (case l_fits_script => k_is); (case c_fits_script => k_is)
    (case k_fits_script => k_is); (case a_need_scripts => k_is); (case l_need_scripts => k_is); (case c_need_scripts => k_is)
    (case k_need_scripts => k_is); (case a_twos_of => k_is); (case l_twos_of => k_is); (case c_twos_of => k_is)
    (case k_twos_of => k_is); (case a_parted_in => k_is); (case l_parted_in => k_is); (case c_parted_in => k_is)
    (case k_parted_in => k_is); (case a_lots_within => k_is); (case l_lots_within => k_is); (case c_lots_within => k_is)
    (case k_lots_within => k_is); (case a_views_at => k_is); (case l_views_at => k_is); (case c_views_at => k_is)
    (case k_views_at => k_is); (case a_parting_views => k_is); (case l_parting_views => k_is); (case c_parting_views => k_is)
    (case k_parting_views => k_is); (case a_all_starts => k_is); (case l_all_starts => k_is); (case c_all_starts => k_is)
    (case k_all_starts => k_is); (case a_lots_of => k_is); (case l_lots_of => k_is); (case c_lots_of => k_is)
    (case k_lots_of => k_is); (case a_parted_of => k_is); (case l_parted_of => k_is); (case c_parted_of => k_is)
    (case k_parted_of => k_is); (case a_fewest_starts => k_is); (case l_fewest_starts => k_is); (case c_fewest_starts => k_is)
    (case k_fewest_starts => k_is); (case a_telling_starts => k_is); (case l_telling_starts => k_is); (case c_telling_starts => k_is)
    (case k_telling_starts => k_is); (case a__law_roll => k_is); (case l__law_roll => k_is); (case c__law_roll => k_is)
    (case k__law_roll => k_is); (case a__law_some => k_is); (case l__law_some => k_is); (case c__law_some => k_is)
    (case k__law_some => k_is); (case a__law_two => k_is); (case l__law_two => k_is); (case c__law_two => k_is)
    (case k__law_two => k_is); (case a__law_pairs => k_is); (case l__law_pairs => k_is); (case c__law_pairs => k_is)
    (case k__law_pairs => k_is); (case a__law_knows => k_is); (case l__law_knows => k_is); (case c__law_knows => k_is)
    (case k__law_knows => k_is); (case a__law_behind => k_is); (case l__law_behind => k_is); (case c__law_behind => k_is)
    (case k__law_behind => k_is); (case a__law_done => k_is); (case l__law_done => k_is); (case c__law_done => k_is)
    (case k__law_done => k_is); (case a__law_answers => k_is); (case l__law_answers => k_is); (case c__law_answers => k_is)
    (case k__law_answers => k_is); (case a__law_deed => k_is); (case l__law_deed => k_is); (case c__law_deed => k_is)
    (case k__law_deed => k_is); (case a__law_items => k_is); (case l__law_items => k_is); (case c__law_items => k_is)
    (case k__law_items => k_is); (case a__law_count => k_is); (case l__law_count => k_is); (case c__law_count => k_is)
    (case k__law_count => k_is); (case a__law_script => k_is); (case l__law_script => k_is); (case c__law_script => k_is)
    (case k__law_script => k_is); (case a__law_scripts => k_is); (case l__law_scripts => k_is); (case c__law_scripts => k_is)
    (case k__law_scripts => k_is); (case a__law_parted => k_is); (case l__law_parted => k_is); (case c__law_parted => k_is)
    (case k__law_parted => k_is); (case a__law_starts => k_is); (case l__law_starts => k_is); (case c__law_starts => k_is)
    (case k__law_starts => k_is); (case a__law_parted_at => k_is); (case l__law_parted_at => k_is); (case c__law_parted_at => k_is)
    (case k__law_parted_at => k_is); (case a__law_least => k_is); (case l__law_least => k_is); (case c__law_least => k_is)
    (case k__law_least => k_is)
