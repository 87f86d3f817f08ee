import PyProof.Rows.All
import Wide.All
import OpenK.AllK
import Wide.FinOn
import KE.KStateDown
import HandS.Base
import HandS.Call
import HandS.Ends
import HandS.More
import HandS.Words
import HandS.WordsExc
import HandS.Defaults
import HandS.Head0
import HandS.Head1
import HandS.Head2
import HandS.HeadEnd
import HandS.HeadHook1
import HandS.HeadHook2
import HandS.ForMost
import HandS.ForExc
import HandS.Walk
import HandS.Deep
import HandS.TupAny
import HandS.TupMul
import HandS.SortInts
import HandS.TupSets
import HandS.Conv
import HandS.DictTup
import HandS.DictComp
import HandS.Zip
import HandS.IsInst
import HandS.Style
import HandS.Wide
import KE.KDictOf
import KE.KDictCopyH
import KE.GoesEnum
import KE.KDictZip
import KE.DataMinMax
import KE.KDictDisplayH
import PySem.Challenge.RW_freshpairs_k13_whole_small_floors_by_wor
set_option Elab.async false
set_option linter.all false
set_option maxRecDepth 100000
set_option maxHeartbeats 0
section
/-! VS: values without a heap -/
namespace VS
open PySem PySem.Spec PyProof.Rows L2

inductive D where
  | non | bl (b : Bool) | int (i : Int) | str (x : Str) | lst (xs : List D) | tup (xs : List D) | dct (kvs : List (List Key × D)) | opq (v : V)

mutual
def Rp (G : Hp) : V → D → Prop
  | v, .non => v = .non
  | v, .bl b => v = .bl b
  | v, .int i => v = .int i
  | v, .str x => v = .str x
  | v, .lst ds => ∃ a vs, v = .ref a ∧ G a = some (.lst vs) ∧ ds.length ≤ sizeLine ∧ RpA G vs ds
  | v, .tup ds => ∃ a vs, v = .ref a ∧ G a = some (.tup vs) ∧ ds.length ≤ sizeLine ∧ RpA G vs ds
  | v, .dct kvs => ∃ a ws, v = .ref a ∧ G a = some (.dT ws) ∧ kvs.length ≤ sizeLine ∧ RpK G ws kvs
  | v, .opq w => v = w
def RpA (G : Hp) : List V → List D → Prop
  | [], [] => True
  | v :: vs, d :: ds => Rp G v d ∧ RpA G vs ds
  | _, _ => False
def RpK (G : Hp) : List (List Key × V) → List (List Key × D) → Prop
  | [], [] => True
  | w :: ws, k :: kvs => (w.1 = k.1 ∧ Rp G w.2 k.2) ∧ RpK G ws kvs
  | _, _ => False
end

/-! ### relations of heaps -/
/-- G stands in H; a dict may be locked -/
def SameR (G H : Hp) : Prop := ∀ b o, G b = some o → H b = some o ∨ ((∃ x, H b = some (.frz x o)) ∧ ∃ ws, o = .dT ws)
theorem SameR.of {H : Hp} : SameR H H := fun _ _ h => .inl h
theorem SameR.up {G H H2 : Hp} (g : SameR G H) (s : Same H H2) : SameR G H2 := fun b o e => by
  rcases g b o e with h | ⟨⟨x, h⟩, w⟩
  · exact .inl (s _ _ h)
  · exact .inr ⟨⟨x, s _ _ h⟩, w⟩
theorem SameR.lst {G H : Hp} (g : SameR G H) {a : Addr} {xs : List V} (e : G a = some (.lst xs)) : H a = some (.lst xs) := by
  rcases g a _ e with h | ⟨_, w, z⟩
  · exact h
  · cases z
theorem SameR.tup {G H : Hp} (g : SameR G H) {a : Addr} {xs : List V} (e : G a = some (.tup xs)) : H a = some (.tup xs) := by
  rcases g a _ e with h | ⟨_, w, z⟩
  · exact h
  · cases z
theorem SameR.dct {G H : Hp} (g : SameR G H) {a : Addr} {ws : List (List Key × V)} (e : G a = some (.dT ws)) : Rd H a (.dT ws) := by
  rcases g a _ e with h | ⟨h, _⟩
  · exact .inl h
  · exact .inr h
mutual
theorem Rp.up {G G2 : Hp} (s : Same G G2) : ∀ (d : D) (v : V), Rp G v d → Rp G2 v d
  | .non, _, h => h
  | .bl _, _, h => h
  | .int _, _, h => h
  | .str _, _, h => h
  | .lst ds, _, ⟨a, vs, e, g, l, r⟩ => ⟨a, vs, e, s _ _ g, l, RpA.up s ds vs r⟩
  | .tup ds, _, ⟨a, vs, e, g, l, r⟩ => ⟨a, vs, e, s _ _ g, l, RpA.up s ds vs r⟩
  | .dct kvs, _, ⟨a, ws, e, g, l, r⟩ => ⟨a, ws, e, s _ _ g, l, RpK.up s kvs ws r⟩
  | .opq _, _, h => h
theorem RpA.up {G G2 : Hp} (s : Same G G2) : ∀ (ds : List D) (vs : List V), RpA G vs ds → RpA G2 vs ds
  | [], [], _ => trivial
  | d :: ds, v :: vs, h => ⟨Rp.up s d v h.1, RpA.up s ds vs h.2⟩
  | [], _ :: _, h => h.elim
  | _ :: _, [], h => h.elim
theorem RpK.up {G G2 : Hp} (s : Same G G2) : ∀ (ds : List (List Key × D)) (vs : List (List Key × V)), RpK G vs ds → RpK G2 vs ds
  | [], [], _ => trivial
  | d :: ds, v :: vs, h => ⟨⟨h.1.1, Rp.up s d.2 v.2 h.1.2⟩, RpK.up s ds vs h.2⟩
  | [], _ :: _, h => h.elim
  | _ :: _, [], h => h.elim
end
theorem RpA.len {G : Hp} : ∀ {vs : List V} {ds : List D}, RpA G vs ds → vs.length = ds.length
  | [], [], _ => rfl
  | _ :: vs, _ :: ds, h => congrArg Nat.succ (RpA.len (vs := vs) (ds := ds) h.2)
  | [], _ :: _, h => h.elim
  | _ :: _, [], h => h.elim
theorem RpA.app {G : Hp} : ∀ {vs ws : List V} {ds es : List D}, RpA G vs ds → RpA G ws es → RpA G (vs ++ ws) (ds ++ es)
  | [], _, [], _, _, h => h
  | _ :: _, _, _ :: _, _, h, q => ⟨h.1, RpA.app h.2 q⟩
  | [], _, _ :: _, _, h, _ => h.elim
  | _ :: _, _, [], _, h, _ => h.elim
theorem RpA.get {G : Hp} : ∀ {vs : List V} {ds : List D} {i : Nat} {d : D}, RpA G vs ds → ds[i]? = some d → ∃ v, vs[i]? = some v ∧ Rp G v d
  | [], [], _, _, _, e => by simp at e
  | v :: vs, d' :: ds, 0, d, h, e => by
    simp at e
    subst e
    exact ⟨v, rfl, h.1⟩
  | v :: vs, d' :: ds, i + 1, d, h, e => by
    obtain ⟨w, a, b⟩ := RpA.get (i := i) (d := d) h.2 (by simpa using e)
    exact ⟨w, by simpa using a, b⟩
  | [], _ :: _, _, _, h, _ => h.elim
  | _ :: _, [], _, _, h, _ => h.elim
theorem RpA.get' {G : Hp} : ∀ {vs : List V} {ds : List D} {i : Nat} {v : V}, RpA G vs ds → vs[i]? = some v → ∃ d, ds[i]? = some d ∧ Rp G v d
  | [], [], _, _, _, e => by simp at e
  | v' :: vs, d' :: ds, 0, d, h, e => by
    simp at e
    subst e
    exact ⟨d', rfl, h.1⟩
  | v' :: vs, d' :: ds, i + 1, d, h, e => by
    obtain ⟨w, a, b⟩ := RpA.get' (i := i) (v := d) h.2 (by simpa using e)
    exact ⟨w, by simpa using a, b⟩
  | [], _ :: _, _, _, h, _ => h.elim
  | _ :: _, [], _, _, h, _ => h.elim
theorem RpA.take {G : Hp} : ∀ {vs : List V} {ds : List D} (n : Nat), RpA G vs ds → RpA G (vs.take n) (ds.take n)
  | [], [], 0, h => h
  | [], [], _ + 1, h => h
  | _ :: _, _ :: _, 0, _ => trivial
  | _ :: _, _ :: _, n + 1, h => ⟨h.1, RpA.take n h.2⟩
  | [], _ :: _, _, h => h.elim
  | _ :: _, [], _, h => h.elim
theorem RpA.drop {G : Hp} : ∀ {vs : List V} {ds : List D} (n : Nat), RpA G vs ds → RpA G (vs.drop n) (ds.drop n)
  | [], [], 0, h => h
  | [], [], _ + 1, h => h
  | _ :: _, _ :: _, 0, h => h
  | _ :: _, _ :: _, n + 1, h => RpA.drop n h.2
  | [], _ :: _, _, h => h.elim
  | _ :: _, [], _, h => h.elim
theorem RpA.set {G : Hp} {v : V} {d : D} (r : Rp G v d) : ∀ {vs : List V} {ds : List D} (i : Nat), RpA G vs ds → RpA G (vs.set i v) (ds.set i d)
  | [], [], _, h => h
  | _ :: _, _ :: _, 0, h => ⟨r, h.2⟩
  | _ :: _, _ :: _, i + 1, h => ⟨h.1, RpA.set r i h.2⟩
  | [], _ :: _, _, h => h.elim
  | _ :: _, [], _, h => h.elim
theorem RpA.rep {G : Hp} {v : V} {d : D} (r : Rp G v d) : ∀ (n : Nat), RpA G (List.replicate n v) (List.replicate n d)
  | 0 => trivial
  | n + 1 => ⟨r, RpA.rep r n⟩
theorem RpA.ints {G : Hp} : ∀ {vs : List V} (ns : List Int), RpA G vs (ns.map D.int) → vs = ns.map V.int
  | [], [], _ => rfl
  | v :: vs, n :: ns, h => by
    have e : v = .int n := h.1
    rw [e, RpA.ints (vs := vs) ns h.2]
    rfl
  | [], _ :: _, h => h.elim
  | _ :: _, [], h => h.elim
theorem RpA.ofInts {G : Hp} : ∀ (ns : List Int), RpA G (ns.map V.int) (ns.map D.int)
  | [] => trivial
  | _ :: ns => ⟨rfl, RpA.ofInts ns⟩

/-! there, and no tuple -/
def NT (u : Option HO) : Prop := u ≠ none ∧ ∀ vs, u ≠ some (.tup vs)
theorem NT.lst {vs : List V} : NT (some (.lst vs)) := ⟨fun z => (nomatch z), fun vs z => (nomatch z)⟩
theorem NT.dT {vs : List (List Key × V)} : NT (some (.dT vs)) := ⟨fun z => (nomatch z), fun vs z => (nomatch z)⟩
theorem NT.up {B H : Hp} (s : Same B H) {x : Addr} (n : NT (B x)) : NT (H x) := by
  cases e : B x with
  | none => exact absurd e n.1
  | some o => rw [s x o e, ← e]; exact n
structure Ext (G H G2 H2 : Hp) : Prop where
  hh : Same H H2
  gg : Same G G2
  gh : SameR G2 H2
  sep : ∀ b, G b = none → NT (H b) → G2 b = none
  nl : ∀ a ws, G2 a = some (.dT ws) → G a = none → H2 a = some (.dT ws)
theorem Ext.refl {G H : Hp} (g : SameR G H) : Ext G H G H := ⟨.refl H, .refl G, g, fun _ e _ => e, fun a ws e n => by rw [n] at e; cases e⟩
theorem Ext.trans {G H G2 H2 G3 H3 : Hp} (a : Ext G H G2 H2) (b : Ext G2 H2 G3 H3) : Ext G H G3 H3 :=
  ⟨a.hh.trans b.hh, a.gg.trans b.gg, b.gh, fun x e n => b.sep x (a.sep x e n) (n.up a.hh), fun x ws e n => by
    cases q : G2 x with
    | none => exact b.nl x ws e q
    | some o =>
      have e2 := b.gg x o q
      rw [e] at e2
      cases e2
      exact b.hh _ _ (a.nl x ws q n)⟩
theorem none_of_R {G H : Hp} (g : SameR G H) {p : Addr} (hp : H p = none) : G p = none := by
  cases q : G p with
  | none => rfl
  | some o =>
    rcases g p o q with h | ⟨⟨x, h⟩, _⟩
    · rw [hp] at h; cases h
    · rw [hp] at h; cases h
/-- a new object in both -/
theorem Ext.new {G H : Hp} {p : Addr} {o : HO} (g : SameR G H) (hp : H p = none) : Ext G H (upd G p o) (upd H p o) := by
  have gp := none_of_R g hp
  refine ⟨fun b u e => by rw [upd_ne (ne_of_none e hp)]; exact e, fun b u e => by rw [upd_ne (ne_of_none e gp)]; exact e, fun b u e => ?_, fun b e n => ?_, fun b ws e n => ?_⟩
  · by_cases hb : b = p
    · subst hb
      rw [upd_same] at e
      exact .inl (by rw [upd_same]; exact e)
    · rw [upd_ne hb] at e
      rcases g b u e with h | ⟨⟨x, h⟩, w⟩
      · exact .inl (by rw [upd_ne hb]; exact h)
      · exact .inr ⟨⟨x, by rw [upd_ne hb]; exact h⟩, w⟩
  · have hb : b ≠ p := fun z => n.1 (z ▸ hp)
    rw [upd_ne hb]
    exact e
  · by_cases hb : b = p
    · subst hb
      rw [upd_same] at e ⊢
      exact e
    · rw [upd_ne hb, n] at e
      cases e
/-- a new object beside, not in G -/
theorem Ext.side {G H : Hp} {p : Addr} {o : HO} (g : SameR G H) (hp : H p = none) : Ext G H G (upd H p o) := by
  refine ⟨fun b u e => by rw [upd_ne (ne_of_none e hp)]; exact e, .refl G, fun b u e => ?_, fun b e _ => e, fun a ws e n => by rw [n] at e; cases e⟩
  have hb : b ≠ p := fun z => by rw [z, none_of_R g hp] at e; cases e
  rcases g b u e with h | ⟨⟨x, h⟩, w⟩
  · exact .inl (by rw [upd_ne hb]; exact h)
  · exact .inr ⟨⟨x, by rw [upd_ne hb]; exact h⟩, w⟩

/-- a tuple that stands is taken as data -/
theorem Ext.take {G H : Hp} {p : Addr} {vs : List V} (g : SameR G H) (hp : H p = some (.tup vs)) : ∃ G2, Ext G H G2 H ∧ G2 p = some (.tup vs) := by
  cases q : G p with
  | some o =>
    refine ⟨G, .refl g, ?_⟩
    rcases g p o q with h | ⟨⟨x, h⟩, _⟩
    · rw [q, ← h]; exact hp
    · rw [hp] at h; cases h
  | none =>
    refine ⟨upd G p (.tup vs), ⟨.refl H, fun b u e => by rw [upd_ne (ne_of_none e q)]; exact e, fun b u e => ?_, fun b e n => ?_, fun b ws e n => ?_⟩, upd_same⟩
    · by_cases hb : b = p
      · subst hb
        rw [upd_same] at e
        cases e
        exact .inl hp
      · rw [upd_ne hb] at e
        exact g b u e
    · have hb : b ≠ p := fun z => n.2 vs (z ▸ hp)
      rw [upd_ne hb]
      exact e
    · by_cases hb : b = p
      · subst hb
        rw [upd_same] at e
        cases e
      · rw [upd_ne hb, n] at e
        cases e

/-! ### the frame: data by slots, owned cells by slots -/
abbrev Rho := List (Option D)
def gt : Rho → Nat → Option D
  | [], _ => none
  | x :: _, 0 => x
  | _ :: r, i + 1 => gt r i
def put : Rho → Nat → Option D → Rho
  | [], _, _ => []
  | _ :: r, 0, d => d :: r
  | x :: r, i + 1, d => x :: put r i d
theorem gt_put_same : ∀ {ρ : Rho} {i : Nat} {d : Option D} {e : D}, gt (put ρ i d) i = some e → d = some e ∧ i < ρ.length
  | [], i, d, e, h => by cases i <;> cases h
  | _ :: r, 0, d, e, h => ⟨h, Nat.zero_lt_succ _⟩
  | x :: r, i + 1, d, e, h => by
    obtain ⟨a, b⟩ := gt_put_same (ρ := r) (i := i) h
    exact ⟨a, Nat.succ_lt_succ b⟩
theorem gt_put_ne : ∀ {ρ : Rho} {i j : Nat} {d : Option D}, j ≠ i → gt (put ρ i d) j = gt ρ j
  | [], _, _, _, _ => rfl
  | _ :: _, 0, 0, _, h => absurd rfl h
  | _ :: _, 0, _ + 1, _, _ => rfl
  | _ :: _, _ + 1, 0, _, _ => rfl
  | _ :: r, i + 1, j + 1, d, h => gt_put_ne (ρ := r) fun e => h (congrArg Nat.succ e)
theorem put_len : ∀ {ρ : Rho} {i : Nat} {d : Option D}, (put ρ i d).length = ρ.length
  | [], _, _ => rfl
  | _ :: _, 0, _ => rfl
  | _ :: r, i + 1, d => congrArg Nat.succ (put_len (ρ := r))
theorem gt_lt : ∀ {ρ : Rho} {i : Nat} {d : D}, gt ρ i = some d → i < ρ.length
  | [], i, d, h => by cases i <;> cases h
  | _ :: r, 0, d, h => Nat.zero_lt_succ _
  | x :: r, i + 1, d, h => Nat.succ_lt_succ (gt_lt (ρ := r) h)
inductive Cell where
  | lst (xs : List D) | dct (kvs : List (List Key × D))
abbrev Mem := List (Nat × Cell)
def mget : Mem → Nat → Option Cell
  | [], _ => none
  | (j, c) :: r, i => match Nat.beq j i with
    | true => some c
    | false => mget r i
def mdel : Mem → Nat → Mem
  | [], _ => []
  | (j, c) :: r, i => match Nat.beq j i with
    | true => mdel r i
    | false => (j, c) :: mdel r i
def mset (μ : Mem) (i : Nat) (c : Cell) : Mem := (i, c) :: mdel μ i
theorem mget_del_same : ∀ {μ : Mem} {i : Nat}, mget (mdel μ i) i = none
  | [], _ => rfl
  | (j, c) :: r, i => by
    unfold mdel
    cases e : Nat.beq j i with
    | true => exact mget_del_same
    | false =>
      show (match Nat.beq j i with | true => some c | false => mget (mdel r i) i) = none
      rw [e]
      exact mget_del_same
theorem mget_del_ne : ∀ {μ : Mem} {i j : Nat}, j ≠ i → mget (mdel μ i) j = mget μ j
  | [], _, _, _ => rfl
  | (k, c) :: r, i, j, h => by
    have ih := mget_del_ne (μ := r) h
    cases e : Nat.beq k i with
    | true =>
      have ek : k = i := Nat.eq_of_beq_eq_true e
      have q : Nat.beq k j = false := by
        cases z : Nat.beq k j with
        | false => rfl
        | true => exact absurd ((Nat.eq_of_beq_eq_true z).symm.trans ek) h
      have e1 : mdel ((k, c) :: r) i = mdel r i := by
        show (match Nat.beq k i with | true => mdel r i | false => (k, c) :: mdel r i) = mdel r i
        rw [e]
      have e2 : mget ((k, c) :: r) j = mget r j := by
        show (match Nat.beq k j with | true => some c | false => mget r j) = mget r j
        rw [q]
      rw [e1, e2]
      exact ih
    | false =>
      show mget (mdel ((k, c) :: r) i) j = mget ((k, c) :: r) j
      unfold mdel
      rw [e]
      show (match Nat.beq k j with | true => some c | false => mget (mdel r i) j) = (match Nat.beq k j with | true => some c | false => mget r j)
      rw [ih]
theorem mget_set_same {μ : Mem} {i : Nat} {c : Cell} : mget (mset μ i c) i = some c := by
  show (match Nat.beq i i with | true => some c | false => _) = some c
  rw [Nat.beq_refl]
theorem mget_set_ne {μ : Mem} {i j : Nat} {c : Cell} (h : j ≠ i) : mget (mset μ i c) j = mget μ j := by
  have q : Nat.beq i j = false := by
    cases z : Nat.beq i j with
    | false => rfl
    | true => exact absurd (Nat.eq_of_beq_eq_true z).symm h
  show (match Nat.beq i j with | true => some c | false => mget (mdel μ i) j) = mget μ j
  rw [q]
  exact mget_del_ne h
def CellAt (G H : Hp) (a : Addr) : Cell → Prop
  | .lst xs => ∃ vs, H a = some (.lst vs) ∧ xs.length ≤ sizeLine ∧ RpA G vs xs
  | .dct kvs => ∃ ws, H a = some (.dT ws) ∧ kvs.length ≤ sizeLine ∧ RpK G ws kvs
theorem CellAt.ne {G H : Hp} {a : Addr} : ∀ {c : Cell}, CellAt G H a c → H a ≠ none
  | .lst _, ⟨_, e, _⟩ => by rw [e]; exact fun z => by cases z
  | .dct _, ⟨_, e, _⟩ => by rw [e]; exact fun z => by cases z
theorem CellAt.nt {G H : Hp} {a : Addr} : ∀ {c : Cell}, CellAt G H a c → NT (H a)
  | .lst _, ⟨_, e, _⟩ => by rw [e]; exact .lst
  | .dct _, ⟨_, e, _⟩ => by rw [e]; exact .dT
theorem CellAt.up {G H G2 H2 : Hp} {a : Addr} (s : Same G G2) (h : H2 a = H a) : ∀ {c : Cell}, CellAt G H a c → CellAt G2 H2 a c
  | .lst _, ⟨vs, e, l, r⟩ => ⟨vs, h.trans e, l, RpA.up s _ _ r⟩
  | .dct _, ⟨vs, e, l, r⟩ => ⟨vs, h.trans e, l, RpK.up s _ _ r⟩
/-- what a body leans on: the heap at the entry without what it owns, the data at the entry, the owned parameter -/
structure Bs where
  B : Hp
  G0 : Hp
  k0 : Option Addr
  lk : List Addr
structure Rel (b : Bs) (σ : L2.St) (G H : Hp) (ρ : Rho) (μ : Mem) : Prop where
  bh : Same b.B H
  gh : SameR G H
  g0 : Same b.G0 G
  sep : ∀ x, b.G0 x = none → NT (b.B x) → G x = none
  len : ρ.length = σ.length
  dat : ∀ i d, gt ρ i = some d → ∃ v, σ[i]? = some (some v) ∧ Rp G v d
  own : ∀ i c, mget μ i = some c → ∃ a, σ[i]? = some (some (.ref a)) ∧ CellAt G H a c ∧ G a = none ∧ b.B a = none
  dis : ∀ i j a, mget μ i ≠ none → mget μ j ≠ none → σ[i]? = some (some (.ref a)) → σ[j]? = some (some (.ref a)) → i = j
  pin : ∀ k, b.k0 = some k → mget μ 0 ≠ none → σ[0]? = some (some (.ref k))
  nl : ∀ a ws, G a = some (.dT ws) → a ∉ b.lk → H a = some (.dT ws)
section
variable {b : Bs} {σ : L2.St} {G H G2 H2 : Hp} {ρ : Rho} {μ : Mem}
/-- new objects alone -/
theorem Rel.ext (R : Rel b σ G H ρ μ) (x : Ext G H G2 H2) : Rel b σ G2 H2 ρ μ := by
  refine ⟨R.bh.trans x.hh, x.gh, R.g0.trans x.gg, fun y e n => ?_, R.len, fun i d e => ?_, fun i c e => ?_, R.dis, R.pin, fun a ws e n => ?_⟩
  · exact x.sep y (R.sep y e n) (n.up R.bh)
  · obtain ⟨v, a, r⟩ := R.dat i d e
    exact ⟨v, a, Rp.up x.gg _ _ r⟩
  · obtain ⟨a, s, c1, ga, ba⟩ := R.own i c e
    have hs := c1.ne
    refine ⟨a, s, c1.up x.gg ?_, x.sep a ga c1.nt, ba⟩
    cases q : H a with
    | none => exact absurd q hs
    | some o => exact x.hh a o q
  · cases q : G a with
    | none => exact x.nl a ws e q
    | some o =>
      have e2 := x.gg a o q
      rw [e] at e2
      cases e2
      exact x.hh _ _ (R.nl a ws q n)
theorem Rel.some_of {i : Nat} {c : Cell} (R : Rel b σ G H ρ μ) (h : mget μ i = some c) : i < ρ.length := by
  obtain ⟨a, s, _⟩ := R.own i c h
  rw [R.len]
  exact (List.getElem?_eq_some_iff.mp s).1
/-- an owned cell is written -/
theorem Rel.write {i : Nat} {c : Cell} {a : Addr} {o : HO} (R : Rel b σ G H ρ μ) (hi : mget μ i = some c) (hs : σ[i]? = some (some (.ref a))) {c2 : Cell} (h2 : ∀ H', CellAt G (upd H' a o) a c2) : Rel b σ G (upd H a o) ρ (mset μ i c2) := by
  obtain ⟨a', s', c1, ga, ba⟩ := R.own i c hi
  have ea : a' = a := by
    rw [hs] at s'
    injection s' with s'
    injection s' with s'
    injection s' with s'
    exact s'.symm
  subst ea
  refine ⟨fun y u e => ?_, fun y u e => ?_, R.g0, R.sep, R.len, R.dat, fun j c' e => ?_, fun j k x hj hk e1 e2 => ?_, fun k hk hm => ?_, fun x ws e n => by rw [upd_ne (fun z => by rw [z, ga] at e; cases e)]; exact R.nl x ws e n⟩
  · have hy : y ≠ a' := fun z => by rw [z, ba] at e; cases e
    rw [upd_ne hy]
    exact R.bh y u e
  · have hy : y ≠ a' := fun z => by rw [z, ga] at e; cases e
    rcases R.gh y u e with h | ⟨⟨x, h⟩, w⟩
    · exact .inl (by rw [upd_ne hy]; exact h)
    · exact .inr ⟨⟨x, by rw [upd_ne hy]; exact h⟩, w⟩
  · by_cases hj : j = i
    · subst hj
      rw [mget_set_same] at e
      cases e
      exact ⟨a', hs, h2 H, ga, ba⟩
    · rw [mget_set_ne hj] at e
      obtain ⟨a2, s2, c3, g3, b3⟩ := R.own j c' e
      have hne : a2 ≠ a' := fun z => hj (R.dis j i a2 (by rw [e]; exact fun z => by cases z) (by rw [hi]; exact fun z => by cases z) s2 (z ▸ hs))
      exact ⟨a2, s2, c3.up (.refl G) (upd_ne hne), g3, b3⟩
  · refine R.dis j k x ?_ ?_ e1 e2
    · by_cases hji : j = i
      · rw [hji, hi]; exact fun z => by cases z
      · rw [mget_set_ne hji] at hj; exact hj
    · by_cases hki : k = i
      · rw [hki, hi]; exact fun z => by cases z
      · rw [mget_set_ne hki] at hk; exact hk
  · refine R.pin k hk ?_
    by_cases h0 : 0 = i
    · rw [h0, hi]; exact fun z => by cases z
    · rw [mget_set_ne h0] at hm; exact hm
/-- a slot takes data -/
theorem Rel.setD {i : Nat} {v : V} {d : D} (R : Rel b σ G H ρ μ) (r : Rp G v d) : Rel b (σ.set i (some v)) G H (put ρ i (some d)) (mdel μ i) := by
  refine ⟨R.bh, R.gh, R.g0, R.sep, by rw [put_len, List.length_set]; exact R.len, fun j e h => ?_, fun j c h => ?_, fun j k x hj hk e1 e2 => ?_, fun k hk hm => ?_, R.nl⟩
  · by_cases hj : j = i
    · subst hj
      obtain ⟨e1, hl⟩ := gt_put_same h
      cases e1
      rw [R.len] at hl
      exact ⟨v, by rw [List.getElem?_set_self hl], r⟩
    · rw [gt_put_ne hj] at h
      obtain ⟨w, a, q⟩ := R.dat j e h
      exact ⟨w, by rw [List.getElem?_set_ne (Ne.symm hj)]; exact a, q⟩
  · have hj : j ≠ i := fun z => by rw [z, mget_del_same] at h; cases h
    rw [mget_del_ne hj] at h
    obtain ⟨a, s, c1, ga, ba⟩ := R.own j c h
    exact ⟨a, by rw [List.getElem?_set_ne (Ne.symm hj)]; exact s, c1, ga, ba⟩
  · have hji : j ≠ i := fun z => hj (by rw [z, mget_del_same])
    have hki : k ≠ i := fun z => hk (by rw [z, mget_del_same])
    rw [mget_del_ne hji] at hj
    rw [mget_del_ne hki] at hk
    rw [List.getElem?_set_ne (Ne.symm hji)] at e1
    rw [List.getElem?_set_ne (Ne.symm hki)] at e2
    exact R.dis j k x hj hk e1 e2
  · have h0 : 0 ≠ i := fun z => hm (by rw [← z, mget_del_same])
    rw [mget_del_ne h0] at hm
    rw [List.getElem?_set_ne (Ne.symm h0)]
    exact R.pin k hk hm
/-- a slot takes a new owned cell -/
theorem Rel.setO {i : Nat} {a : Addr} {c : Cell} (R : Rel b σ G H ρ μ) (hl : i < ρ.length) (h0 : i ≠ 0) (hc : CellAt G H a c) (ga : G a = none) (ba : b.B a = none) (hn : ∀ j c', mget μ j = some c' → σ[j]? ≠ some (some (.ref a))) :
    Rel b (σ.set i (some (.ref a))) G H (put ρ i none) (mset μ i c) := by
  have hl' : i < σ.length := by rw [← R.len]; exact hl
  refine ⟨R.bh, R.gh, R.g0, R.sep, by rw [put_len, List.length_set]; exact R.len, fun j e h => ?_, fun j c' h => ?_, fun j k x hj hk e1 e2 => ?_, fun k hk hm => ?_, R.nl⟩
  · by_cases hj : j = i
    · subst hj
      obtain ⟨e1, _⟩ := gt_put_same h
      cases e1
    · rw [gt_put_ne hj] at h
      obtain ⟨w, a, q⟩ := R.dat j e h
      exact ⟨w, by rw [List.getElem?_set_ne (Ne.symm hj)]; exact a, q⟩
  · by_cases hj : j = i
    · subst hj
      rw [mget_set_same] at h
      cases h
      exact ⟨a, by rw [List.getElem?_set_self hl'], hc, ga, ba⟩
    · rw [mget_set_ne hj] at h
      obtain ⟨a2, s, c1, g2, b2⟩ := R.own j c' h
      exact ⟨a2, by rw [List.getElem?_set_ne (Ne.symm hj)]; exact s, c1, g2, b2⟩
  · by_cases hji : j = i
    · subst hji
      by_cases hki : k = j
      · exact hki.symm
      · rw [List.getElem?_set_self hl'] at e1
        cases e1
        rw [List.getElem?_set_ne (Ne.symm hki)] at e2
        rw [mget_set_ne hki] at hk
        cases q : mget μ k with
        | none => exact absurd q hk
        | some c' => exact absurd e2 (hn k c' q)
    · rw [List.getElem?_set_ne (Ne.symm hji)] at e1
      rw [mget_set_ne hji] at hj
      by_cases hki : k = i
      · subst hki
        rw [List.getElem?_set_self hl'] at e2
        cases e2
        cases q : mget μ j with
        | none => exact absurd q hj
        | some c' => exact absurd e1 (hn j c' q)
      · rw [List.getElem?_set_ne (Ne.symm hki)] at e2
        rw [mget_set_ne hki] at hk
        exact R.dis j k x hj hk e1 e2
  · have h0' : 0 ≠ i := Ne.symm h0
    rw [mget_set_ne h0'] at hm
    rw [List.getElem?_set_ne (Ne.symm h0')]
    exact R.pin k hk hm
/-- a slot is forgotten -/
theorem Rel.mdel {i : Nat} (R : Rel b σ G H ρ μ) : Rel b σ G H ρ (mdel μ i) := by
  refine ⟨R.bh, R.gh, R.g0, R.sep, R.len, R.dat, fun j c h => ?_, fun j k x hj hk e1 e2 => ?_, fun k hk hm => ?_, R.nl⟩
  · have hj : j ≠ i := fun z => by rw [z, mget_del_same] at h; cases h
    rw [mget_del_ne hj] at h
    exact R.own j c h
  · have hji : j ≠ i := fun z => hj (by rw [z, mget_del_same])
    have hki : k ≠ i := fun z => hk (by rw [z, mget_del_same])
    rw [mget_del_ne hji] at hj
    rw [mget_del_ne hki] at hk
    exact R.dis j k x hj hk e1 e2
  · have h0 : 0 ≠ i := fun z => hm (by rw [← z, mget_del_same])
    rw [mget_del_ne h0] at hm
    exact R.pin k hk hm
def cellD : Cell → D
  | .lst xs => .lst xs
  | .dct kvs => .dct kvs
def cellO (vs : HO) : Prop := True
/-- what an owned cell is as an object -/
theorem CellAt.rp {G H : Hp} {a : Addr} : ∀ {c : Cell}, CellAt G H a c → ∃ o, H a = some o ∧ ∀ G', Same G G' → G' a = some o → Rp G' (.ref a) (cellD c)
  | .lst _, ⟨vs, e, l, r⟩ => ⟨_, e, fun G' s g => ⟨a, vs, rfl, g, l, RpA.up s _ _ r⟩⟩
  | .dct _, ⟨vs, e, l, r⟩ => ⟨_, e, fun G' s g => ⟨a, vs, rfl, g, l, RpK.up s _ _ r⟩⟩
/-- an owned cell becomes data for good -/
theorem Rel.freeze {i : Nat} {c : Cell} (R : Rel b σ G H ρ μ) (hi : mget μ i = some c) : ∃ a G2, σ[i]? = some (some (.ref a)) ∧ Same G G2 ∧ Rel b σ G2 H ρ (VS.mdel μ i) ∧ Rp G2 (.ref a) (cellD c) := by
  obtain ⟨a, s, c1, ga, ba⟩ := R.own i c hi
  obtain ⟨o, ho, hr⟩ := c1.rp
  have sg : Same G (upd G a o) := fun y u e => by
    rw [upd_ne (fun z => by rw [z, ga] at e; cases e)]
    exact e
  refine ⟨a, upd G a o, s, sg, ?_, hr _ sg upd_same⟩
  refine ⟨R.bh, fun y u e => ?_, R.g0.trans sg, fun y e n => ?_, R.len, fun j d e => ?_, fun j c' h => ?_, R.mdel.dis, R.mdel.pin, fun x ws e n => ?_⟩
  · by_cases hy : y = a
    · subst hy
      rw [upd_same] at e
      cases e
      exact .inl ho
    · rw [upd_ne hy] at e
      exact R.gh y u e
  · have hy : y ≠ a := fun z => n.1 (z ▸ ba)
    rw [upd_ne hy]
    exact R.sep y e n
  · obtain ⟨v, e1, r⟩ := R.dat j d e
    exact ⟨v, e1, Rp.up sg _ _ r⟩
  · obtain ⟨a2, s2, c2, g2, b2⟩ := R.mdel.own j c' h
    have hj : j ≠ i := fun z => by rw [z, mget_del_same] at h; cases h
    rw [mget_del_ne hj] at h
    have hne : a2 ≠ a := fun z => hj (R.dis j i a2 (by rw [h]; exact fun z => by cases z) (by rw [hi]; exact fun z => by cases z) s2 (z ▸ s))
    exact ⟨a2, s2, c2.up sg rfl, by rw [upd_ne hne]; exact g2, b2⟩
  · by_cases hx : x = a
    · subst hx
      rw [upd_same] at e
      cases e
      exact ho
    · rw [upd_ne hx] at e
      exact R.nl x ws e n
/-- another object, not of the data, is protected -/
theorem Rel.guard {D : Addr} {o : HO} (R : Rel b σ G H ρ μ) (hD : H D = some o) (gD : G D = none) (hn : ∀ i c, mget μ i = some c → σ[i]? ≠ some (some (.ref D))) :
    Rel { b with B := upd b.B D o, G0 := G } σ G H ρ μ := by
  refine ⟨fun y u e => ?_, R.gh, .refl G, fun y e _ => e, R.len, R.dat, fun i c e => ?_, R.dis, R.pin, R.nl⟩
  · have e : upd b.B D o y = some u := e
    by_cases hy : y = D
    · subst hy
      rw [upd_same] at e
      rw [← e]
      exact hD
    · rw [upd_ne hy] at e
      exact R.bh y u e
  · obtain ⟨a, s, c1, ga, ba⟩ := R.own i c e
    have hne : a ≠ D := fun z => hn i c e (z ▸ s)
    exact ⟨a, s, c1, ga, by show upd b.B D o a = none; rw [upd_ne hne]; exact ba⟩
theorem Rel.unguard {D : Addr} {o : HO} {G1 : Hp} (ho : NT (some o)) (R : Rel { b with B := upd b.B D o, G0 := G1 } σ G H ρ μ) (bD : b.B D = none) (g0 : Same b.G0 G1) (sep : ∀ x, b.G0 x = none → NT (b.B x) → G1 x = none) :
    Rel b σ G H ρ μ ∧ H D = some o ∧ (G1 D = none → G D = none) ∧ (∀ i c, mget μ i = some c → σ[i]? ≠ some (some (.ref D))) := by
  have hD : H D = some o := R.bh D o upd_same
  refine ⟨⟨fun y u e => ?_, R.gh, g0.trans R.g0, fun y e n => ?_, R.len, R.dat, fun i c e => ?_, R.dis, R.pin, R.nl⟩, hD, fun z => ?_, fun i c e z => ?_⟩
  · refine R.bh y u ?_
    show upd b.B D o y = some u
    rw [upd_ne (fun z => by rw [z, bD] at e; cases e)]
    exact e
  · refine R.sep y (sep y e n) ?_
    show NT (upd b.B D o y)
    rw [upd_ne (fun z => n.1 (by rw [z]; exact bD))]
    exact n
  · obtain ⟨a, s, c1, ga, ba⟩ := R.own i c e
    have ba' : upd b.B D o a = none := ba
    have hne : a ≠ D := fun z => by rw [z, upd_same] at ba'; cases ba'
    rw [upd_ne hne] at ba'
    exact ⟨a, s, c1, ga, ba'⟩
  · refine R.sep D z ?_
    show NT (upd b.B D o D)
    rw [upd_same]
    exact ho
  · obtain ⟨a, s, c1, ga, ba⟩ := R.own i c e
    rw [s] at z
    cases z
    have ba' : upd b.B D o D = none := ba
    rw [upd_same] at ba'
    cases ba'
end
end VS
end
section
/-! VS1: expressions by values -/
namespace VS
open PySem PySem.Spec PyProof.Rows L2

abbrev EM := Rho → Mem → Option (D × Mem)
abbrev AM := Rho → Mem → Option (List D × Mem)
abbrev TM := Rho → Mem → Option (Bool × Mem)
theorem bnd {α β : Type} {o : Option α} {f : α → Option β} {r : β} (h : o.bind f = some r) : ∃ a, o = some a ∧ f a = some r := by
  cases o with
  | none => cases h
  | some a => exact ⟨a, rfl, h⟩
theorem mpd {α β : Type} {o : Option α} {f : α → β} {r : β} (h : o.map f = some r) : ∃ a, o = some a ∧ f a = r := by
  cases o with
  | none => cases h
  | some a => exact ⟨a, rfl, Option.some.inj h⟩
def SoE (l : Bool) (t : TE) (φ : EM) : Prop := ∀ (b : Bs) (σ : L2.St) (G H : Hp) (ρ : Rho) (μ : Mem) (d : D) (μ2 : Mem) (Q : VK), (l = false → b.lk = []) → Rel b σ G H ρ μ → φ ρ μ = some (d, μ2) →
  (∀ v G2 H2, Rel b σ G2 H2 ρ μ2 → Same G G2 → Rp G2 v d → Q v H2) → t σ H Q
def SoA (l : Bool) (t : TA) (φ : AM) : Prop := ∀ (b : Bs) (σ : L2.St) (G H : Hp) (ρ : Rho) (μ : Mem) (ds : List D) (μ2 : Mem) (Q : List V → Hp → Prop), (l = false → b.lk = []) → Rel b σ G H ρ μ → φ ρ μ = some (ds, μ2) →
  (∀ vs G2 H2, Rel b σ G2 H2 ρ μ2 → Same G G2 → RpA G2 vs ds → Q vs H2) → t σ H Q
def SoT (l : Bool) (t : TT) (φ : TM) : Prop := ∀ (b : Bs) (σ : L2.St) (G H : Hp) (ρ : Rho) (μ : Mem) (c : Bool) (μ2 : Mem) (Q : Bool → Hp → Prop), (l = false → b.lk = []) → Rel b σ G H ρ μ → φ ρ μ = some (c, μ2) →
  (∀ G2 H2, Rel b σ G2 H2 ρ μ2 → Same G G2 → Q c H2) → t σ H Q
/-- a new list, nobody else's -/
def SoL (l : Bool) (t : TE) (φ : AM) : Prop := ∀ (b : Bs) (σ : L2.St) (G H : Hp) (ρ : Rho) (μ : Mem) (ds : List D) (μ2 : Mem) (Q : VK), (l = false → b.lk = []) → Rel b σ G H ρ μ → φ ρ μ = some (ds, μ2) →
  (∀ a vs G2 H2, Rel b σ G2 H2 ρ μ2 → Same G G2 → H2 a = some (.lst vs) → ds.length ≤ sizeLine → RpA G2 vs ds → G2 a = none → b.B a = none → (∀ j c, mget μ2 j = some c → σ[j]? ≠ some (some (.ref a))) → Q (.ref a) H2) → t σ H Q
/-- a new dict, nobody else's -/
def SoC (l : Bool) (t : TE) (φ : Rho → Mem → Option (List (List Key × D) × Mem)) : Prop := ∀ (b : Bs) (σ : L2.St) (G H : Hp) (ρ : Rho) (μ : Mem) (ds : List (List Key × D)) (μ2 : Mem) (Q : VK), (l = false → b.lk = []) → Rel b σ G H ρ μ → φ ρ μ = some (ds, μ2) →
  (∀ a vs G2 H2, Rel b σ G2 H2 ρ μ2 → Same G G2 → H2 a = some (.dT vs) → ds.length ≤ sizeLine → RpK G2 vs ds → G2 a = none → b.B a = none → (∀ j c, mget μ2 j = some c → σ[j]? ≠ some (some (.ref a))) → Q (.ref a) H2) → t σ H Q
structure DE (l : Bool) (X : Cx) (e : Expr) (t : TE) (φ : EM) : Prop where
  pe : PE X e t
  so : SoE l t φ
structure DL (l : Bool) (X : Cx) (e : Expr) (t : TE) (φ : AM) : Prop where
  pe : PE X e t
  so : SoL l t φ
structure DC (l : Bool) (X : Cx) (e : Expr) (t : TE) (φ : Rho → Mem → Option (List (List Key × D) × Mem)) : Prop where
  pe : PE X e t
  so : SoC l t φ
structure DA (l : Bool) (X : Cx) (es : List Expr) (t : TA) (φ : AM) : Prop where
  pa : PA X es t
  so : SoA l t φ
structure DT (l : Bool) (X : Cx) (e : Expr) (t : TT) (φ : TM) : Prop where
  pt : PT X e t
  so : SoT l t φ
structure DW (l : Bool) (X : Cx) (e : Expr) (t : TT) (φ : TM) : Prop where
  pw : PW X e t
  so : SoT l t φ

/-! ### fresh objects -/
section
variable {b : Bs} {σ : L2.St} {G H G2 H2 : Hp} {ρ : Rho} {μ : Mem}
theorem Rel.unowned (R : Rel b σ G H ρ μ) {p : Addr} (hp : H p = none) : ∀ j c, mget μ j = some c → σ[j]? ≠ some (some (.ref p)) := fun j c e z => by
  obtain ⟨a, s, c1, _⟩ := R.own j c e
  rw [s] at z
  cases z
  exact c1.ne hp
theorem Rel.b_none (R : Rel b σ G H ρ μ) {p : Addr} (hp : H p = none) : b.B p = none := Same.free R.bh hp
theorem Rel.new {p : Addr} {o : HO} (R : Rel b σ G H ρ μ) (hp : H p = none) : Rel b σ (upd G p o) (upd H p o) ρ μ := R.ext (.new R.gh hp)
theorem Rel.side {p : Addr} {o : HO} (R : Rel b σ G H ρ μ) (hp : H p = none) : Rel b σ G (upd H p o) ρ μ := R.ext (.side R.gh hp)
theorem same_new {G : Hp} {p : Addr} {o : HO} (gp : G p = none) : Same G (upd G p o) := fun y u e => by
  rw [upd_ne (fun z => by rw [z, gp] at e; cases e)]
  exact e
theorem Rel.gnone (R : Rel b σ G H ρ μ) {p : Addr} (hp : H p = none) : G p = none := none_of_R R.gh hp
/-- a new tuple as data -/
theorem Rel.tup {p : Addr} {vs : List V} {ds : List D} (R : Rel b σ G H ρ μ) (hp : H p = none) (hl : ds.length ≤ sizeLine) (r : RpA G vs ds) :
    Rel b σ (upd G p (.tup vs)) (upd H p (.tup vs)) ρ μ ∧ Same G (upd G p (.tup vs)) ∧ Rp (upd G p (.tup vs)) (.ref p) (.tup ds) := by
  have s := same_new (o := .tup vs) (R.gnone hp)
  exact ⟨R.new hp, s, p, vs, rfl, upd_same, hl, RpA.up s _ _ r⟩
theorem Rel.lst {p : Addr} {vs : List V} {ds : List D} (R : Rel b σ G H ρ μ) (hp : H p = none) (hl : ds.length ≤ sizeLine) (r : RpA G vs ds) :
    Rel b σ (upd G p (.lst vs)) (upd H p (.lst vs)) ρ μ ∧ Same G (upd G p (.lst vs)) ∧ Rp (upd G p (.lst vs)) (.ref p) (.lst ds) := by
  have s := same_new (o := .lst vs) (R.gnone hp)
  exact ⟨R.new hp, s, p, vs, rfl, upd_same, hl, RpA.up s _ _ r⟩
/-- a lone object becomes data -/
theorem Rel.adopt {a : Addr} {o : HO} (R : Rel b σ G H ρ μ) (ha : H a = some o) (ga : G a = none) (ba : b.B a = none) (hn : ∀ j c, mget μ j = some c → σ[j]? ≠ some (some (.ref a))) : Rel b σ (upd G a o) H ρ μ := by
  have sg : Same G (upd G a o) := same_new ga
  refine ⟨R.bh, fun y u e => ?_, R.g0.trans sg, fun y e n => ?_, R.len, fun j d e => ?_, fun j c' h => ?_, R.dis, R.pin, fun x ws e n => ?_⟩
  · by_cases hy : y = a
    · subst hy
      rw [upd_same] at e
      cases e
      exact .inl ha
    · rw [upd_ne hy] at e
      exact R.gh y u e
  · have hy : y ≠ a := fun z => n.1 (by rw [z]; exact ba)
    rw [upd_ne hy]
    exact R.sep y e n
  · obtain ⟨v, e1, r⟩ := R.dat j d e
    exact ⟨v, e1, Rp.up sg _ _ r⟩
  · obtain ⟨a2, s2, c2, g2, b2⟩ := R.own j c' h
    have hne : a2 ≠ a := fun z => hn j c' h (z ▸ s2)
    exact ⟨a2, s2, c2.up sg rfl, by rw [upd_ne hne]; exact g2, b2⟩
  · by_cases hx : x = a
    · subst hx
      rw [upd_same] at e
      cases e
      exact ha
    · rw [upd_ne hx] at e
      exact R.nl x ws e n
end
/-! ### a new list, dict as data -/
def eL (φ : AM) : EM := fun ρ μ => (φ ρ μ).map fun p => (.lst p.1, p.2)
def eK (φ : Rho → Mem → Option (List (List Key × D) × Mem)) : EM := fun ρ μ => (φ ρ μ).map fun p => (.dct p.1, p.2)
theorem so_L {l : Bool} {t : TE} {φ : AM} (h : SoL l t φ) : SoE l t (eL φ) := fun b σ G H ρ μ d μ2 Q hl R e k => by
  obtain ⟨⟨ds, μ3⟩, e1, e2⟩ := mpd e
  cases e2
  refine h b σ G H ρ μ ds _ Q hl R e1 fun a vs G2 H2 R2 s ha hz r ga ba hn => ?_
  have sg : Same G2 (upd G2 a (.lst vs)) := same_new ga
  exact k _ _ _ (R2.adopt ha ga ba hn) (s.trans sg) ⟨a, vs, rfl, upd_same, hz, RpA.up sg _ _ r⟩
theorem so_C {l : Bool} {t : TE} {φ : Rho → Mem → Option (List (List Key × D) × Mem)} (h : SoC l t φ) : SoE l t (eK φ) := fun b σ G H ρ μ d μ2 Q hl R e k => by
  obtain ⟨⟨ds, μ3⟩, e1, e2⟩ := mpd e
  cases e2
  refine h b σ G H ρ μ ds _ Q hl R e1 fun a vs G2 H2 R2 s ha hz r ga ba hn => ?_
  have sg : Same G2 (upd G2 a (.dT vs)) := same_new ga
  exact k _ _ _ (R2.adopt ha ga ba hn) (s.trans sg) ⟨a, vs, rfl, upd_same, hz, RpK.up sg _ _ r⟩
theorem DL.de {l : Bool} {X : Cx} {e : Expr} {t : TE} {φ : AM} (h : DL l X e t φ) : DE l X e t (eL φ) := ⟨h.pe, so_L h.so⟩
theorem DC.de {l : Bool} {X : Cx} {e : Expr} {t : TE} {φ : Rho → Mem → Option (List (List Key × D) × Mem)} (h : DC l X e t φ) : DE l X e t (eK φ) := ⟨h.pe, so_C h.so⟩
/-! ### names, constants -/
def eVar (i : Nat) : EM := fun ρ μ => (gt ρ i).map fun d => (d, μ)
def eC (d : D) : EM := fun _ μ => some (d, μ)
/-- an owned name, given up -/
def eFrz (i : Nat) : EM := fun _ μ => (mget μ i).map fun c => (cellD c, mdel μ i)
section
variable {l : Bool} {X : Cx}
theorem so_var {i : Nat} : SoE l (tVar i) (eVar i) := fun b σ G H ρ μ d μ2 Q hl R e k => by
  obtain ⟨d', e1, e2⟩ := mpd e
  cases e2
  obtain ⟨v, s, r⟩ := R.dat i _ e1
  exact ⟨v, s, k v G H R (.refl G) r⟩
theorem so_frz {i : Nat} : SoE l (tVar i) (eFrz i) := fun b σ G H ρ μ d μ2 Q hl R e k => by
  obtain ⟨c, e1, e2⟩ := mpd e
  cases e2
  obtain ⟨a, G2, s, sg, R2, r⟩ := R.freeze e1
  exact ⟨_, s, k _ G2 H R2 sg r⟩
theorem so_c {v : V} {d : D} (h : ∀ G, Rp G v d) : SoE l (tC v) (eC d) := fun b σ G H ρ μ d' μ2 Q hl R e k => by
  cases e
  exact k v G H R (.refl G) (h G)
theorem dv (i : Nat) {x : Str} {pos : Pos} (hN : X.N[i]? = some x := by rfl) (hv : Vis X.env.scope x := by first | exact Or.inl rfl | exact Or.inr (Or.inl rfl) | exact Or.inr (Or.inr rfl)) (hd : (x == ("__debug__" : Str)) = false := by decide)
    (hcd : (x == ("__classdict__" : Str)) = false := by decide) : DE l X (.Name x pos) (tVar i) (eVar i) := ⟨pe_var hN hv hd hcd, so_var⟩
theorem dfz (i : Nat) {x : Str} {pos : Pos} (hN : X.N[i]? = some x := by rfl) (hv : Vis X.env.scope x := by first | exact Or.inl rfl | exact Or.inr (Or.inl rfl) | exact Or.inr (Or.inr rfl)) (hd : (x == ("__debug__" : Str)) = false := by decide)
    (hcd : (x == ("__classdict__" : Str)) = false := by decide) : DE l X (.Name x pos) (tVar i) (eFrz i) := ⟨pe_var hN hv hd hcd, so_frz⟩
theorem de_int {i : Int} {j pos} : DE l X (.Constant (.int i) j pos) (tC (.int i)) (eC (.int i)) := ⟨pe_int, so_c fun _ => rfl⟩
theorem de_bl {i : Bool} {j pos} : DE l X (.Constant (.bool i) j pos) (tC (.bl i)) (eC (.bl i)) := ⟨pe_bl, so_c fun _ => rfl⟩
theorem de_non {j pos} : DE l X (.Constant .none j pos) (tC .non) (eC .non) := ⟨pe_non, so_c fun _ => rfl⟩
theorem de_str {x : Str} {j pos} : DE l X (.Constant (.str x) j pos) (tC (.str x)) (eC (.str x)) := ⟨pe_str, so_c fun _ => rfl⟩
theorem de_gint {x : Str} {i : Int} {pos} (hg : Gl X x) (hm : ∃ t, X.mg x = some (.int i t)) (hd : (x == ("__debug__" : Str)) = false := by decide) : DE l X (.Name x pos) (tC (.int i)) (eC (.int i)) := by
  obtain ⟨t, hm⟩ := hm
  exact ⟨pe_glob hg hm ⟨t, rfl⟩ hd, so_c fun _ => rfl⟩
/-- a built-in type as a value -/
theorem de_ty {x : Str} {n : String} {pos : Pos} (hg : Gl X x) (hm : X.mg x = none) (hv : bootBuiltins x = some (.type n)) (hn : x ≠ "__name__" := by decide) (hd : (x == ("__debug__" : Str)) = false := by decide) :
    DE l X (.Name x pos) (tC (.ty n)) (eC (.opq (.ty n))) := ⟨pe_bltn hg hm hv rfl hn hd, so_c fun _ => rfl⟩
end
/-! ### arguments -/
def aNil : AM := fun _ μ => some ([], μ)
def aCons (φ : EM) (ψ : AM) : AM := fun ρ μ => (φ ρ μ).bind fun p => (ψ ρ p.2).map fun q => (p.1 :: q.1, q.2)
section
variable {l : Bool} {X : Cx} {e : Expr} {es : List Expr} {te : TE} {t : TA} {φ : EM} {ψ : AM}
theorem so_nil : SoA l tNil aNil := fun b σ G H ρ μ d μ2 Q hl R e k => by
  cases e
  exact k [] G H R (.refl G) trivial
theorem so_cons (ha : SoE l te φ) (hr : SoA l t ψ) : SoA l (tCons te t) (aCons φ ψ) := fun b σ G H ρ μ d μ2 Q hl R e k => by
  obtain ⟨⟨x, μ3⟩, e1, e2⟩ := bnd e
  obtain ⟨⟨xs, μ4⟩, e3, e4⟩ := mpd e2
  cases e4
  refine ha b σ G H ρ μ x μ3 _ hl R e1 fun v G2 H2 R2 s2 r2 => ?_
  refine hr b σ G2 H2 ρ μ3 xs μ4 _ hl R2 e3 fun vs G3 H3 R3 s3 r3 => ?_
  exact k _ G3 H3 R3 (s2.trans s3) ⟨Rp.up s3 _ _ r2, r3⟩
theorem da_nil : DA l X [] tNil aNil := ⟨pa_nil, so_nil⟩
theorem da_cons (ha : DE l X e te φ) (hr : DA l X es t ψ) (hs : starEach (e :: es) X.env = (false, eval e X.env) :: starEach es X.env := by rfl) : DA l X (e :: es) (tCons te t) (aCons φ ψ) := ⟨pa_cons ha.pe hr.pa hs, so_cons ha.so hr.so⟩
end
/-! ### two operands -/
def OpD (r : R2) (f : D → D → Option D) : Prop := ∀ (x y : V) (d e z : D) (G H : Hp) (Q : VK), SameR G H → Rp G x d → Rp G y e → f d e = some z → (∀ v G2 H2, Ext G H G2 H2 → Rp G2 v z → Q v H2) → r x y H Q
def eOp (f : D → D → Option D) (φ ψ : EM) : EM := fun ρ μ => (φ ρ μ).bind fun p => (ψ ρ p.2).bind fun q => (f p.1 q.1).map fun z => (z, q.2)
section
variable {l : Bool} {X : Cx} {a b : Expr} {ta tb : TE} {φ ψ : EM} {r : R2} {f : D → D → Option D} {pos : Pos}
theorem so_op (hd : OpD r f) (ha : SoE l ta φ) (hb : SoE l tb ψ) : SoE l (tOp r ta tb) (eOp f φ ψ) := fun b σ G H ρ μ d μ2 Q hl R e k => by
  obtain ⟨⟨x, μ3⟩, e1, e2⟩ := bnd e
  obtain ⟨⟨y, μ4⟩, e3, e4⟩ := bnd e2
  obtain ⟨z, e5, e6⟩ := mpd e4
  cases e6
  refine ha b σ G H ρ μ x μ3 _ hl R e1 fun v G2 H2 R2 s2 r2 => ?_
  refine hb b σ G2 H2 ρ μ3 y μ4 _ hl R2 e3 fun w G3 H3 R3 s3 r3 => ?_
  exact hd v w x y _ G3 H3 Q R3.gh (Rp.up s3 _ _ r2) r3 e5 fun u G4 H4 x4 r4 => k u G4 H4 (R3.ext x4) ((s2.trans s3).trans x4.gg) r4
theorem de_op {op : Operator} (ho : OpR X (binaryOp op) r) (hd : OpD r f) (ha : DE l X a ta φ) (hb : DE l X b tb ψ) : DE l X (.BinOp a op b pos) (tOp r ta tb) (eOp f φ ψ) := ⟨pe_op ho ha.pe hb.pe, so_op hd ha.so hb.so⟩
theorem de_cmp {op : CmpOp} (ho : OpR X (compareOp op) r) (hd : OpD r f) (ha : DE l X a ta φ) (hb : DE l X b tb ψ) (hm : behindInMarks op b = false := by rfl) : DE l X (.Compare a [op] [b] pos) (tOp r ta tb) (eOp f φ ψ) := ⟨pe_cmpR ho ha.pe hb.pe hm, so_op hd ha.so hb.so⟩
end
def tstM (φ : EM) : TM := fun ρ μ => match φ ρ μ with
  | some (.bl c, μ2) => some (c, μ2)
  | _ => none
theorem tstM_some {φ : EM} {ρ : Rho} {μ μ2 : Mem} {c : Bool} (h : tstM φ ρ μ = some (c, μ2)) : φ ρ μ = some (.bl c, μ2) := by
  unfold tstM at h
  split at h
  · rename_i e
    cases h
    exact e
  · cases h
section
variable {l : Bool} {X : Cx} {a b : Expr} {ta tb : TE} {φ ψ : EM} {r : R2} {f : D → D → Option D} {pos : Pos}
theorem so_test (h : SoE l ta φ) : SoT l (tTest ta) (tstM φ) := fun b σ G H ρ μ c μ2 Q hl R e k => h b σ G H ρ μ (.bl c) μ2 _ hl R (tstM_some e) fun v G2 H2 R2 s r => ⟨c, r, k G2 H2 R2 s⟩
theorem so_tB (h : SoE l ta φ) : SoT l (tB ta) (tstM φ) := fun b σ G H ρ μ c μ2 Q hl R e k => h b σ G H ρ μ (.bl c) μ2 _ hl R (tstM_some e) fun v G2 H2 R2 s r => ⟨c, r, k G2 H2 R2 s⟩
theorem dt_cmp {op : CmpOp} (ho : OpR X (compareOp op) r) (hd : OpD r f) (ha : DE l X a ta φ) (hb : DE l X b tb ψ) (hm : behindInMarks op b = false := by rfl) : DT l X (.Compare a [op] [b] pos) (tTest (tOp r ta tb)) (tstM (eOp f φ ψ)) := ⟨pt_cmpR ho ha.pe hb.pe hm, so_test (so_op hd ha.so hb.so)⟩
theorem dt_val {e : Expr} {t : TE} (h : DE l X e t φ) (he : ∀ whole, isTrue e X.env whole = (do let v ← whole; standAt e.pos; holding [v] (truthy v)) := by intro _; rfl) : DT l X e (tB t) (tstM φ) := ⟨pt_val h.pe he, so_tB h.so⟩
end
/-! ### and, or, not; a if t else b -/
def mAnd (φ ψ : TM) : TM := fun ρ μ => (φ ρ μ).bind fun p => match p.1 with
  | true => ψ ρ p.2
  | false => some (false, p.2)
def mOr (φ ψ : TM) : TM := fun ρ μ => (φ ρ μ).bind fun p => match p.1 with
  | true => some (true, p.2)
  | false => ψ ρ p.2
def mNot (φ : TM) : TM := fun ρ μ => (φ ρ μ).map fun p => (!p.1, p.2)
def eIf (τ : TM) (φ ψ : EM) : EM := fun ρ μ => (τ ρ μ).bind fun p => match p.1 with
  | true => φ ρ p.2
  | false => ψ ρ p.2
def eAnd (φ ψ : EM) : EM := fun ρ μ => (φ ρ μ).bind fun p => match p.1 with
  | .bl true => ψ ρ p.2
  | .bl false => some (.bl false, p.2)
  | _ => none
def eOr (φ ψ : EM) : EM := fun ρ μ => (φ ρ μ).bind fun p => match p.1 with
  | .bl true => some (.bl true, p.2)
  | .bl false => ψ ρ p.2
  | _ => none
def eNot (φ : EM) : EM := fun ρ μ => (φ ρ μ).bind fun p => match p.1 with
  | .bl c => some (.bl (!c), p.2)
  | _ => none
section
variable {l : Bool} {X : Cx} {a b c : Expr} {rest : List Expr} {t u : TT} {ta tb : TE} {τ υ : TM} {φ ψ : EM} {pos : Pos}
theorem so_and (h1 : SoT l t τ) (h2 : SoT l u υ) : SoT l (tAnd t u) (mAnd τ υ) := fun b σ G H ρ μ c μ2 Q hl R e k => by
  obtain ⟨⟨c1, μ3⟩, e1, e2⟩ := bnd e
  refine h1 b σ G H ρ μ c1 μ3 _ hl R e1 fun G2 H2 R2 s2 => ?_
  cases c1 with
  | true => exact iteT (h2 b σ G2 H2 ρ μ3 c μ2 Q hl R2 e2 fun G3 H3 R3 s3 => k G3 H3 R3 (s2.trans s3))
  | false =>
    have e3 : some (false, μ3) = some (c, μ2) := e2
    cases e3
    exact iteF (k G2 H2 R2 s2)
theorem so_or (h1 : SoT l t τ) (h2 : SoT l u υ) : SoT l (tOr t u) (mOr τ υ) := fun b σ G H ρ μ c μ2 Q hl R e k => by
  obtain ⟨⟨c1, μ3⟩, e1, e2⟩ := bnd e
  refine h1 b σ G H ρ μ c1 μ3 _ hl R e1 fun G2 H2 R2 s2 => ?_
  cases c1 with
  | false => exact iteF (h2 b σ G2 H2 ρ μ3 c μ2 Q hl R2 e2 fun G3 H3 R3 s3 => k G3 H3 R3 (s2.trans s3))
  | true =>
    have e3 : some (true, μ3) = some (c, μ2) := e2
    cases e3
    exact iteT (k G2 H2 R2 s2)
theorem so_not (h1 : SoT l t τ) : SoT l (tNot t) (mNot τ) := fun b σ G H ρ μ c μ2 Q hl R e k => by
  obtain ⟨⟨c1, μ3⟩, e1, e2⟩ := mpd e
  cases e2
  exact h1 b σ G H ρ μ c1 μ3 _ hl R e1 fun G2 H2 R2 s2 => k G2 H2 R2 s2
theorem dt_not (h : DT l X a t τ) : DT l X (.UnaryOp .Not a pos) (tNot t) (mNot τ) := ⟨pt_not h.pt, so_not h.so⟩
theorem dw_and1 (h : DT l X a t τ) : DW l X (.BoolOp .And [a] pos) t τ := ⟨pw_and1 h.pt, h.so⟩
theorem dw_or1 (h : DT l X a t τ) : DW l X (.BoolOp .Or [a] pos) t τ := ⟨pw_or1 h.pt, h.so⟩
theorem dw_and (h1 : DT l X a t τ) (h2 : DW l X (.BoolOp .And (b :: rest) pos) u υ) : DW l X (.BoolOp .And (a :: b :: rest) pos) (tAnd t u) (mAnd τ υ) := ⟨pw_and h1.pt h2.pw, so_and h1.so h2.so⟩
theorem dw_or (h1 : DT l X a t τ) (h2 : DW l X (.BoolOp .Or (b :: rest) pos) u υ) : DW l X (.BoolOp .Or (a :: b :: rest) pos) (tOr t u) (mOr τ υ) := ⟨pw_or h1.pt h2.pw, so_or h1.so h2.so⟩
theorem DW.dt {e : Expr} (h : DW l X e t τ) : DT l X e t τ := ⟨h.pw.pt, h.so⟩
theorem de_if (hc : DT l X c t τ) (ha : DE l X a ta φ) (hb : DE l X b tb ψ) : DE l X (.IfExp c a b pos) (tIf t ta tb) (eIf τ φ ψ) := ⟨pe_ifExp hc.pt ha.pe hb.pe, fun b σ G H ρ μ d μ2 Q hl R e k => by
  obtain ⟨⟨c1, μ3⟩, e1, e2⟩ := bnd e
  refine hc.so b σ G H ρ μ c1 μ3 _ hl R e1 fun G2 H2 R2 s2 => ?_
  cases c1 with
  | true => exact iteT (ha.so b σ G2 H2 ρ μ3 d μ2 Q hl R2 e2 fun v G3 H3 R3 s3 r3 => k v G3 H3 R3 (s2.trans s3) r3)
  | false => exact iteF (hb.so b σ G2 H2 ρ μ3 d μ2 Q hl R2 e2 fun v G3 H3 R3 s3 r3 => k v G3 H3 R3 (s2.trans s3) r3)⟩
theorem de_one {op} (h : DE l X a ta φ) : DE l X (.BoolOp op [a] pos) ta φ := ⟨pe_one h.pe, h.so⟩
theorem de_and (ha : DE l X a ta φ) (hb : DE l X (.BoolOp .And (b :: rest) pos) tb ψ) : DE l X (.BoolOp .And (a :: b :: rest) pos) (tAndV ta tb) (eAnd φ ψ) := ⟨pe_and ha.pe hb.pe, fun b σ G H ρ μ d μ2 Q hl R e k => by
  obtain ⟨⟨x, μ3⟩, e1, e2⟩ := bnd e
  refine ha.so b σ G H ρ μ x μ3 _ hl R e1 fun v G2 H2 R2 s2 r2 => ?_
  cases x with
  | bl c =>
    refine ⟨c, r2, ?_⟩
    cases c with
    | true => exact iteT (hb.so b σ G2 H2 ρ μ3 d μ2 Q hl R2 e2 fun v G3 H3 R3 s3 r3 => k v G3 H3 R3 (s2.trans s3) r3)
    | false =>
      have e3 : some (D.bl false, μ3) = some (d, μ2) := e2
      cases e3
      exact iteF (k _ G2 H2 R2 s2 rfl)
  | _ => cases e2⟩
theorem de_or (ha : DE l X a ta φ) (hb : DE l X (.BoolOp .Or (b :: rest) pos) tb ψ) : DE l X (.BoolOp .Or (a :: b :: rest) pos) (tOrV ta tb) (eOr φ ψ) := ⟨pe_or ha.pe hb.pe, fun b σ G H ρ μ d μ2 Q hl R e k => by
  obtain ⟨⟨x, μ3⟩, e1, e2⟩ := bnd e
  refine ha.so b σ G H ρ μ x μ3 _ hl R e1 fun v G2 H2 R2 s2 r2 => ?_
  cases x with
  | bl c =>
    refine ⟨c, r2, ?_⟩
    cases c with
    | false => exact iteF (hb.so b σ G2 H2 ρ μ3 d μ2 Q hl R2 e2 fun v G3 H3 R3 s3 r3 => k v G3 H3 R3 (s2.trans s3) r3)
    | true =>
      have e3 : some (D.bl true, μ3) = some (d, μ2) := e2
      cases e3
      exact iteT (k _ G2 H2 R2 s2 rfl)
  | _ => cases e2⟩
theorem de_not (ha : DE l X a ta φ) : DE l X (.UnaryOp .Not a pos) (tNotV ta) (eNot φ) := ⟨pe_not ha.pe, fun b σ G H ρ μ d μ2 Q hl R e k => by
  obtain ⟨⟨x, μ3⟩, e1, e2⟩ := bnd e
  refine ha.so b σ G H ρ μ x μ3 _ hl R e1 fun v G2 H2 R2 s2 r2 => ?_
  cases x with
  | bl c =>
    have e3 : some (D.bl (!c), μ3) = some (d, μ2) := e2
    cases e3
    exact ⟨c, r2, k _ G2 H2 R2 s2 rfl⟩
  | _ => cases e2⟩
end
/-! ### displays -/
def eTup (ψ : AM) : EM := fun ρ μ => (ψ ρ μ).bind fun p => if p.1.length ≤ 1000 then some (.tup p.1, p.2) else none
def lLst (ψ : AM) : AM := fun ρ μ => (ψ ρ μ).bind fun p => if p.1.length ≤ 1000 then some (p.1, p.2) else none
theorem le_line {n : Nat} (h : n ≤ 1000) : n ≤ sizeLine := by
  rw [sizeLine_eq]
  omega
section
variable {l : Bool} {X : Cx} {es : List Expr} {t : TA} {ψ : AM} {pos : Pos}
theorem de_tup {x1} (h : DA l X es t ψ) : DE l X (.Tuple es x1 pos) (tTup t) (eTup ψ) := ⟨pe_tup h.pa, fun b σ G H ρ μ d μ2 Q hl R e k => by
  obtain ⟨⟨xs, μ3⟩, e1, e2⟩ := bnd e
  split at e2
  · rename_i hz
    cases e2
    refine h.so b σ G H ρ μ xs _ _ hl R e1 fun vs G2 H2 R2 s2 r2 => ⟨by rw [r2.len]; exact le_line hz, fun p hp => ?_⟩
    obtain ⟨R3, s3, r3⟩ := R2.tup hp (le_line hz) r2
    exact k _ _ _ R3 (s2.trans s3) r3
  · cases e2⟩
theorem dl_lst (h : DA l X es t ψ) : DL l X (.List es pos) (tLst t) (lLst ψ) := ⟨pe_lst h.pa, fun b σ G H ρ μ d μ2 Q hl R e k => by
  obtain ⟨⟨xs, μ3⟩, e1, e2⟩ := bnd e
  split at e2
  · rename_i hz
    cases e2
    refine h.so b σ G H ρ μ xs _ _ hl R e1 fun vs G2 H2 R2 s2 r2 => ⟨by rw [r2.len]; exact le_line hz, fun p hp => ?_⟩
    exact k p vs G2 _ (R2.side hp) s2 upd_same (le_line hz) r2 (R2.gnone hp) (R2.b_none hp) (R2.unowned hp)
  · cases e2⟩
end
end VS
end
section
/-! VS2: operators, subscripts, calls of built-ins by values -/
namespace VS
open PySem PySem.Spec PyProof.Rows L2
/-! ### as the library's data -/
mutual
def D.py : D → PyData
  | .non => .none
  | .bl b => .bool b
  | .int i => .int i
  | .str x => .str x
  | .lst xs => .list (pyA xs)
  | .tup xs => .tuple (pyA xs)
  | .dct _ => .dict []
  | .opq _ => .dict []
def pyA : List D → List PyData
  | [] => []
  | d :: ds => d.py :: pyA ds
end
section
variable {K : PySem.W.Frag} {G H : Hp}
mutual
theorem rp_dp (g : SameR G H) : ∀ (d : D) (v : V), Rp G v d → d.py.canLay0 = true → Dp K H v d.py
  | .non, _, r, _ => by cases r; exact .non
  | .bl b, _, r, _ => by cases r; exact .bl b
  | .int i, _, r, _ => by cases r; exact .int i
  | .str x, _, r, _ => by cases r; exact .str x
  | .lst ds, _, r, c => by
    obtain ⟨a, vs, e, q, _, ra⟩ := r
    subst e
    exact .lst (SqL.of (g.lst q)) (rpA_dp g ds vs ra (by simpa [D.py, PyData.canLay0] using c))
  | .tup ds, _, r, c => by
    obtain ⟨a, vs, e, q, _, ra⟩ := r
    subst e
    exact .tup (SqT.of (g.tup q)) (rpA_dp g ds vs ra (by simpa [D.py, PyData.canLay0] using c))
  | .dct kvs, _, _, c => by simp [D.py, PyData.canLay0] at c
  | .opq _, _, _, c => by simp [D.py, PyData.canLay0] at c
theorem rpA_dp (g : SameR G H) : ∀ (ds : List D) (vs : List V), RpA G vs ds → PyData.canLayAll0 (pyA ds) = true → DpAll K H vs (pyA ds)
  | [], [], _, _ => .nil
  | d :: ds, v :: vs, r, c => by
    have c' : d.py.canLay0 = true ∧ PyData.canLayAll0 (pyA ds) = true := by simpa [pyA, PyData.canLayAll0] using c
    exact .cons (rp_dp g d v r.1 c'.1) (rpA_dp g ds vs r.2 c'.2)
  | [], _ :: _, r, _ => r.elim
  | _ :: _, [], r, _ => r.elim
end
end
def okD (d : D) : Bool := SeqAt.shaped d.py
def eqD (d e : D) : Bool := PyData.eqv d.py e.py
def eqF (d e : D) : Option D := if okD d && okD e then some (.bl (eqD d e)) else none
def neF (d e : D) : Option D := if okD d && okD e then some (.bl (!eqD d e)) else none
def anyEq (d : D) (xs : List D) : Bool := xs.any fun z => eqD z d
def inF (d e : D) : Option D := match e with
  | .lst xs => if okD d && okD (.lst xs) then some (.bl (anyEq d xs)) else none
  | .tup xs => if okD d && okD (.tup xs) then some (.bl (anyEq d xs)) else none
  | _ => none
def niF (d e : D) : Option D := match e with
  | .lst xs => if okD d && okD (.lst xs) then some (.bl (!anyEq d xs)) else none
  | .tup xs => if okD d && okD (.tup xs) then some (.bl (!anyEq d xs)) else none
  | _ => none
theorem pyA_any (d : D) : ∀ xs : List D, ((pyA xs).any fun z => PyData.eqv z d.py) = anyEq d xs
  | [] => rfl
  | x :: xs => by
    have ih := pyA_any d xs
    show (PyData.eqv x.py d.py || (pyA xs).any _) = (eqD x d || anyEq d xs)
    rw [ih]
    rfl
section
variable {X : Cx}
theorem okD_can {d : D} (h : okD d = true) : d.py.canLay0 = true := SeqAt.canLay_of_shaped h
theorem opd_eq {K : PySem.W.Frag} : OpD (rEqD K) eqF := fun x y d e z G H Q g rx ry h k => by
  unfold eqF at h
  split at h
  · rename_i c
    cases h
    obtain ⟨c1, c2⟩ := Bool.and_eq_true_iff.mp c
    exact ⟨d.py, e.py, rp_dp g d x rx (okD_can c1), rp_dp g e y ry (okD_can c2), c1, c2, k _ G H (.refl g) rfl⟩
  · cases h
theorem opd_ne {K : PySem.W.Frag} : OpD (rNeD K) neF := fun x y d e z G H Q g rx ry h k => by
  unfold neF at h
  split at h
  · rename_i c
    cases h
    obtain ⟨c1, c2⟩ := Bool.and_eq_true_iff.mp c
    exact ⟨d.py, e.py, rp_dp g d x rx (okD_can c1), rp_dp g e y ry (okD_can c2), c1, c2, k _ G H (.refl g) rfl⟩
  · cases h
/-- x in a tuple of data -/
def rInT (K : PySem.W.Frag) : R2 := fun x y H Q => ∃ d ds, Dp K H x d ∧ Dp K H y (.tuple ds) ∧ SeqAt.shaped d = true ∧ SeqAt.shaped (.tuple ds) = true ∧ Q (.bl (ds.any fun z => PyData.eqv z d)) H
def rNotInT (K : PySem.W.Frag) : R2 := fun x y H Q => ∃ d ds, Dp K H x d ∧ Dp K H y (.tuple ds) ∧ SeqAt.shaped d = true ∧ SeqAt.shaped (.tuple ds) = true ∧ Q (.bl (!ds.any fun z => PyData.eqv z d)) H
theorem op_inT (hu : X.A.units + 65 < cLine) : OpR X (compareOp .In) (rInT X.K) := by
  intro pins s σ H x y v u Q I rx ry h
  obtain ⟨d, ds, hd, he, sd, se, q⟩ := h
  obtain ⟨as, r1⟩ := Dp.reads I d x v hd rx
  obtain ⟨bs, r2⟩ := Dp.reads I (.tuple ds) y u he ry
  exact SeqAt.in_tuple_reads r2 r1 (SeqAt.canLay_of_shaped se) (SeqAt.canLay_of_shaped sd) (room_in_shaped sd hu) ⟨.bl _, H, I, rfl, q⟩
theorem op_notInT (hu : X.A.units + 65 < cLine) : OpR X (compareOp .NotIn) (rNotInT X.K) := by
  intro pins s σ H x y v u Q I rx ry h
  obtain ⟨d, ds, hd, he, sd, se, q⟩ := h
  obtain ⟨as, r1⟩ := Dp.reads I d x v hd rx
  obtain ⟨bs, r2⟩ := Dp.reads I (.tuple ds) y u he ry
  exact SeqAt.notIn_tuple_reads r2 r1 (SeqAt.canLay_of_shaped se) (SeqAt.canLay_of_shaped sd) (room_in_shaped sd hu) ⟨.bl _, H, I, rfl, q⟩
abbrev rIN (K : PySem.W.Frag) : R2 := fun x y H Q => rInD K x y H Q ∨ rInT K x y H Q
abbrev rNI (K : PySem.W.Frag) : R2 := fun x y H Q => rNotInD K x y H Q ∨ rNotInT K x y H Q
theorem hu65 {k : Nat} {A : Around} (r : Room k A) : A.units + 65 < cLine := by have := r.un; omega
theorem op_IN {k : Nat} (r : Room k X.A) : OpR X (compareOp .In) (rIN X.K) := (op_inD (hu65 r)).or (op_inT (hu65 r))
theorem op_NI {k : Nat} (r : Room k X.A) : OpR X (compareOp .NotIn) (rNI X.K) := (op_notInD (hu65 r)).or (op_notInT (hu65 r))
theorem opd_in {K : PySem.W.Frag} : OpD (rIN K) inF := fun x y d e z G H Q g rx ry h k => by
  cases e with
  | lst xs =>
    have h' : (if okD d && okD (.lst xs) then some (D.bl (anyEq d xs)) else none) = some z := h
    split at h'
    · rename_i c
      cases h'
      obtain ⟨c1, c2⟩ := Bool.and_eq_true_iff.mp c
      refine .inl ⟨d.py, pyA xs, rp_dp g d x rx (okD_can c1), rp_dp g (.lst xs) y ry (okD_can c2), c1, c2, ?_⟩
      rw [pyA_any]
      exact k _ G H (.refl g) rfl
    · cases h'
  | tup xs =>
    have h' : (if okD d && okD (.tup xs) then some (D.bl (anyEq d xs)) else none) = some z := h
    split at h'
    · rename_i c
      cases h'
      obtain ⟨c1, c2⟩ := Bool.and_eq_true_iff.mp c
      refine .inr ⟨d.py, pyA xs, rp_dp g d x rx (okD_can c1), rp_dp g (.tup xs) y ry (okD_can c2), c1, c2, ?_⟩
      rw [pyA_any]
      exact k _ G H (.refl g) rfl
    · cases h'
  | _ => cases h
theorem opd_ni {K : PySem.W.Frag} : OpD (rNI K) niF := fun x y d e z G H Q g rx ry h k => by
  cases e with
  | lst xs =>
    have h' : (if okD d && okD (.lst xs) then some (D.bl (!anyEq d xs)) else none) = some z := h
    split at h'
    · rename_i c
      cases h'
      obtain ⟨c1, c2⟩ := Bool.and_eq_true_iff.mp c
      refine .inl ⟨d.py, pyA xs, rp_dp g d x rx (okD_can c1), rp_dp g (.lst xs) y ry (okD_can c2), c1, c2, ?_⟩
      rw [pyA_any]
      exact k _ G H (.refl g) rfl
    · cases h'
  | tup xs =>
    have h' : (if okD d && okD (.tup xs) then some (D.bl (!anyEq d xs)) else none) = some z := h
    split at h'
    · rename_i c
      cases h'
      obtain ⟨c1, c2⟩ := Bool.and_eq_true_iff.mp c
      refine .inr ⟨d.py, pyA xs, rp_dp g d x rx (okD_can c1), rp_dp g (.tup xs) y ry (okD_can c2), c1, c2, ?_⟩
      rw [pyA_any]
      exact k _ G H (.refl g) rfl
    · cases h'
  | _ => cases h
end
/-! ### ints, lists, tuples -/
def catF (xs ys : List D) : Option (List D) := if xs.length + ys.length ≤ sizeLine then some (xs ++ ys) else none
def addF (d e : D) : Option D := match d, e with
  | .int i, .int j => some (.int (i + j))
  | .lst xs, .lst ys => (catF xs ys).map .lst
  | .tup xs, .tup ys => (catF xs ys).map .tup
  | _, _ => none
def subF (d e : D) : Option D := match d, e with
  | .int i, .int j => some (.int (i - j))
  | _, _ => none
def repF (xs : List D) (k : Int) : Option (List D) := if k < 2 ^ 62 ∧ -(2 ^ 62) < k ∧ xs.length * k.toNat ≤ sizeLine then some (List.replicate k.toNat xs).flatten else none
def mulF (d e : D) : Option D := match d, e with
  | .int i, .int j => if (-(2 ^ 64) < i ∧ i < 2 ^ 64) ∨ (-(2 ^ 64) < j ∧ j < 2 ^ 64) then some (.int (i * j)) else none
  | .lst xs, .int k => (repF xs k).map .lst
  | _, _ => none
def divF (d e : D) : Option D := match d, e with
  | .int i, .int j => if j ≠ 0 ∧ j.natAbs < 1073741824 then some (.int (i.fdiv j)) else none
  | _, _ => none
def modF (d e : D) : Option D := match d, e with
  | .int i, .int j => if j ≠ 0 then some (.int (i.fmod j)) else none
  | _, _ => none
def powF (d e : D) : Option D := match d, e with
  | .int i, .int j => if 0 ≤ j ∧ j ≤ 1000000 ∧ i.natAbs < 2 ^ 64 then some (.int (i ^ j.toNat)) else none
  | _, _ => none
def ltI (p : Int → Int → Bool) (d e : D) : Option D := match d, e with
  | .int i, .int j => some (.bl (p i j))
  | _, _ => none
def isNF (d e : D) : Option D := match e with
  | .non => (match d with
    | .opq _ => none
    | .non => some (.bl true)
    | _ => some (.bl false))
  | _ => none
def notNF (d e : D) : Option D := match e with
  | .non => (match d with
    | .opq _ => none
    | .non => some (.bl false)
    | _ => some (.bl true))
  | _ => none
def isBF (d e : D) : Option D := match d, e with
  | .bl a, .bl b => some (.bl (decide (a = b)))
  | _, _ => none
def notBF (d e : D) : Option D := match d, e with
  | .bl a, .bl b => some (.bl (!decide (a = b)))
  | _, _ => none
theorem rep_flat {G : Hp} {vs : List V} {ds : List D} (r : RpA G vs ds) : ∀ n : Nat, RpA G (List.replicate n vs).flatten (List.replicate n ds).flatten
  | 0 => trivial
  | n + 1 => by
    rw [List.replicate_succ, List.flatten_cons, List.replicate_succ, List.flatten_cons]
    exact r.app (rep_flat r n)
theorem rep_len (xs : List D) : ∀ n : Nat, (List.replicate n xs).flatten.length = xs.length * n
  | 0 => rfl
  | n + 1 => by
    rw [List.replicate_succ, List.flatten_cons, List.length_append, rep_len xs n, Nat.mul_succ]
    omega
section
variable {X : Cx}
abbrev rADD (K : PySem.W.Frag) : R2 := fun x y H Q => rI0 (fun i j => .int (i + j)) x y H Q ∨ (rCat x y H Q ∨ rCatA K x y H Q)
theorem op_ADD : OpR X (binaryOp .Add) (rADD X.K) := op_add.or (op_cat.or op_catA)
theorem opd_add {K : PySem.W.Frag} : OpD (rADD K) addF := fun x y d e z G H Q g rx ry h k => by
  cases d with
  | int i =>
    cases e with
    | int j =>
      cases h
      exact .inl ⟨i, j, rx, ry, k _ G H (.refl g) rfl⟩
    | _ => cases h
  | lst xs =>
    cases e with
    | lst ys =>
      obtain ⟨zs, e1, e2⟩ := mpd (show (catF xs ys).map D.lst = some z from h)
      cases e2
      unfold catF at e1
      split at e1
      · rename_i hz
        cases e1
        obtain ⟨a, vs, ex, ga, _, ra⟩ := rx
        obtain ⟨b, ws, ey, gb, _, rb⟩ := ry
        refine .inr (.inl ⟨a, b, vs, ws, ex, ey, g.lst ga, g.lst gb, by rw [ra.len, rb.len]; exact hz, fun p hp => ?_⟩)
        have r3 := ra.app rb
        exact k _ _ _ (.new g hp) ⟨p, _, rfl, upd_same, by rw [List.length_append]; exact hz, RpA.up (same_new (none_of_R g hp)) _ _ r3⟩
      · cases e1
    | _ => cases h
  | tup xs =>
    cases e with
    | tup ys =>
      obtain ⟨zs, e1, e2⟩ := mpd (show (catF xs ys).map D.tup = some z from h)
      cases e2
      unfold catF at e1
      split at e1
      · rename_i hz
        cases e1
        have rx' := rx
        have ry' := ry
        obtain ⟨a, vs, ex, ga, _, ra⟩ := rx
        obtain ⟨b, ws, ey, gb, _, rb⟩ := ry
        refine .inr (.inr ⟨a, b, vs, ws, ex, ey, SqT.of (g.tup ga), SqT.of (g.tup gb), by rw [ra.len, rb.len]; exact hz, fun e0 => ?_, fun _ e0 => ?_, fun _ _ p hp => ?_⟩)
        · have hx : xs = [] := List.eq_nil_of_length_eq_zero (by rw [← ra.len, e0]; rfl)
          subst hx
          rw [← ey]
          exact k _ G H (.refl g) ry'
        · have hx : ys = [] := List.eq_nil_of_length_eq_zero (by rw [← rb.len, e0]; rfl)
          subst hx
          rw [← ex]
          exact k _ G H (.refl g) (by rw [List.append_nil]; exact rx')
        · have r3 := ra.app rb
          exact k _ _ _ (.new g hp) ⟨p, _, rfl, upd_same, by rw [List.length_append]; exact hz, RpA.up (same_new (none_of_R g hp)) _ _ r3⟩
      · cases e1
    | _ => cases h
  | _ => cases e <;> cases h
theorem opd_sub : OpD (rI0 fun i j => .int (i - j)) subF := fun x y d e z G H Q g rx ry h k => by
  cases d with
  | int i =>
    cases e with
    | int j =>
      cases h
      exact ⟨i, j, rx, ry, k _ G H (.refl g) rfl⟩
    | _ => cases h
  | _ => cases e <;> cases h
abbrev rMUL : R2 := fun x y H Q => rI CMul (fun i j => .int (i * j)) x y H Q ∨ rRep x y H Q
theorem op_MUL : OpR X (binaryOp .Mult) rMUL := op_mul.or op_rep
theorem opd_mul : OpD rMUL mulF := fun x y d e z G H Q g rx ry h k => by
  cases d with
  | int i =>
    cases e with
    | int j =>
      have h' : (if (-(2 ^ 64) < i ∧ i < 2 ^ 64) ∨ (-(2 ^ 64) < j ∧ j < 2 ^ 64) then some (D.int (i * j)) else none) = some z := h
      split at h'
      · rename_i c
        cases h'
        exact .inl ⟨i, j, rx, ry, c, k _ G H (.refl g) rfl⟩
      · cases h'
    | _ => cases h
  | lst xs =>
    cases e with
    | int j =>
      obtain ⟨zs, e1, e2⟩ := mpd (show (repF xs j).map D.lst = some z from h)
      cases e2
      unfold repF at e1
      split at e1
      · rename_i c
        cases e1
        obtain ⟨a, vs, ex, ga, _, ra⟩ := rx
        refine .inr ⟨a, j, vs, ex, ry, g.lst ga, by omega, by omega, by rw [ra.len]; exact c.2.2, fun p hp => ?_⟩
        exact k _ _ _ (.new g hp) ⟨p, _, rfl, upd_same, by rw [rep_len]; exact c.2.2, RpA.up (same_new (none_of_R g hp)) _ _ (rep_flat ra _)⟩
      · cases e1
    | _ => cases h
  | _ => cases e <;> cases h
theorem opd_div : OpD (rI CDivN fun i j => .int (i.fdiv j)) divF := fun x y d e z G H Q g rx ry h k => by
  cases d with
  | int i =>
    cases e with
    | int j =>
      have h' : (if j ≠ 0 ∧ j.natAbs < 1073741824 then some (D.int (i.fdiv j)) else none) = some z := h
      split at h'
      · rename_i c
        cases h'
        exact ⟨i, j, rx, ry, c, k _ G H (.refl g) rfl⟩
      · cases h'
    | _ => cases h
  | _ => cases e <;> cases h
theorem opd_mod : OpD (rI (fun _ j => j ≠ 0) fun i j => .int (i.fmod j)) modF := fun x y d e z G H Q g rx ry h k => by
  cases d with
  | int i =>
    cases e with
    | int j =>
      have h' : (if j ≠ 0 then some (D.int (i.fmod j)) else none) = some z := h
      split at h'
      · rename_i c
        cases h'
        exact ⟨i, j, rx, ry, c, k _ G H (.refl g) rfl⟩
      · cases h'
    | _ => cases h
  | _ => cases e <;> cases h
theorem opd_pow : OpD (rI CPow fun i j => .int (i ^ j.toNat)) powF := fun x y d e z G H Q g rx ry h k => by
  cases d with
  | int i =>
    cases e with
    | int j =>
      have h' : (if 0 ≤ j ∧ j ≤ 1000000 ∧ i.natAbs < 2 ^ 64 then some (D.int (i ^ j.toNat)) else none) = some z := h
      split at h'
      · rename_i c
        cases h'
        exact ⟨i, j, rx, ry, c, k _ G H (.refl g) rfl⟩
      · cases h'
    | _ => cases h
  | _ => cases e <;> cases h
theorem opd_ltI {p : Int → Int → Bool} : OpD (rI0 fun i j => .bl (p i j)) (ltI p) := fun x y d e z G H Q g rx ry h k => by
  cases d with
  | int i =>
    cases e with
    | int j =>
      cases h
      exact ⟨i, j, rx, ry, k _ G H (.refl g) rfl⟩
    | _ => cases h
  | _ => cases e <;> cases h
theorem opd_isN : OpD (fun x y H Q => y = .non ∧ Q (.bl (decide (x = .non))) H) isNF := fun x y d e z G H Q g rx ry h k => by
  cases e with
  | non =>
    refine ⟨ry, ?_⟩
    cases d with
    | opq _ => cases h
    | non =>
      cases h
      have rx' : x = .non := rx
      rw [decide_eq_true rx']
      exact k _ G H (.refl g) rfl
    | lst _ =>
      cases h
      obtain ⟨a, vs, ex, _⟩ := rx
      subst ex
      exact k _ G H (.refl g) rfl
    | tup _ =>
      cases h
      obtain ⟨a, vs, ex, _⟩ := rx
      subst ex
      exact k _ G H (.refl g) rfl
    | dct _ =>
      cases h
      obtain ⟨a, vs, ex, _⟩ := rx
      subst ex
      exact k _ G H (.refl g) rfl
    | _ =>
      cases h
      cases rx
      exact k _ G H (.refl g) rfl
  | _ => cases h
theorem opd_notN : OpD (fun x y H Q => y = .non ∧ Q (.bl (!decide (x = .non))) H) notNF := fun x y d e z G H Q g rx ry h k => by
  cases e with
  | non =>
    refine ⟨ry, ?_⟩
    cases d with
    | opq _ => cases h
    | non =>
      cases h
      have rx' : x = .non := rx
      rw [decide_eq_true rx']
      exact k _ G H (.refl g) rfl
    | lst _ =>
      cases h
      obtain ⟨a, vs, ex, _⟩ := rx
      subst ex
      exact k _ G H (.refl g) rfl
    | tup _ =>
      cases h
      obtain ⟨a, vs, ex, _⟩ := rx
      subst ex
      exact k _ G H (.refl g) rfl
    | dct _ =>
      cases h
      obtain ⟨a, vs, ex, _⟩ := rx
      subst ex
      exact k _ G H (.refl g) rfl
    | _ =>
      cases h
      cases rx
      exact k _ G H (.refl g) rfl
  | _ => cases h
theorem opd_isB : OpD rIsB isBF := fun x y d e z G H Q g rx ry h k => by
  cases d with
  | bl a =>
    cases e with
    | bl b =>
      cases h
      exact ⟨a, b, rx, ry, k _ G H (.refl g) rfl⟩
    | _ => cases h
  | _ => cases e <;> cases h
theorem opd_notB : OpD rNotB notBF := fun x y d e z G H Q g rx ry h k => by
  cases d with
  | bl a =>
    cases e with
    | bl b =>
      cases h
      exact ⟨a, b, rx, ry, k _ G H (.refl g) rfl⟩
    | _ => cases h
  | _ => cases e <;> cases h
end
end VS
end
section
/-! VS3: subscripts, slices, calls by values -/
namespace VS
open PySem PySem.Spec PyProof.Rows L2
/-! ### tuples of ints compared -/
def intsOf : List D → Option (List Int)
  | [] => some []
  | .int i :: r => (intsOf r).map (i :: ·)
  | _ => none
theorem intsOf_map : ∀ {ds : List D} {ns : List Int}, intsOf ds = some ns → ds = ns.map D.int
  | [], ns, h => by cases h; rfl
  | .int i :: r, ns, h => by
    obtain ⟨m, e1, e2⟩ := mpd (show (intsOf r).map (i :: ·) = some ns from h)
    cases e2
    rw [intsOf_map e1]
    rfl
  | .non :: _, _, h => by cases h
  | .bl _ :: _, _, h => by cases h
  | .str _ :: _, _, h => by cases h
  | .lst _ :: _, _, h => by cases h
  | .tup _ :: _, _, h => by cases h
  | .dct _ :: _, _, h => by cases h
  | .opq _ :: _, _, h => by cases h
theorem intsOf_ints : ∀ ns : List Int, intsOf (ns.map D.int) = some ns
  | [] => rfl
  | n :: ns => by
    show (intsOf (ns.map D.int)).map (n :: ·) = _
    rw [intsOf_ints ns]
    rfl
def ltF (d e : D) : Option D := match d, e with
  | .int i, .int j => some (.bl (decide (i < j)))
  | .tup xs, .tup ys => (intsOf xs).bind fun ns => (intsOf ys).map fun ms => .bl (HT.lexLt ns ms)
  | _, _ => none
section
variable {X : Cx}
abbrev rLT (K : PySem.W.Frag) : R2 := fun x y H Q => rI0 (fun i j => .bl (decide (i < j))) x y H Q ∨ rLtT K x y H Q
theorem op_LT {k : Nat} (r : Room k X.A) : OpR X (compareOp .Lt) (rLT X.K) := op_lt.or (op_ltT r.units0)
theorem opd_lt {K : PySem.W.Frag} : OpD (rLT K) ltF := fun x y d e z G H Q g rx ry h k => by
  cases d with
  | int i =>
    cases e with
    | int j =>
      cases h
      exact .inl ⟨i, j, rx, ry, k _ G H (.refl g) rfl⟩
    | _ => cases h
  | tup xs =>
    cases e with
    | tup ys =>
      obtain ⟨ns, e1, e2⟩ := bnd (show ((intsOf xs).bind fun ns => (intsOf ys).map fun ms => D.bl (HT.lexLt ns ms)) = some z from h)
      obtain ⟨ms, e3, e4⟩ := mpd e2
      cases e4
      obtain ⟨a, vs, ex, ga, _, ra⟩ := rx
      obtain ⟨b, ws, ey, gb, _, rb⟩ := ry
      rw [intsOf_map e1] at ra
      rw [intsOf_map e3] at rb
      have q1 := RpA.ints ns ra
      have q2 := RpA.ints ms rb
      subst q1
      subst q2
      exact .inr ⟨a, b, ns, ms, ex, ey, SqT.of (g.tup ga), SqT.of (g.tup gb), k _ G H (.refl g) rfl⟩
    | _ => cases h
  | _ => cases e <;> cases h
end
/-! ### items -/
def ixF (d e : D) : Option D := match d, e with
  | .lst xs, .int i => atI xs i
  | .tup xs, .int i => atI xs i
  | _, _ => none
theorem atI_get {G : Hp} {vs : List V} {ds : List D} {i : Int} {d : D} (r : RpA G vs ds) (h : atI ds i = some d) : ∃ v, atI vs i = some v ∧ Rp G v d := by
  obtain ⟨j, e1, e2⟩ := bnd (show (ixN ds.length i).bind (fun j => ds[j]?) = some d from h)
  obtain ⟨v, e3, r3⟩ := r.get e2
  refine ⟨v, ?_, r3⟩
  show (ixN vs.length i).bind (fun j => vs[j]?) = some v
  rw [r.len, e1]
  exact e3
section
variable {l : Bool} {X : Cx} {a b : Expr} {ta tb : TE} {φ ψ : EM} {pos : Pos}
abbrev rIX (K : PySem.W.Frag) : R2 := fun x y H Q => rIxL K x y H Q ∨ rIxT K x y H Q
theorem opd_ix {K : PySem.W.Frag} : OpD (rIX K) ixF := fun x y d e z G H Q g rx ry h k => by
  cases d with
  | lst xs =>
    cases e with
    | int i =>
      obtain ⟨p, vs, ex, ga, _, ra⟩ := rx
      obtain ⟨v, e1, r1⟩ := atI_get ra h
      exact .inl ⟨p, vs, i, v, ex, ry, SqL.of (g.lst ga), e1, k v G H (.refl g) r1⟩
    | _ => cases h
  | tup xs =>
    cases e with
    | int i =>
      obtain ⟨p, vs, ex, ga, _, ra⟩ := rx
      obtain ⟨v, e1, r1⟩ := atI_get ra h
      exact .inr ⟨p, vs, i, v, ex, ry, SqT.of (g.tup ga), e1, k v G H (.refl g) r1⟩
    | _ => cases h
  | _ => cases e <;> cases h
theorem de_ix (ha : DE l X a ta φ) (hb : DE l X b tb ψ) (hs : PlainIx b := by exact fun _ _ => rfl) : DE l X (.Subscript a b pos) (tOp (rIX X.K) ta tb) (eOp ixF φ ψ) := ⟨pe_ix (ix_list.or ix_tup) ha.pe hb.pe hs, so_op opd_ix ha.so hb.so⟩
end
/-! ### dicts read -/
def keyOf : D → Option Key
  | .int i => some (.inl i)
  | .str x => some (.inr x)
  | _ => none
def keysOf : List D → Option (List Key)
  | [] => some []
  | d :: r => (keyOf d).bind fun k => (keysOf r).map (k :: ·)
def keyD : Key → D
  | .inl i => .int i
  | .inr x => .str x
theorem keyOf_rp {G : Hp} {d : D} {k : Key} {v : V} (h : keyOf d = some k) (r : Rp G v d) : v = kV k := by
  cases d with
  | int i => cases h; exact r
  | str x => cases h; exact r
  | _ => cases h
theorem keysOf_rp {G : Hp} : ∀ {ds : List D} {ks : List Key} {vs : List V}, keysOf ds = some ks → RpA G vs ds → vs = ks.map kV
  | [], ks, [], h, _ => by cases h; rfl
  | d :: r, ks, v :: vs, h, q => by
    obtain ⟨k, e1, e2⟩ := bnd (show ((keyOf d).bind fun k => (keysOf r).map (k :: ·)) = some ks from h)
    obtain ⟨ks', e3, e4⟩ := mpd e2
    cases e4
    rw [keyOf_rp e1 q.1, keysOf_rp e3 q.2]
    rfl
  | [], _, _ :: _, _, q => q.elim
  | _ :: _, _, [], _, q => q.elim
theorem keyOf_D (k : Key) : keyOf (keyD k) = some k := by cases k <;> rfl
theorem keysOf_D : ∀ ks : List Key, keysOf (ks.map keyD) = some ks
  | [] => rfl
  | k :: ks => by
    show ((keyOf (keyD k)).bind fun k => (keysOf (ks.map keyD)).map (k :: ·)) = _
    rw [keyOf_D, keysOf_D ks]
    rfl
theorem rp_key {G : Hp} (k : Key) : Rp G (kV k) (keyD k) := by cases k <;> rfl
theorem rp_keys {G : Hp} : ∀ ks : List Key, RpA G (ks.map kV) (ks.map keyD)
  | [] => trivial
  | k :: ks => ⟨rp_key k, rp_keys ks⟩
abbrev KD := List (List Key × D)
def valD (kvs : KD) (k : List Key) : Option D := match kvs with
  | [] => none
  | (j, d) :: r => if j = k then some d else valD r k
def putD (kvs : KD) (k : List Key) (d : D) : KD := if (valD kvs k).isSome then kvs.map (fun p => if p.1 = k then (p.1, d) else p) else kvs ++ [(k, d)]
def dropD (kvs : KD) (k : List Key) : KD := kvs.filter fun p => decide (p.1 ≠ k)
theorem RpK.len {G : Hp} : ∀ {ws : List (List Key × V)} {kvs : KD}, RpK G ws kvs → ws.length = kvs.length
  | [], [], _ => rfl
  | _ :: ws, _ :: kvs, h => congrArg Nat.succ (RpK.len (ws := ws) (kvs := kvs) h.2)
  | [], _ :: _, h => h.elim
  | _ :: _, [], h => h.elim
theorem RpK.val {G : Hp} {k : List Key} : ∀ {ws : List (List Key × V)} {kvs : KD}, RpK G ws kvs → (valV ws k = none ∧ valD kvs k = none) ∨ ∃ v d, valV ws k = some v ∧ valD kvs k = some d ∧ Rp G v d
  | [], [], _ => .inl ⟨rfl, rfl⟩
  | w :: ws, (j, d) :: kvs, h => by
    have e : w.1 = j := h.1.1
    by_cases q : j = k
    · refine .inr ⟨w.2, d, valV_pos (e.trans q), ?_, h.1.2⟩
      show (if j = k then some d else valD kvs k) = some d
      rw [if_pos q]
    · have e1 : valV (w :: ws) k = valV ws k := valV_neg fun z => q (e.symm.trans z)
      have e2 : valD ((j, d) :: kvs) k = valD kvs k := by
        show (if j = k then some d else valD kvs k) = _
        rw [if_neg q]
      rw [e1, e2]
      exact RpK.val h.2
  | [], _ :: _, h => h.elim
  | _ :: _, [], h => h.elim
theorem RpK.app {G : Hp} : ∀ {ws us : List (List Key × V)} {kvs js : KD}, RpK G ws kvs → RpK G us js → RpK G (ws ++ us) (kvs ++ js)
  | [], _, [], _, _, h => h
  | _ :: _, _, _ :: _, _, h, q => ⟨h.1, RpK.app h.2 q⟩
  | [], _, _ :: _, _, h, _ => h.elim
  | _ :: _, _, [], _, h, _ => h.elim
theorem RpK.mapPut {G : Hp} {k : List Key} {v : V} {d : D} (r : Rp G v d) : ∀ {ws : List (List Key × V)} {kvs : KD}, RpK G ws kvs → RpK G (ws.map fun kv => if kv.1 = k then (kv.1, v) else kv) (kvs.map fun p => if p.1 = k then (p.1, d) else p)
  | [], [], _ => trivial
  | w :: ws, p :: kvs, h => by
    refine ⟨?_, RpK.mapPut r h.2⟩
    have e : w.1 = p.1 := h.1.1
    show (if w.1 = k then (w.1, v) else w).1 = (if p.1 = k then (p.1, d) else p).1 ∧ Rp G (if w.1 = k then (w.1, v) else w).2 (if p.1 = k then (p.1, d) else p).2
    by_cases q : p.1 = k
    · rw [if_pos q, if_pos (e.trans q)]
      exact ⟨e, r⟩
    · rw [if_neg q, if_neg fun z => q (e.symm.trans z)]
      exact h.1
  | [], _ :: _, h => h.elim
  | _ :: _, [], h => h.elim
theorem RpK.put {G : Hp} {k : List Key} {v : V} {d : D} {ws : List (List Key × V)} {kvs : KD} (h : RpK G ws kvs) (r : Rp G v d) : RpK G (putK ws k v) (putD kvs k d) := by
  unfold putK putD
  rcases h.val (k := k) with ⟨e1, e2⟩ | ⟨v', d', e1, e2, _⟩
  · rw [valV_any, e1, e2]
    exact h.app ⟨⟨rfl, r⟩, trivial⟩
  · rw [valV_any, e1, e2]
    exact h.mapPut r
theorem RpK.drop {G : Hp} {k : List Key} : ∀ {ws : List (List Key × V)} {kvs : KD}, RpK G ws kvs → RpK G (dropK ws k) (dropD kvs k)
  | [], [], _ => trivial
  | w :: ws, p :: kvs, h => by
    have e : w.1 = p.1 := h.1.1
    have ih := RpK.drop (k := k) h.2
    unfold dropK dropD at ih ⊢
    by_cases q : p.1 = k
    · rw [List.filter_cons_of_neg (by simp [e.trans q]), List.filter_cons_of_neg (by simp [q])]
      exact ih
    · rw [List.filter_cons_of_pos (by simp [e, q]), List.filter_cons_of_pos (by simp [q])]
      exact ⟨h.1, ih⟩
  | [], _ :: _, h => h.elim
  | _ :: _, [], h => h.elim
theorem putD_len (kvs : KD) (k : List Key) (d : D) : (putD kvs k d).length ≤ kvs.length + 1 := by
  unfold putD
  split
  · rw [List.length_map]
    omega
  · rw [List.length_append]
    exact Nat.le_refl _
theorem dropD_len (kvs : KD) (k : List Key) : (dropD kvs k).length ≤ kvs.length := List.length_filter_le _ _
/-- d[k]: there -/
def dgF (d e : D) : Option D := match d, e with
  | .dct kvs, .tup ks => (keysOf ks).bind fun k => valD kvs k
  | _, _ => none
def dinF (e d : D) : Option D := match d, e with
  | .dct kvs, .tup ks => (keysOf ks).map fun k => .bl (valD kvs k).isSome
  | _, _ => none
def dniF (e d : D) : Option D := match d, e with
  | .dct kvs, .tup ks => (keysOf ks).map fun k => .bl (!(valD kvs k).isSome)
  | _, _ => none
theorem dget_of {G H : Hp} (g : SameR G H) {x y : V} {kvs : KD} {ks : List D} {k : List Key} (rx : Rp G x (.dct kvs)) (ry : Rp G y (.tup ks)) (hk : keysOf ks = some k) :
    ∃ a ws, x = .ref a ∧ RpK G ws kvs ∧ DGet H a y (valV ws k) := by
  obtain ⟨a, ws, ex, ga, _, rk⟩ := rx
  obtain ⟨p, vs, ey, gp, _, rp⟩ := ry
  refine ⟨a, ws, ex, rk, .inr ⟨ws, k, p, g.dct ga, ey, ?_, rfl⟩⟩
  rw [← keysOf_rp hk rp]
  exact g.tup gp
section
variable {l : Bool} {X : Cx} {o i : Expr} {td ty : TE} {φ ψ : EM} {pos : Pos}
theorem de_dget (hu : X.A.units + 1 < cLine) (ho : DE l X o td φ) (hi : DE l X i ty ψ) (hs : NoSl i := by exact fun _ _ => rfl) : DE l X (.Subscript o i pos) (tDGet td ty) (eOp dgF φ ψ) := ⟨pe_dget hu ho.pe hi.pe hs, fun b σ G H ρ μ d μ2 Q hl R e k => by
  obtain ⟨⟨x, μ3⟩, e1, e2⟩ := bnd e
  obtain ⟨⟨y, μ4⟩, e3, e4⟩ := bnd e2
  obtain ⟨z, e5, e6⟩ := mpd e4
  cases e6
  refine ho.so b σ G H ρ μ x μ3 _ hl R e1 fun v G2 H2 R2 s2 r2 => ?_
  refine hi.so b σ G2 H2 ρ μ3 y μ4 _ hl R2 e3 fun w G3 H3 R3 s3 r3 => ?_
  cases x with
  | dct kvs =>
    cases y with
    | tup ks =>
      obtain ⟨kk, q1, q2⟩ := bnd (show ((keysOf ks).bind fun k => valD kvs k) = some _ from e5)
      obtain ⟨a, ws, ex, rk, dg⟩ := dget_of R3.gh (Rp.up s3 _ _ r2) r3 q1
      rcases rk.val (k := kk) with ⟨_, z2⟩ | ⟨v', d', z1, z2, z3⟩
      · rw [z2] at q2; cases q2
      · rw [z2] at q2
        cases q2
        rw [z1] at dg
        exact ⟨a, v', ex, dg, k v' G3 H3 R3 (s2.trans s3) z3⟩
    | _ => cases e5
  | _ => cases y <;> cases e5⟩
theorem so_din (neg : Bool) {t : TE} (ht : t = if neg then tDNotIn ty td else tDIn ty td) (ho : SoE l td φ) (hi : SoE l ty ψ) : SoE l t (eOp (if neg then dniF else dinF) ψ φ) := fun b σ G H ρ μ d μ2 Q hl R e k => by
  obtain ⟨⟨y, μ3⟩, e1, e2⟩ := bnd e
  obtain ⟨⟨x, μ4⟩, e3, e4⟩ := bnd e2
  obtain ⟨z, e5, e6⟩ := mpd e4
  cases e6
  have main : ∀ (F : Bool → Bool) (f : D → D → Option D), (∀ e d, f e d = match d, e with
      | .dct kvs, .tup ks => (keysOf ks).map fun k => .bl (F (valD kvs k).isSome)
      | _, _ => none) → f y x = some d → ty σ H fun y H1 => td σ H1 fun x H2 => ∃ a o, x = .ref a ∧ DGet H2 a y o ∧ Q (.bl (F o.isSome)) H2 := fun F f hf e5 => by
    refine hi b σ G H ρ μ y μ3 _ hl R e1 fun w G2 H2 R2 s2 r2 => ?_
    refine ho b σ G2 H2 ρ μ3 x _ _ hl R2 e3 fun v G3 H3 R3 s3 r3 => ?_
    rw [hf] at e5
    cases x with
    | dct kvs =>
      cases y with
      | tup ks =>
        obtain ⟨kk, q1, q2⟩ := mpd (show ((keysOf ks).map fun k => D.bl (F (valD kvs k).isSome)) = some _ from e5)
        cases q2
        obtain ⟨a, ws, ex, rk, dg⟩ := dget_of R3.gh r3 (Rp.up s3 _ _ r2) q1
        refine ⟨a, _, ex, dg, k _ G3 H3 R3 (s2.trans s3) ?_⟩
        rcases rk.val (k := kk) with ⟨z1, z2⟩ | ⟨v', d', z1, z2, z3⟩
        · rw [z1, z2]
          rfl
        · rw [z1, z2]
          rfl
      | _ => cases e5
    | _ => cases y <;> cases e5
  cases neg with
  | false =>
    subst ht
    exact main id dinF (fun e d => by cases d <;> cases e <;> rfl) e5
  | true =>
    subst ht
    exact main not dniF (fun e d => by cases d <;> cases e <;> rfl) e5
theorem dt_din (hu : X.A.units + 1 < cLine) (hi : DE l X i ty ψ) (ho : DE l X o td φ) (h1 : behindInMarks .In o = false := by rfl) : DT l X (.Compare i [.In] [o] pos) (tB (tDIn ty td)) (tstM (eOp dinF ψ φ)) := ⟨pt_cmp (pc_din hu hi.pe ho.pe) h1, so_tB (so_din false rfl ho.so hi.so)⟩
theorem dt_dni (hu : X.A.units + 1 < cLine) (hi : DE l X i ty ψ) (ho : DE l X o td φ) (h1 : behindInMarks .NotIn o = false := by rfl) : DT l X (.Compare i [.NotIn] [o] pos) (tB (tDNotIn ty td)) (tstM (eOp dniF ψ φ)) := ⟨pt_cmp (pc_dnotin hu hi.pe ho.pe) h1, so_tB (so_din true rfl ho.so hi.so)⟩
end
/-! ### slices -/
abbrev OM := Rho → Mem → Option (Option Int × Mem)
def SoO (l : Bool) (t : TO) (φ : OM) : Prop := ∀ (b : Bs) (σ : L2.St) (G H : Hp) (ρ : Rho) (μ : Mem) (o : Option Int) (μ2 : Mem) (Q : Option Int → Hp → Prop), (l = false → b.lk = []) → Rel b σ G H ρ μ → φ ρ μ = some (o, μ2) →
  (∀ G2 H2, Rel b σ G2 H2 ρ μ2 → Same G G2 → Q o H2) → t σ H Q
structure DO (l : Bool) (X : Cx) (e : Option Expr) (t : TO) (φ : OM) : Prop where
  po : PO X e t
  so : SoO l t φ
def oNone : OM := fun _ μ => some (none, μ)
def oSome (φ : EM) : OM := fun ρ μ => match φ ρ μ with
  | some (.int i, μ2) => some (some i, μ2)
  | _ => none
def cutD (xs : List D) (lo hi : Option Int) : List D := (xs.drop (HT.sIx xs.length 0 lo)).take (HT.sIx xs.length xs.length hi - HT.sIx xs.length 0 lo)
theorem cut_rp {G : Hp} {vs : List V} {ds : List D} (r : RpA G vs ds) (lo hi : Option Int) : RpA G (cutV vs lo hi) (cutD ds lo hi) := by
  unfold cutV cutD
  rw [r.len]
  exact (r.drop _).take _
theorem cutD_len (xs : List D) (lo hi : Option Int) : (cutD xs lo hi).length ≤ xs.length := by
  unfold cutD
  rw [List.length_take, List.length_drop]
  omega
def cutF (d : D) (lo hi : Option Int) : Option D := match d with
  | .lst xs => some (.lst (cutD xs lo hi))
  | .tup xs => some (.tup (cutD xs lo hi))
  | _ => none
def eCut (φ : EM) (χ ψ : OM) : EM := fun ρ μ => (φ ρ μ).bind fun p => (χ ρ p.2).bind fun q => (ψ ρ q.2).bind fun r => (cutF p.1 q.1 r.1).map fun z => (z, r.2)
section
variable {l : Bool} {X : Cx} {e : Expr} {lo hi : Option Expr} {te : TE} {tl th : TO} {φ : EM} {χ ψ : OM} {pos p2 : Pos}
theorem do_none : DO l X none tNoPart oNone := ⟨po_none, fun b σ G H ρ μ o μ2 Q hl R e k => by
  cases e
  exact k G H R (.refl G)⟩
theorem do_some (h : DE l X e te φ) : DO l X (some e) (tPart te) (oSome φ) := ⟨po_some h.pe, fun b σ G H ρ μ o μ2 Q hl R e k => by
  unfold oSome at e
  split at e
  · rename_i i μ3 e1
    cases e
    exact h.so b σ G H ρ μ _ _ _ hl R e1 fun v G2 H2 R2 s2 r2 => ⟨i, r2, k G2 H2 R2 s2⟩
  · cases e⟩
abbrev rSL (K : PySem.W.Frag) : V → Option Int → Option Int → Hp → VK → Prop := fun x lo hi H Q => rSlL K x lo hi H Q ∨ rSlA K x lo hi H Q
theorem de_cut (he : DE l X e te φ) (hl : DO l X lo tl χ) (hh : DO l X hi th ψ) : DE l X (.Subscript e (.Slice lo hi none p2) pos) (tSl (rSL X.K) te tl th) (eCut φ χ ψ) := ⟨pe_slice (sl_list.or sl_tupA) he.pe hl.po hh.po, fun b σ G H ρ μ d μ2 Q hlk R e k => by
  obtain ⟨⟨x, μ3⟩, e1, e2⟩ := bnd e
  obtain ⟨⟨y, μ4⟩, e3, e4⟩ := bnd e2
  obtain ⟨⟨w, μ5⟩, e5, e6⟩ := bnd e4
  obtain ⟨z, e7, e8⟩ := mpd e6
  cases e8
  refine he.so b σ G H ρ μ x μ3 _ hlk R e1 fun v G2 H2 R2 s2 r2 => ?_
  refine hl.so b σ G2 H2 ρ μ3 y μ4 _ hlk R2 e3 fun G3 H3 R3 s3 => ?_
  refine hh.so b σ G3 H3 ρ μ4 w _ _ hlk R3 e5 fun G4 H4 R4 s4 => ?_
  have r4 : Rp G4 v x := Rp.up (s3.trans s4) _ _ r2
  have s24 := (s2.trans s3).trans s4
  cases x with
  | lst xs =>
    cases e7
    obtain ⟨a, vs, ex, ga, hz, ra⟩ := r4
    refine .inl ⟨a, vs, ex, SqL.of (R4.gh.lst ga), fun p hp => ?_⟩
    obtain ⟨R5, s5, r5⟩ := R4.lst hp (Nat.le_trans (cutD_len xs y w) hz) (cut_rp ra y w)
    exact k _ _ _ R5 (s24.trans s5) r5
  | tup xs =>
    cases e7
    have r4' := r4
    obtain ⟨a, vs, ex, ga, hz, ra⟩ := r4
    refine .inr ⟨a, vs, ex, SqT.of (R4.gh.tup ga), fun hw => ?_, fun _ p hp => ?_⟩
    · rw [← ex]
      have ec : cutD xs y w = xs := by
        unfold cutD
        rw [ra.len] at hw
        rw [hw.1, hw.2, List.drop_zero, Nat.sub_zero, List.take_length]
      exact k _ G4 H4 R4 s24 (by show Rp G4 v (.tup (cutD xs y w)); rw [ec]; exact r4')
    · obtain ⟨R5, s5, r5⟩ := R4.tup hp (Nat.le_trans (cutD_len xs y w) hz) (cut_rp ra y w)
      exact k _ _ _ R5 (s24.trans s5) r5
  | _ => cases e7⟩
end
/-! ### calls of built-ins -/
def CallD (r : List V → Hp → VK → Prop) (f : List D → Option D) : Prop := ∀ (vs : List V) (ds : List D) (z : D) (G H : Hp) (Q : VK), SameR G H → RpA G vs ds → f ds = some z → (∀ v G2 H2, Ext G H G2 H2 → Rp G2 v z → Q v H2) → r vs H Q
def eCB (f : List D → Option D) (ψ : AM) : EM := fun ρ μ => (ψ ρ μ).bind fun p => (f p.1).map fun z => (z, p.2)
section
variable {l : Bool} {X : Cx} {x : Str} {p pos : Pos} {e : Expr} {es : List Expr} {t : TA} {id T : String} {r : List V → Hp → VK → Prop} {f : List D → Option D} {ψ : AM}
theorem so_cb (hd : CallD r f) (ha : SoA l t ψ) : SoE l (tCB r t) (eCB f ψ) := fun b σ G H ρ μ d μ2 Q hl R e k => by
  obtain ⟨⟨xs, μ3⟩, e1, e2⟩ := bnd e
  obtain ⟨z, e3, e4⟩ := mpd e2
  cases e4
  refine ha b σ G H ρ μ xs _ _ hl R e1 fun vs G2 H2 R2 s2 r2 => ?_
  exact hd vs xs _ G2 H2 Q R2.gh r2 e3 fun v G3 H3 x3 r3 => k v G3 H3 (R2.ext x3) (s2.trans x3.gg) r3
theorem de_cb (hc : CallR X (.builtin id) r) (hd : CallD r f) (hg : Gl X x) (hm : X.mg x = none) (hv : bootBuiltins x = some (.builtin id)) (h : DA l X (e :: es) t ψ)
    (hn : x ≠ "__name__" := by decide) (hdb : (x == ("__debug__" : Str)) = false := by decide) (he : starEach (e :: es) X.env = (false, eval e X.env) :: starEach es X.env := by rfl) (hpl : (backTo pos (starEach es X.env)).any (·.1) = false := by rfl) :
    DE l X (.Call (.Name x p) (e :: es) [] pos) (tCB r t) (eCB f ψ) := ⟨pe_callB hc hg hm hv h.pa hn hdb he hpl, so_cb hd h.so⟩
theorem de_cty (hc : CallR X (.type T) r) (hd : CallD r f) (hg : Gl X x) (hm : X.mg x = none) (hv : bootBuiltins x = some (.type T)) (h : DA l X (e :: es) t ψ)
    (hn : x ≠ "__name__" := by decide) (hdb : (x == ("__debug__" : Str)) = false := by decide) (he : starEach (e :: es) X.env = (false, eval e X.env) :: starEach es X.env := by rfl) (hpl : (backTo pos (starEach es X.env)).any (·.1) = false := by rfl) :
    DE l X (.Call (.Name x p) (e :: es) [] pos) (tCB r t) (eCB f ψ) := ⟨pe_callTy hc hg hm hv h.pa hn hdb he hpl, so_cb hd h.so⟩
end
end VS
end
section
/-! VS4: built-in functions, defs, methods of owned cells by values -/
namespace VS
open PySem PySem.Spec PyProof.Rows L2
/-! ### len, list, tuple -/
def lenF : List D → Option D
  | [.lst xs] => some (.int xs.length)
  | [.tup xs] => some (.int xs.length)
  | _ => none
def listF : List D → Option (List D)
  | [.lst xs] => some xs
  | [.tup xs] => some xs
  | _ => none
def tupF : List D → Option D
  | [.lst xs] => some (.tup xs)
  | [.tup xs] => some (.tup xs)
  | _ => none
theorem rp1 {G : Hp} {vs : List V} {d : D} (r : RpA G vs [d]) : ∃ v, vs = [v] ∧ Rp G v d := by
  cases vs with
  | nil => exact r.elim
  | cons v vs =>
    cases vs with
    | nil => exact ⟨v, rfl, r.1⟩
    | cons _ _ => exact r.2.elim
theorem rp2 {G : Hp} {vs : List V} {d e : D} (r : RpA G vs [d, e]) : ∃ v w, vs = [v, w] ∧ Rp G v d ∧ Rp G w e := by
  cases vs with
  | nil => exact r.elim
  | cons v vs =>
    obtain ⟨w, q, r2⟩ := rp1 r.2
    exact ⟨v, w, by rw [q], r.1, r2⟩
section
variable {X : Cx}
theorem cd_len {K : PySem.W.Frag} : CallD (fun xs H Q => ∃ p ys, xs = [.ref p] ∧ (SqL K H p ys ∨ SqT K H p ys) ∧ Q (.int ys.length) H) lenF := fun vs ds z G H Q g r h k => by
  match ds, h with
  | [.lst xs], h =>
    obtain ⟨v, e, q⟩ := rp1 r
    obtain ⟨a, ws, ev, ga, _, ra⟩ := q
    subst e
    subst ev
    cases h
    exact ⟨a, ws, rfl, .inl (SqL.of (g.lst ga)), by rw [ra.len]; exact k _ G H (.refl g) rfl⟩
  | [.tup xs], h =>
    obtain ⟨v, e, q⟩ := rp1 r
    obtain ⟨a, ws, ev, ga, _, ra⟩ := q
    subst e
    subst ev
    cases h
    exact ⟨a, ws, rfl, .inr (SqT.of (g.tup ga)), by rw [ra.len]; exact k _ G H (.refl g) rfl⟩
theorem cd_tup {K : PySem.W.Frag} : CallD (fun xs H Q => ∃ p ys, xs = [.ref p] ∧ ((SqL K H p ys ∧ ∀ l, H l = none → Q (.ref l) (upd H l (.tup ys))) ∨ (SqT K H p ys ∧ Q (.ref p) H))) tupF := fun vs ds z G H Q g r h k => by
  match ds, h with
  | [.lst xs], h =>
    obtain ⟨v, e, q⟩ := rp1 r
    obtain ⟨a, ws, ev, ga, hz, ra⟩ := q
    subst e
    subst ev
    cases h
    refine ⟨a, ws, rfl, .inl ⟨SqL.of (g.lst ga), fun p hp => ?_⟩⟩
    exact k _ _ _ (.new g hp) ⟨p, _, rfl, upd_same, hz, RpA.up (same_new (none_of_R g hp)) _ _ ra⟩
  | [.tup xs], h =>
    obtain ⟨v, e, q⟩ := rp1 r
    have q' := q
    obtain ⟨a, ws, ev, ga, hz, ra⟩ := q
    subst e
    cases h
    exact ⟨a, ws, by rw [ev], .inr ⟨SqT.of (g.tup ga), by rw [← ev]; exact k _ G H (.refl g) q'⟩⟩
end
/-- list(..): a new one -/
def lCB (f : List D → Option (List D)) (ψ : AM) : AM := fun ρ μ => (ψ ρ μ).bind fun p => (f p.1).map fun z => (z, p.2)
def CallL (r : List V → Hp → VK → Prop) (f : List D → Option (List D)) : Prop := ∀ (vs : List V) (ds zs : List D) (G H : Hp) (Q : VK), SameR G H → RpA G vs ds → f ds = some zs → (∀ p ws, H p = none → zs.length ≤ sizeLine → RpA G ws zs → Q (.ref p) (upd H p (.lst ws))) → r vs H Q
section
variable {l : Bool} {X : Cx} {x : Str} {p pos : Pos} {e : Expr} {es : List Expr} {t : TA} {id T : String} {r : List V → Hp → VK → Prop} {f : List D → Option (List D)} {ψ : AM}
theorem sl_cb (hd : CallL r f) (ha : SoA l t ψ) : SoL l (tCB r t) (lCB f ψ) := fun b σ G H ρ μ d μ2 Q hl R e k => by
  obtain ⟨⟨xs, μ3⟩, e1, e2⟩ := bnd e
  obtain ⟨z, e3, e4⟩ := mpd e2
  cases e4
  refine ha b σ G H ρ μ xs _ _ hl R e1 fun vs G2 H2 R2 s2 r2 => ?_
  refine hd vs xs _ G2 H2 Q R2.gh r2 e3 fun p ws hp hz r3 => ?_
  exact k p ws G2 _ (R2.side hp) s2 upd_same hz r3 (R2.gnone hp) (R2.b_none hp) (R2.unowned hp)
theorem dl_cb (hc : CallR X (.builtin id) r) (hd : CallL r f) (hg : Gl X x) (hm : X.mg x = none) (hv : bootBuiltins x = some (.builtin id)) (h : DA l X (e :: es) t ψ)
    (hn : x ≠ "__name__" := by decide) (hdb : (x == ("__debug__" : Str)) = false := by decide) (he : starEach (e :: es) X.env = (false, eval e X.env) :: starEach es X.env := by rfl) (hpl : (backTo pos (starEach es X.env)).any (·.1) = false := by rfl) :
    DL l X (.Call (.Name x p) (e :: es) [] pos) (tCB r t) (lCB f ψ) := ⟨pe_callB hc hg hm hv h.pa hn hdb he hpl, sl_cb hd h.so⟩
theorem dl_cty (hc : CallR X (.type T) r) (hd : CallL r f) (hg : Gl X x) (hm : X.mg x = none) (hv : bootBuiltins x = some (.type T)) (h : DA l X (e :: es) t ψ)
    (hn : x ≠ "__name__" := by decide) (hdb : (x == ("__debug__" : Str)) = false := by decide) (he : starEach (e :: es) X.env = (false, eval e X.env) :: starEach es X.env := by rfl) (hpl : (backTo pos (starEach es X.env)).any (·.1) = false := by rfl) :
    DL l X (.Call (.Name x p) (e :: es) [] pos) (tCB r t) (lCB f ψ) := ⟨pe_callTy hc hg hm hv h.pa hn hdb he hpl, sl_cb hd h.so⟩
theorem cl_list {K : PySem.W.Frag} : CallL (fun xs H Q => ∃ p ys, xs = [.ref p] ∧ (SqL K H p ys ∨ SqT K H p ys) ∧ ∀ l, H l = none → Q (.ref l) (upd H l (.lst ys))) listF := fun vs ds zs G H Q g r h k => by
  match ds, h with
  | [.lst xs], h =>
    obtain ⟨v, e, q⟩ := rp1 r
    obtain ⟨a, ws, ev, ga, hz, ra⟩ := q
    subst e
    subst ev
    cases h
    exact ⟨a, ws, rfl, .inl (SqL.of (g.lst ga)), fun p hp => k p ws hp hz ra⟩
  | [.tup xs], h =>
    obtain ⟨v, e, q⟩ := rp1 r
    obtain ⟨a, ws, ev, ga, hz, ra⟩ := q
    subst e
    subst ev
    cases h
    exact ⟨a, ws, rfl, .inr (SqT.of (g.tup ga)), fun p hp => k p ws hp hz ra⟩
end
/-! ### sum, max, min, all, any of a list; max, min of two; int -/
def boolsOf : List D → Option (List Bool)
  | [] => some []
  | .bl i :: r => (boolsOf r).map (i :: ·)
  | _ => none
theorem boolsOf_map : ∀ {ds : List D} {ns : List Bool}, boolsOf ds = some ns → ds = ns.map D.bl
  | [], ns, h => by cases h; rfl
  | .bl i :: r, ns, h => by
    obtain ⟨m, e1, e2⟩ := mpd (show (boolsOf r).map (i :: ·) = some ns from h)
    cases e2
    rw [boolsOf_map e1]
    rfl
  | .non :: _, _, h => by cases h
  | .int _ :: _, _, h => by cases h
  | .str _ :: _, _, h => by cases h
  | .lst _ :: _, _, h => by cases h
  | .tup _ :: _, _, h => by cases h
  | .dct _ :: _, _, h => by cases h
  | .opq _ :: _, _, h => by cases h
theorem boolsOf_bools : ∀ ns : List Bool, boolsOf (ns.map D.bl) = some ns
  | [] => rfl
  | n :: ns => by
    show (boolsOf (ns.map D.bl)).map (n :: ·) = _
    rw [boolsOf_bools ns]
    rfl
theorem RpA.bools {G : Hp} : ∀ {vs : List V} (ns : List Bool), RpA G vs (ns.map D.bl) → vs = ns.map V.bl
  | [], [], _ => rfl
  | v :: vs, n :: ns, h => by
    have e : v = .bl n := h.1
    rw [e, RpA.bools (vs := vs) ns h.2]
    rfl
  | [], _ :: _, h => h.elim
  | _ :: _, [], h => h.elim
def maxL : List Int → Int
  | [] => 0
  | [x] => x
  | x :: y :: r => if maxL (y :: r) ≤ x then x else maxL (y :: r)
def minL : List Int → Int
  | [] => 0
  | [x] => x
  | x :: y :: r => if x ≤ minL (y :: r) then x else minL (y :: r)
theorem maxL_spec : ∀ (ns : List Int), ns ≠ [] → maxL ns ∈ ns ∧ ∀ y ∈ ns, y ≤ maxL ns
  | [], h => absurd rfl h
  | [x], _ => ⟨by simp [maxL], fun y hy => by simp at hy; rw [hy]; exact Int.le_refl x⟩
  | x :: y :: r, _ => by
    obtain ⟨h1, h2⟩ := maxL_spec (y :: r) (by simp)
    show (if maxL (y :: r) ≤ x then x else maxL (y :: r)) ∈ _ ∧ ∀ z ∈ _, z ≤ (if maxL (y :: r) ≤ x then x else maxL (y :: r))
    split
    · rename_i c
      refine ⟨by simp, fun z hz => ?_⟩
      rcases List.mem_cons.mp hz with e | hz
      · rw [e]; exact Int.le_refl x
      · exact Int.le_trans (h2 z hz) c
    · rename_i c
      refine ⟨List.mem_cons_of_mem _ h1, fun z hz => ?_⟩
      rcases List.mem_cons.mp hz with e | hz
      · rw [e]; omega
      · exact h2 z hz
theorem minL_spec : ∀ (ns : List Int), ns ≠ [] → minL ns ∈ ns ∧ ∀ y ∈ ns, minL ns ≤ y
  | [], h => absurd rfl h
  | [x], _ => ⟨by simp [minL], fun y hy => by simp at hy; rw [hy]; exact Int.le_refl x⟩
  | x :: y :: r, _ => by
    obtain ⟨h1, h2⟩ := minL_spec (y :: r) (by simp)
    show (if x ≤ minL (y :: r) then x else minL (y :: r)) ∈ _ ∧ ∀ z ∈ _, (if x ≤ minL (y :: r) then x else minL (y :: r)) ≤ z
    split
    · rename_i c
      refine ⟨by simp, fun z hz => ?_⟩
      rcases List.mem_cons.mp hz with e | hz
      · rw [e]; exact Int.le_refl x
      · exact Int.le_trans c (h2 z hz)
    · rename_i c
      refine ⟨List.mem_cons_of_mem _ h1, fun z hz => ?_⟩
      rcases List.mem_cons.mp hz with e | hz
      · rw [e]; omega
      · exact h2 z hz
def seqOf : List D → Option (List D)
  | [.lst xs] => some xs
  | _ => none
def sumF (ds : List D) : Option D := (seqOf ds).bind fun xs => (intsOf xs).map fun ns => .int ns.sum
def maxF (ds : List D) : Option D := match ds with
  | [.int i, .int j] => some (.int (if j > i then j else i))
  | _ => (seqOf ds).bind fun xs => (intsOf xs).bind fun ns => if ns = [] then none else some (.int (maxL ns))
def minF (ds : List D) : Option D := match ds with
  | [.int i, .int j] => some (.int (if j < i then j else i))
  | _ => (seqOf ds).bind fun xs => (intsOf xs).bind fun ns => if ns = [] then none else some (.int (minL ns))
def allF (ds : List D) : Option D := (seqOf ds).bind fun xs => (boolsOf xs).map fun bs => .bl (bs.all id)
def anyF (ds : List D) : Option D := (seqOf ds).bind fun xs => (boolsOf xs).map fun bs => .bl (bs.any id)
def intF : List D → Option D
  | [.int i] => some (.int i)
  | [.bl b] => some (.int (if b then 1 else 0))
  | _ => none
section
variable {X : Cx}
theorem seq_rp {K : PySem.W.Frag} {G H : Hp} (g : SameR G H) {vs : List V} {ds xs : List D} (r : RpA G vs ds) (h : seqOf ds = some xs) : ∃ a ws, vs = [.ref a] ∧ SqL K H a ws ∧ RpA G ws xs := by
  match ds, h with
  | [.lst xs], h =>
    cases h
    obtain ⟨v, e, q⟩ := rp1 r
    obtain ⟨a, ws, ev, ga, hz, ra⟩ := q
    exact ⟨a, ws, by rw [e, ev], SqL.of (g.lst ga), ra⟩
theorem cd_sum {K : PySem.W.Frag} : CallD (rSum K) sumF := fun vs ds z G H Q g r h k => by
  obtain ⟨xs, e1, e2⟩ := bnd h
  obtain ⟨ns, e3, e4⟩ := mpd e2
  cases e4
  obtain ⟨a, ws, ev, hs, ra⟩ := seq_rp (K := K) g r e1
  rw [intsOf_map e3] at ra
  rw [RpA.ints ns ra] at hs
  exact ⟨a, ns, ev, hs, k _ G H (.refl g) rfl⟩
theorem cd_all {K : PySem.W.Frag} : CallD (rAll K) allF := fun vs ds z G H Q g r h k => by
  obtain ⟨xs, e1, e2⟩ := bnd h
  obtain ⟨ns, e3, e4⟩ := mpd e2
  cases e4
  obtain ⟨a, ws, ev, hs, ra⟩ := seq_rp (K := K) g r e1
  rw [boolsOf_map e3] at ra
  rw [RpA.bools ns ra] at hs
  exact ⟨a, ns, ev, hs, k _ G H (.refl g) rfl⟩
theorem cd_any {K : PySem.W.Frag} : CallD (rAny K) anyF := fun vs ds z G H Q g r h k => by
  obtain ⟨xs, e1, e2⟩ := bnd h
  obtain ⟨ns, e3, e4⟩ := mpd e2
  cases e4
  obtain ⟨a, ws, ev, hs, ra⟩ := seq_rp (K := K) g r e1
  rw [boolsOf_map e3] at ra
  rw [RpA.bools ns ra] at hs
  exact ⟨a, ns, ev, hs, k _ G H (.refl g) rfl⟩
abbrev rMAX (K : PySem.W.Frag) : List V → Hp → VK → Prop := fun xs H Q => (∃ i j, xs = [.int i, .int j] ∧ Q (.int (if j > i then j else i)) H) ∨ rMax K xs H Q
abbrev rMIN (K : PySem.W.Frag) : List V → Hp → VK → Prop := fun xs H Q => (∃ i j, xs = [.int i, .int j] ∧ Q (.int (if j < i then j else i)) H) ∨ rMin K xs H Q
theorem max_uniq {ns : List Int} {m n : Int} (h1 : m ∈ ns ∧ ∀ y ∈ ns, y ≤ m) (h2 : n ∈ ns ∧ ∀ y ∈ ns, y ≤ n) : m = n := Int.le_antisymm (h2.2 m h1.1) (h1.2 n h2.1)
theorem min_uniq {ns : List Int} {m n : Int} (h1 : m ∈ ns ∧ ∀ y ∈ ns, m ≤ y) (h2 : n ∈ ns ∧ ∀ y ∈ ns, n ≤ y) : m = n := Int.le_antisymm (h1.2 n h2.1) (h2.2 m h1.1)
theorem max_lst {K : PySem.W.Frag} {vs : List V} {ds : List D} {z : D} {G H : Hp} {Q : VK} (g : SameR G H) (r : RpA G vs ds) (h : ((seqOf ds).bind fun xs => (intsOf xs).bind fun ns => if ns = [] then none else some (D.int (maxL ns))) = some z) (k : ∀ v G2 H2, Ext G H G2 H2 → Rp G2 v z → Q v H2) : rMax K vs H Q := by
  obtain ⟨xs, e1, e2⟩ := bnd h
  obtain ⟨ns, e3, e4⟩ := bnd e2
  split at e4
  · cases e4
  · rename_i hne
    cases e4
    obtain ⟨a, ws, ev, hs, ra⟩ := seq_rp (K := K) g r e1
    rw [intsOf_map e3] at ra
    rw [RpA.ints ns ra] at hs
    refine ⟨a, ns, ev, hs, List.length_pos_iff.mpr hne, fun m hm hle => ?_⟩
    rw [max_uniq ⟨hm, hle⟩ (maxL_spec ns hne)]
    exact k _ G H (.refl g) rfl
theorem min_lst {K : PySem.W.Frag} {vs : List V} {ds : List D} {z : D} {G H : Hp} {Q : VK} (g : SameR G H) (r : RpA G vs ds) (h : ((seqOf ds).bind fun xs => (intsOf xs).bind fun ns => if ns = [] then none else some (D.int (minL ns))) = some z) (k : ∀ v G2 H2, Ext G H G2 H2 → Rp G2 v z → Q v H2) : rMin K vs H Q := by
  obtain ⟨xs, e1, e2⟩ := bnd h
  obtain ⟨ns, e3, e4⟩ := bnd e2
  split at e4
  · cases e4
  · rename_i hne
    cases e4
    obtain ⟨a, ws, ev, hs, ra⟩ := seq_rp (K := K) g r e1
    rw [intsOf_map e3] at ra
    rw [RpA.ints ns ra] at hs
    refine ⟨a, ns, ev, hs, List.length_pos_iff.mpr hne, fun m hm hle => ?_⟩
    rw [min_uniq ⟨hm, hle⟩ (minL_spec ns hne)]
    exact k _ G H (.refl g) rfl
theorem cd_max {K : PySem.W.Frag} : CallD (rMAX K) maxF := fun vs ds z G H Q g r h k => by
  unfold maxF at h
  split at h
  · rename_i i j
    cases h
    obtain ⟨v, w, e, q1, q2⟩ := rp2 r
    rw [q1, q2] at e
    exact .inl ⟨i, j, e, k _ G H (.refl g) rfl⟩
  · exact .inr (max_lst g r h k)
theorem cd_min {K : PySem.W.Frag} : CallD (rMIN K) minF := fun vs ds z G H Q g r h k => by
  unfold minF at h
  split at h
  · rename_i i j
    cases h
    obtain ⟨v, w, e, q1, q2⟩ := rp2 r
    rw [q1, q2] at e
    exact .inl ⟨i, j, e, k _ G H (.refl g) rfl⟩
  · exact .inr (min_lst g r h k)
theorem cr_MAX (hc : X.calm = true) : CallR X (.builtin "max") (rMAX X.K) := CallR.or (call_max2 hc) (cr_max hc)
theorem cr_MIN (hc : X.calm = true) : CallR X (.builtin "min") (rMIN X.K) := CallR.or (call_min2 hc) (cr_min hc)
theorem cd_int : CallD (fun xs H Q => (∃ i, xs = [.int i] ∧ Q (.int i) H) ∨ ∃ k, xs = [.bl k] ∧ Q (.int (if k then 1 else 0)) H) intF := fun vs ds z G H Q g r h k => by
  match ds, h with
  | [.int i], h =>
    cases h
    obtain ⟨v, e, q⟩ := rp1 r
    have q' : v = .int i := q
    rw [q'] at e
    exact .inl ⟨i, e, k _ G H (.refl g) rfl⟩
  | [.bl i], h =>
    cases h
    obtain ⟨v, e, q⟩ := rp1 r
    have q' : v = .bl i := q
    rw [q'] at e
    exact .inr ⟨i, e, k _ G H (.refl g) rfl⟩
end
/-! ### isinstance -/
def isiD (d : D) (T : String) : Option Bool := match d with
  | .non => kitB "NoneType" T
  | .bl _ => kitB "bool" T
  | .int _ => kitB "int" T
  | .str _ => kitB "str" T
  | .lst _ => kitB "list" T
  | .tup _ => kitB "tuple" T
  | _ => none
def isiF : List D → Option D
  | [d, .opq (.ty T)] => (isiD d T).map .bl
  | _ => none
section
variable {X : Cx}
theorem cd_isi {K : PySem.W.Frag} : CallD (rIsi K) isiF := fun vs ds z G H Q g r h k => by
  match ds, h with
  | [d, .opq (.ty T)], h =>
    obtain ⟨b, e1, e2⟩ := mpd (show (isiD d T).map D.bl = some z from h)
    cases e2
    obtain ⟨v, w, e, q1, q2⟩ := rp2 r
    have q2' : w = .ty T := q2
    rw [q2'] at e
    cases d with
    | non =>
      cases q1
      exact ⟨_, _, _, _, b, e, .ty T, .base .non, kit_ty e1, k _ G H (.refl g) rfl⟩
    | bl c =>
      cases q1
      exact ⟨_, _, _, _, b, e, .ty T, .base (.bl c), kit_ty e1, k _ G H (.refl g) rfl⟩
    | int c =>
      cases q1
      exact ⟨_, _, _, _, b, e, .ty T, .base (.int c), kit_ty e1, k _ G H (.refl g) rfl⟩
    | str c =>
      cases q1
      exact ⟨_, _, _, _, b, e, .ty T, .base (.str c), kit_ty e1, k _ G H (.refl g) rfl⟩
    | lst c =>
      obtain ⟨a, ws, ev, ga, _⟩ := q1
      subst ev
      exact ⟨_, _, _, _, b, e, .ty T, .base (.lst (g.lst ga)), kit_ty e1, k _ G H (.refl g) rfl⟩
    | tup c =>
      obtain ⟨a, ws, ev, ga, _⟩ := q1
      subst ev
      exact ⟨_, _, _, _, b, e, .ty T, .base (.tup (g.tup ga)), kit_ty e1, k _ G H (.refl g) rfl⟩
    | _ => cases e1
end
@[simp] theorem isi_non_int : isiD .non "int" = some false := by decide +kernel
@[simp] theorem isi_non_bool : isiD .non "bool" = some false := by decide +kernel
@[simp] theorem isi_non_tuple : isiD .non "tuple" = some false := by decide +kernel
@[simp] theorem isi_non_list : isiD .non "list" = some false := by decide +kernel
@[simp] theorem isi_non_str : isiD .non "str" = some false := by decide +kernel
@[simp] theorem isi_bl_int (b : Bool) : isiD (.bl b) "int" = some true := by show kitB _ _ = _; decide +kernel
@[simp] theorem isi_bl_bool (b : Bool) : isiD (.bl b) "bool" = some true := by show kitB _ _ = _; decide +kernel
@[simp] theorem isi_bl_tuple (b : Bool) : isiD (.bl b) "tuple" = some false := by show kitB _ _ = _; decide +kernel
@[simp] theorem isi_bl_list (b : Bool) : isiD (.bl b) "list" = some false := by show kitB _ _ = _; decide +kernel
@[simp] theorem isi_bl_str (b : Bool) : isiD (.bl b) "str" = some false := by show kitB _ _ = _; decide +kernel
@[simp] theorem isi_int_int (b : Int) : isiD (.int b) "int" = some true := by show kitB _ _ = _; decide +kernel
@[simp] theorem isi_int_bool (b : Int) : isiD (.int b) "bool" = some false := by show kitB _ _ = _; decide +kernel
@[simp] theorem isi_int_tuple (b : Int) : isiD (.int b) "tuple" = some false := by show kitB _ _ = _; decide +kernel
@[simp] theorem isi_int_list (b : Int) : isiD (.int b) "list" = some false := by show kitB _ _ = _; decide +kernel
@[simp] theorem isi_int_str (b : Int) : isiD (.int b) "str" = some false := by show kitB _ _ = _; decide +kernel
@[simp] theorem isi_str_int (b : Str) : isiD (.str b) "int" = some false := by show kitB _ _ = _; decide +kernel
@[simp] theorem isi_str_bool (b : Str) : isiD (.str b) "bool" = some false := by show kitB _ _ = _; decide +kernel
@[simp] theorem isi_str_tuple (b : Str) : isiD (.str b) "tuple" = some false := by show kitB _ _ = _; decide +kernel
@[simp] theorem isi_str_list (b : Str) : isiD (.str b) "list" = some false := by show kitB _ _ = _; decide +kernel
@[simp] theorem isi_str_str (b : Str) : isiD (.str b) "str" = some true := by show kitB _ _ = _; decide +kernel
@[simp] theorem isi_lst_int (b : List D) : isiD (.lst b) "int" = some false := by show kitB _ _ = _; decide +kernel
@[simp] theorem isi_lst_bool (b : List D) : isiD (.lst b) "bool" = some false := by show kitB _ _ = _; decide +kernel
@[simp] theorem isi_lst_tuple (b : List D) : isiD (.lst b) "tuple" = some false := by show kitB _ _ = _; decide +kernel
@[simp] theorem isi_lst_list (b : List D) : isiD (.lst b) "list" = some true := by show kitB _ _ = _; decide +kernel
@[simp] theorem isi_lst_str (b : List D) : isiD (.lst b) "str" = some false := by show kitB _ _ = _; decide +kernel
@[simp] theorem isi_tup_int (b : List D) : isiD (.tup b) "int" = some false := by show kitB _ _ = _; decide +kernel
@[simp] theorem isi_tup_bool (b : List D) : isiD (.tup b) "bool" = some false := by show kitB _ _ = _; decide +kernel
@[simp] theorem isi_tup_tuple (b : List D) : isiD (.tup b) "tuple" = some true := by show kitB _ _ = _; decide +kernel
@[simp] theorem isi_tup_list (b : List D) : isiD (.tup b) "list" = some false := by show kitB _ _ = _; decide +kernel
@[simp] theorem isi_tup_str (b : List D) : isiD (.tup b) "str" = some false := by show kitB _ _ = _; decide +kernel
/-! ### defs of the program -/
/-- a def's promise by values: n arguments, m its value -/
def spP (n : Nat) (m : List D → Option D) : Sp := fun vs H Q _ => vs.length = n ∧ ∃ (G : Hp) (ds : List D) (d : D), SameR G H ∧ (∀ a ws, G a = some (.dT ws) → H a = some (.dT ws)) ∧ RpA G vs ds ∧ m ds = some d ∧
  ∀ v G2 H2, Ext G H G2 H2 → Rp G2 v d → Q v H2
section
variable {X : Cx} {CX : CXT} {k n : Nat} {f : Addr} {fd : FuncData} {ps : List Str} {m : List D → Option D} {E : XK} {x : Str} {p pos : Pos} {e : Expr} {es : List Expr} {t : TA} {ψ : AM}
theorem so_call (ha : SoA false t ψ) (hn : ∀ ρ μ ds μ2, ψ ρ μ = some (ds, μ2) → ds.length = n) : SoE false (tCall (spP n m) [] E t) (eCB m ψ) := fun b σ G H ρ μ d μ2 Q hl R e k => by
  obtain ⟨⟨xs, μ3⟩, e1, e2⟩ := bnd e
  obtain ⟨z, e3, e4⟩ := mpd e2
  cases e4
  refine ha b σ G H ρ μ xs _ _ hl R e1 fun vs G2 H2 R2 s2 r2 => ?_
  show spP n m (vs ++ []) H2 Q E
  rw [List.append_nil]
  refine ⟨by rw [r2.len]; exact hn _ _ _ _ e1, G2, xs, _, R2.gh, fun a ws ga => R2.nl a ws ga (by rw [hl rfl]; exact List.not_mem_nil), r2, e3, fun v G3 H3 x3 r3 => ?_⟩
  exact k v G3 H3 (R2.ext x3) (s2.trans x3.gg) r3
end
/-- how many arguments -/
structure ALen (ψ : AM) (n : Nat) : Prop where
  len : ∀ ρ μ ds μ2, ψ ρ μ = some (ds, μ2) → ds.length = n
theorem al_nil : ALen aNil 0 := ⟨fun ρ μ ds μ2 e => by cases e; rfl⟩
theorem al_cons {φ : EM} {ψ : AM} {n : Nat} (h : ALen ψ n) : ALen (aCons φ ψ) (n + 1) := ⟨fun ρ μ ds μ2 e => by
  obtain ⟨⟨x, μ3⟩, e1, e2⟩ := bnd e
  obtain ⟨⟨xs, μ4⟩, e3, e4⟩ := mpd e2
  cases e4
  show xs.length + 1 = n + 1
  rw [h.len _ _ _ _ e3]⟩
section
variable {X : Cx} {CX : CXT} {k n : Nat} {f : Addr} {fd : FuncData} {ps : List Str} {m : List D → Option D} {E : XK} {x : Str} {p pos : Pos} {e : Expr} {es : List Expr} {t : TA} {ψ : AM}
theorem de_call (F : FnOk X.prog X.w X.K X.mg X.base CX k f fd ps (spP n m)) (hr : Room k X.A) (hg : Gl X x) (hm : X.mg x = some (.ref f)) (hk : PySem.W.keepIn X.K (.ref f) = true) (hb : Binds X.K fd ps []) (hx : Passes CX X E)
    (h : DA false X (e :: es) t ψ) (hl : ALen ψ n) (hdb : (x == ("__debug__" : Str)) = false := by decide) (he : starEach (e :: es) X.env = (false, eval e X.env) :: starEach es X.env := by rfl) (hpl : (backTo pos (starEach es X.env)).any (·.1) = false := by rfl) :
    DE false X (.Call (.Name x p) (e :: es) [] pos) (tCall (spP n m) [] E t) (eCB m ψ) := ⟨pe_call F hr hg hm hk hb .nil hx h.pa hdb he hpl, so_call h.so hl.len⟩
theorem de_call0 (F : FnOk X.prog X.w X.K X.mg X.base CX k f fd ps (spP 0 m)) (hr : Room k X.A) (hg : Gl X x) (hm : X.mg x = some (.ref f)) (hk : PySem.W.keepIn X.K (.ref f) = true) (hb : Binds X.K fd ps []) (hx : Passes CX X E)
    (hdb : (x == ("__debug__" : Str)) = false := by decide) : DE false X (.Call (.Name x p) [] [] pos) (tCall (spP 0 m) [] E tNil) (eCB m aNil) := ⟨pe_call0 F hr hg hm hk hb .nil hx hdb, so_call so_nil al_nil.len⟩
end
/-! ### methods of an owned list -/
def lstAt (μ : Mem) (i : Nat) : Option (List D) := match mget μ i with
  | some (.lst xs) => some xs
  | _ => none
def dctAt (μ : Mem) (i : Nat) : Option KD := match mget μ i with
  | some (.dct xs) => some xs
  | _ => none
theorem lstAt_some {μ : Mem} {i : Nat} {xs : List D} (h : lstAt μ i = some xs) : mget μ i = some (.lst xs) := by
  unfold lstAt at h
  split at h
  · rename_i e
    cases h
    exact e
  · cases h
theorem dctAt_some {μ : Mem} {i : Nat} {xs : KD} (h : dctAt μ i = some xs) : mget μ i = some (.dct xs) := by
  unfold dctAt at h
  split at h
  · rename_i e
    cases h
    exact e
  · cases h
section
variable {b : Bs} {σ : L2.St} {G H G2 H2 : Hp} {ρ : Rho} {μ μ2 : Mem} {i : Nat}
theorem Rel.lstO {xs : List D} (R : Rel b σ G H ρ μ) (h : lstAt μ i = some xs) : ∃ a vs, σ[i]? = some (some (.ref a)) ∧ H a = some (.lst vs) ∧ xs.length ≤ sizeLine ∧ RpA G vs xs := by
  obtain ⟨a, s, ⟨vs, e, hz, r⟩, _⟩ := R.own i _ (lstAt_some h)
  exact ⟨a, vs, s, e, hz, r⟩
theorem Rel.dctO {xs : KD} (R : Rel b σ G H ρ μ) (h : dctAt μ i = some xs) : ∃ a vs, σ[i]? = some (some (.ref a)) ∧ H a = some (.dT vs) ∧ xs.length ≤ sizeLine ∧ RpK G vs xs := by
  obtain ⟨a, s, ⟨vs, e, hz, r⟩, _⟩ := R.own i _ (dctAt_some h)
  exact ⟨a, vs, s, e, hz, r⟩
theorem ref_eq {a a2 : Addr} (s : σ[i]? = some (some (.ref a))) (s2 : σ[i]? = some (some (.ref a2))) : a = a2 := by
  rw [s] at s2
  cases s2
  rfl
theorem Rel.wrL {a : Addr} {vs : List V} {xs ys : List D} (R : Rel b σ G H ρ μ) (hi : lstAt μ i = some xs) (s : σ[i]? = some (some (.ref a))) (hz : ys.length ≤ sizeLine) (r : RpA G vs ys) : Rel b σ G (upd H a (.lst vs)) ρ (mset μ i (.lst ys)) :=
  R.write (lstAt_some hi) s fun H' => ⟨vs, upd_same, hz, r⟩
theorem Rel.wrD {a : Addr} {vs : List (List Key × V)} {xs ys : KD} (R : Rel b σ G H ρ μ) (hi : dctAt μ i = some xs) (s : σ[i]? = some (some (.ref a))) (hz : ys.length ≤ sizeLine) (r : RpK G vs ys) : Rel b σ G (upd H a (.dT vs)) ρ (mset μ i (.dct ys)) :=
  R.write (dctAt_some hi) s fun H' => ⟨vs, upd_same, hz, r⟩
end
/-- x.append(e) -/
def eApp (i : Nat) (φ : EM) : EM := fun ρ μ => (lstAt μ i).bind fun _ => (φ ρ μ).bind fun p => (lstAt p.2 i).bind fun xs => if xs.length < sizeLine then some (.non, mset p.2 i (.lst (xs ++ [p.1]))) else none
/-- x.pop(e) -/
def ePopAt (i : Nat) (φ : EM) : EM := fun ρ μ => (lstAt μ i).bind fun _ => (φ ρ μ).bind fun p => (lstAt p.2 i).bind fun xs => match p.1 with
  | .int j => if 0 ≤ j ∧ j < 1000000 then (xs[j.toNat]?).map fun y => (y, mset p.2 i (.lst (xs.eraseIdx j.toNat))) else none
  | _ => none
/-- x.pop() -/
def ePop (i : Nat) : EM := fun ρ μ => (lstAt μ i).bind fun xs => (xs[xs.length - 1]?).map fun y => (y, mset μ i (.lst xs.dropLast))
theorem RpA.erase {G : Hp} : ∀ {vs : List V} {ds : List D} (i : Nat), RpA G vs ds → RpA G (vs.eraseIdx i) (ds.eraseIdx i)
  | [], [], _, h => h
  | _ :: _, _ :: _, 0, h => h.2
  | _ :: _, _ :: _, i + 1, h => ⟨h.1, RpA.erase i h.2⟩
  | [], _ :: _, _, h => h.elim
  | _ :: _, [], _, h => h.elim
theorem RpA.dropLast {G : Hp} {vs : List V} {ds : List D} (h : RpA G vs ds) : RpA G vs.dropLast ds.dropLast := by
  rw [List.dropLast_eq_take, List.dropLast_eq_take, h.len]
  exact h.take _
section
variable {l : Bool} {X : Cx} {e : Expr} {te : TE} {φ : EM} {pos apos npos : Pos} {x : Str} {i : Nat}
theorem so_app : SoE l te φ → SoE l (tBM X.K "list" rAppend (tVar i) (tCons te tNil)) (eApp i φ) := fun h b σ G H ρ μ d μ2 Q hl R e k => by
  obtain ⟨xs0, e0, e⟩ := bnd e
  obtain ⟨⟨y, μ3⟩, e1, e2⟩ := bnd e
  obtain ⟨xs, e3, e4⟩ := bnd e2
  split at e4
  · rename_i hz
    cases e4
    obtain ⟨a, vs0, s0, h0, _, _⟩ := R.lstO e0
    refine ⟨_, s0, .inl ⟨rfl, _, SqL.of h0⟩, ?_⟩
    refine h b σ G H ρ μ y _ _ hl R e1 fun v G2 H2 R2 s2 r2 => ?_
    obtain ⟨a2, vs, s1, h1, _, ra⟩ := R2.lstO e3
    have ea := ref_eq s0 s1
    subst ea
    refine ⟨a, vs, v, rfl, rfl, h1, by rw [ra.len]; exact hz, ?_⟩
    exact k _ G2 _ (R2.wrL e3 s0 (by rw [List.length_append]; exact hz) (ra.app ⟨r2, trivial⟩)) s2 rfl
  · cases e4
theorem so_popAt : SoE l te φ → SoE l (tBM X.K "list" rPopAt (tVar i) (tCons te tNil)) (ePopAt i φ) := fun h b σ G H ρ μ d μ2 Q hl R e k => by
  obtain ⟨xs0, e0, e⟩ := bnd e
  obtain ⟨⟨y, μ3⟩, e1, e2⟩ := bnd e
  obtain ⟨xs, e3, e4⟩ := bnd e2
  cases y with
  | int j =>
    have e4' : (if 0 ≤ j ∧ j < 1000000 then (xs[j.toNat]?).map fun y => (y, mset μ3 i (.lst (xs.eraseIdx j.toNat))) else none) = some (d, μ2) := e4
    split at e4'
    · rename_i hj
      obtain ⟨z, e5, e6⟩ := mpd e4'
      cases e6
      obtain ⟨a, vs0, s0, h0, _, _⟩ := R.lstO e0
      refine ⟨_, s0, .inl ⟨rfl, _, SqL.of h0⟩, ?_⟩
      refine h b σ G H ρ μ _ _ _ hl R e1 fun v G2 H2 R2 s2 r2 => ?_
      obtain ⟨a2, vs, s1, h1, hz, ra⟩ := R2.lstO e3
      have ea := ref_eq s0 s1
      subst ea
      obtain ⟨w, ew, rw'⟩ := ra.get e5
      have r2' : v = .int j := r2
      have hlt : j.toNat < xs.length := (List.getElem?_eq_some_iff.mp e5).1
      refine ⟨a, vs, j, j.toNat, w, rfl, by rw [r2'], h1, by omega, by omega, ?_, ew, ?_⟩
      · rw [ra.len]
        unfold seqIndex?
        have c1 : ¬ j < 0 := by omega
        have c2 : j < (xs.length : Int) := by omega
        simp [c1, c2, hj.1]
      · exact k _ G2 _ (R2.wrL e3 s0 (Nat.le_trans (List.length_eraseIdx_le _ _) hz) (ra.erase _)) s2 rw'
    · cases e4'
  | _ => cases e4
theorem so_pop : SoE l (tBM0 X.K "list" rPop (tVar i)) (ePop i) := fun b σ G H ρ μ d μ2 Q hl R e k => by
  obtain ⟨xs, e0, e1⟩ := bnd e
  obtain ⟨y, e2, e3⟩ := mpd e1
  cases e3
  obtain ⟨a, vs, s0, h0, hz, ra⟩ := R.lstO e0
  obtain ⟨w, ew, rw'⟩ := ra.get e2
  refine ⟨_, s0, .inl ⟨rfl, _, SqL.of h0⟩, a, vs, w, rfl, rfl, h0, by rw [ra.len]; exact ew, ?_⟩
  exact k _ G _ (R.wrL e0 s0 (by rw [List.length_dropLast]; omega) ra.dropLast) (.refl G) rw'
theorem de_app (i : Nat) (h : DE l X e te φ) (hN : X.N[i]? = some x := by rfl) (hv : Vis X.env.scope x := by first | exact Or.inl rfl | exact Or.inr (Or.inl rfl) | exact Or.inr (Or.inr rfl))
    (hd : (x == ("__debug__" : Str)) = false := by decide) (hcd : (x == ("__classdict__" : Str)) = false := by decide)
    (hbase : attributeBase (.Name x npos) "append" X.env (eval (.Name x npos) X.env) = eval (.Name x npos) X.env := by rfl)
    (hfew : ((backTo pos (starEach (e :: []) X.env)).all (fun x => !x.1) && (backToKw pos (keywordEach [] X.env)).all (fun x => x.1.isSome)
      && decide ((e :: ([] : List Expr)).length + ([] : List Keyword).length + (if ([] : List Keyword).isEmpty then 0 else 1) < 30)) = true := by rfl)
    (hline : (apos.endLine == pos.line) = true := by rfl) (hs : starEach (e :: []) X.env = (false, eval e X.env) :: starEach [] X.env := by rfl) (hplain : (backTo pos (starEach [] X.env)).any (·.1) = false := by rfl) :
    DE l X (.Call (.Attribute (.Name x npos) "append" apos) [e] [] pos) (tBM X.K "list" rAppend (tVar i) (tCons te tNil)) (eApp i φ) :=
  ⟨pe_bm PySem.F.plainAttrs_list PySem.F.slot_list_append PySem.F.type_list_append mt_append (pe_var hN hv hd hcd) (pa_cons h.pe pa_nil hs) hbase hfew hline hs hplain, so_app h.so⟩
theorem de_popAt (i : Nat) (h : DE l X e te φ) (hN : X.N[i]? = some x := by rfl) (hv : Vis X.env.scope x := by first | exact Or.inl rfl | exact Or.inr (Or.inl rfl) | exact Or.inr (Or.inr rfl))
    (hd : (x == ("__debug__" : Str)) = false := by decide) (hcd : (x == ("__classdict__" : Str)) = false := by decide)
    (hbase : attributeBase (.Name x npos) "pop" X.env (eval (.Name x npos) X.env) = eval (.Name x npos) X.env := by rfl)
    (hfew : ((backTo pos (starEach (e :: []) X.env)).all (fun x => !x.1) && (backToKw pos (keywordEach [] X.env)).all (fun x => x.1.isSome)
      && decide ((e :: ([] : List Expr)).length + ([] : List Keyword).length + (if ([] : List Keyword).isEmpty then 0 else 1) < 30)) = true := by rfl)
    (hline : (apos.endLine == pos.line) = true := by rfl) (hs : starEach (e :: []) X.env = (false, eval e X.env) :: starEach [] X.env := by rfl) (hplain : (backTo pos (starEach [] X.env)).any (·.1) = false := by rfl) :
    DE l X (.Call (.Attribute (.Name x npos) "pop" apos) [e] [] pos) (tBM X.K "list" rPopAt (tVar i) (tCons te tNil)) (ePopAt i φ) :=
  ⟨pe_bm PySem.F.plainAttrs_list PySem.F.slot_list_pop PySem.F.type_list_pop mt_popAt (pe_var hN hv hd hcd) (pa_cons h.pe pa_nil hs) hbase hfew hline hs hplain, so_popAt h.so⟩
theorem de_pop (i : Nat) (hN : X.N[i]? = some x := by rfl) (hv : Vis X.env.scope x := by first | exact Or.inl rfl | exact Or.inr (Or.inl rfl) | exact Or.inr (Or.inr rfl))
    (hd : (x == ("__debug__" : Str)) = false := by decide) (hcd : (x == ("__classdict__" : Str)) = false := by decide)
    (hbase : attributeBase (.Name x npos) "pop" X.env (eval (.Name x npos) X.env) = eval (.Name x npos) X.env := by rfl) (hline : (apos.endLine == pos.line) = true := by rfl) :
    DE l X (.Call (.Attribute (.Name x npos) "pop" apos) [] [] pos) (tBM0 X.K "list" rPop (tVar i)) (ePop i) :=
  ⟨pe_bm0 PySem.F.plainAttrs_list PySem.F.slot_list_pop PySem.F.type_list_pop mt_pop (pe_var hN hv hd hcd) hbase hline, so_pop⟩
end
end VS
end
section
/-! VS5: statements by values -/
namespace VS
open PySem PySem.Spec PyProof.Rows L2
inductive Out where
  | nx (ρ : Rho) (μ : Mem) | rt (d : D) (μ : Mem) | rl (xs : List D) (μ : Mem) | bk (ρ : Rho) (μ : Mem) | ct (ρ : Rho) (μ : Mem)
abbrev SM := Rho → Mem → Option Out
def After (b : Bs) (D : Ends) : Out → Prop
  | .nx ρ μ => ∀ σ G H, Rel b σ G H ρ μ → D.nx σ H
  | .rt d μ => ∀ v σ G H ρ, Rel b σ G H ρ μ → Rp G v d → D.rt v H
  | .rl xs μ => ∀ a vs σ G H ρ, Rel b σ G H ρ μ → H a = some (.lst vs) → xs.length ≤ sizeLine → RpA G vs xs → G a = none → b.B a = none → (∀ j c, mget μ j = some c → σ[j]? ≠ some (some (.ref a))) → D.rt (.ref a) H
  | .bk ρ μ => ∀ σ G H, Rel b σ G H ρ μ → D.bk σ H
  | .ct ρ μ => ∀ σ G H, Rel b σ G H ρ μ → D.ct σ H
def SoS (l : Bool) (t : TS) (φ : SM) : Prop := ∀ (b : Bs) (σ : L2.St) (G H : Hp) (ρ : Rho) (μ : Mem) (o : Out) (D : Ends), (l = false → b.lk = []) → Rel b σ G H ρ μ → φ ρ μ = some o → After b D o → t D σ H
structure DS (l : Bool) (X : Cx) (st : Stmt) (t : TS) (φ : SM) : Prop where
  ps : PS X st t
  so : SoS l t φ
structure DSs (l : Bool) (X : Cx) (st : List Stmt) (t : TS) (φ : SM) : Prop where
  pss : PSs X st t
  so : SoS l t φ
/-! ### blocks -/
def sNil : SM := fun ρ μ => some (.nx ρ μ)
def sSeq (φ ψ : SM) : SM := fun ρ μ => (φ ρ μ).bind fun o => match o with
  | .nx ρ2 μ2 => ψ ρ2 μ2
  | o => some o
def sExpr (φ : EM) : SM := fun ρ μ => (φ ρ μ).map fun p => .nx ρ p.2
def sRet (φ : EM) : SM := fun ρ μ => (φ ρ μ).map fun p => .rt p.1 p.2
/-- a new list goes out, nobody else's -/
def sRetL (φ : AM) : SM := fun ρ μ => (φ ρ μ).map fun p => .rl p.1 p.2
def sRetN : SM := fun _ μ => some (.rt .non μ)
def sIf (τ : TM) (φ ψ : SM) : SM := fun ρ μ => (τ ρ μ).bind fun p => match p.1 with
  | true => φ ρ p.2
  | false => ψ ρ p.2
def sSet (i : Nat) (φ : EM) : SM := fun ρ μ => (φ ρ μ).map fun p => .nx (put ρ i (some p.1)) (mdel p.2 i)
def sSetL (i : Nat) (φ : AM) : SM := fun ρ μ => if i = 0 ∨ ρ.length ≤ i then none else (φ ρ μ).map fun p => .nx (put ρ i none) (mset p.2 i (.lst p.1))
def sSetC (i : Nat) (φ : Rho → Mem → Option (KD × Mem)) : SM := fun ρ μ => if i = 0 ∨ ρ.length ≤ i then none else (φ ρ μ).map fun p => .nx (put ρ i none) (mset p.2 i (.dct p.1))
def sStuck : SM := fun _ _ => none
def sBreak : SM := fun ρ μ => some (.bk ρ μ)
def sCont : SM := fun ρ μ => some (.ct ρ μ)
section
variable {l : Bool} {X : Cx} {st : Stmt} {rest sts : List Stmt} {t u : TS} {φ ψ : SM} {e : Expr} {te : TE} {ε : EM} {pos : Pos}
theorem dss_nil : DSs l X [] tNext sNil := ⟨pss_nil, fun b σ G H ρ μ o D hl R e a => by
  cases e
  exact a σ G H R⟩
theorem dss_cons (h1 : DS l X st t φ) (h2 : DSs l X rest u ψ) : DSs l X (st :: rest) (tSeq t u) (sSeq φ ψ) := ⟨pss_cons h1.ps h2.pss, fun b σ G H ρ μ o D hl R e a => by
  obtain ⟨o1, e1, e2⟩ := bnd e
  refine h1.so b σ G H ρ μ o1 _ hl R e1 ?_
  cases o1 with
  | nx ρ2 μ2 => exact fun σ2 G2 H2 R2 => h2.so b σ2 G2 H2 ρ2 μ2 o D hl R2 e2 a
  | rt d μ2 => cases e2; exact a
  | rl d μ2 => cases e2; exact a
  | bk ρ2 μ2 => cases e2; exact a
  | ct ρ2 μ2 => cases e2; exact a⟩
theorem dss_one (h1 : DS l X st t φ) : DSs l X [st] t φ := ⟨pss_one h1.ps, h1.so⟩
theorem ds_expr (h : DE l X e te ε) (hs : swapsWith e none pos.line X.env = pure false := by rfl) : DS l X (.Expr e pos) (tDrop te) (sExpr ε) := ⟨ps_expr h.pe hs, fun b σ G H ρ μ o D hl R e a => by
  obtain ⟨⟨x, μ2⟩, e1, e2⟩ := mpd e
  cases e2
  exact h.so b σ G H ρ μ x μ2 _ hl R e1 fun v G2 H2 R2 s2 r2 => a σ G2 H2 R2⟩
theorem ds_ret (h : DE l X e te ε) : DS l X (.Return (some e) pos) (tRet te) (sRet ε) := ⟨ps_ret h.pe, fun b σ G H ρ μ o D hl R e a => by
  obtain ⟨⟨x, μ2⟩, e1, e2⟩ := mpd e
  cases e2
  exact h.so b σ G H ρ μ x μ2 _ hl R e1 fun v G2 H2 R2 s2 r2 => a v σ G2 H2 ρ R2 r2⟩
theorem ds_retL {α : AM} (h : DL l X e te α) : DS l X (.Return (some e) pos) (tRet te) (sRetL α) := ⟨ps_ret h.pe, fun b σ G H ρ μ o D hl R e a => by
  obtain ⟨⟨x, μ2⟩, e1, e2⟩ := mpd e
  cases e2
  exact h.so b σ G H ρ μ x μ2 _ hl R e1 fun p vs G2 H2 R2 s2 h2 hz r2 g2 b2 n2 => a p vs σ G2 H2 ρ R2 h2 hz r2 g2 b2 n2⟩
theorem ds_retN : DS l X (.Return none pos) tRetN sRetN := ⟨ps_retN, fun b σ G H ρ μ o D hl R e a => by
  cases e
  exact a .non σ G H ρ R rfl⟩
theorem ds_if {c : Expr} {p q : List Stmt} {tc : TT} {τ : TM} (hc : DT l X c tc τ) (h1 : DSs l X p t φ) (h2 : DSs l X q u ψ) : DS l X (.If c p q pos) (tIfS tc t u) (sIf τ φ ψ) := ⟨ps_if hc.pt h1.pss h2.pss, fun b σ G H ρ μ o D hl R e a => by
  obtain ⟨⟨c1, μ2⟩, e1, e2⟩ := bnd e
  refine hc.so b σ G H ρ μ c1 μ2 _ hl R e1 fun G2 H2 R2 s2 => ?_
  cases c1 with
  | true => exact iteT (h1.so b σ G2 H2 ρ μ2 o D hl R2 e2 a)
  | false => exact iteF (h2.so b σ G2 H2 ρ μ2 o D hl R2 e2 a)⟩
theorem ds_stuck : DS l X st tNever sStuck := ⟨ps_never, fun b σ G H ρ μ o D hl R e a => by cases e⟩
theorem dss_stuck : DSs l X sts tNever sStuck := ⟨pss_never, fun b σ G H ρ μ o D hl R e a => by cases e⟩
theorem ds_break : DS l X (.Break pos) tBreak sBreak := ⟨ps_break, fun b σ G H ρ μ o D hl R e a => by
  cases e
  exact a σ G H R⟩
theorem ds_cont : DS l X (.Continue pos) tCont sCont := ⟨ps_continue, fun b σ G H ρ μ o D hl R e a => by
  cases e
  exact a σ G H R⟩
theorem ds_pass : DS l X (.Pass pos) tNext sNil := ⟨ps_pass, fun b σ G H ρ μ o D hl R e a => by
  cases e
  exact a σ G H R⟩
end
/-! ### x = e -/
section
variable {l : Bool} {X : Cx} {e : Expr} {te : TE} {ε : EM} {α : AM} {κ : Rho → Mem → Option (KD × Mem)} {pos pos' : Pos} {i : Nat} {x : Str}
theorem so_set (h : SoE l te ε) : SoS l (tAsg te (gName i)) (sSet i ε) := fun b σ G H ρ μ o D hl R e a => by
  obtain ⟨⟨d, μ2⟩, e1, e2⟩ := mpd e
  cases e2
  exact h b σ G H ρ μ d μ2 _ hl R e1 fun v G2 H2 R2 s2 r2 => a _ G2 H2 (R2.setD r2)
theorem so_setL (h : SoL l te α) : SoS l (tAsg te (gName i)) (sSetL i α) := fun b σ G H ρ μ o D hl R e a => by
  unfold sSetL at e
  split at e
  · cases e
  · rename_i hi
    obtain ⟨⟨d, μ2⟩, e1, e2⟩ := mpd e
    cases e2
    exact h b σ G H ρ μ d μ2 _ hl R e1 fun p vs G2 H2 R2 s2 hp hz r2 gp bp hn => a _ G2 H2 (R2.setO (by omega) (by omega) ⟨vs, hp, hz, r2⟩ gp bp hn)
theorem so_setC (h : SoC l te κ) : SoS l (tAsg te (gName i)) (sSetC i κ) := fun b σ G H ρ μ o D hl R e a => by
  unfold sSetC at e
  split at e
  · cases e
  · rename_i hi
    obtain ⟨⟨d, μ2⟩, e1, e2⟩ := mpd e
    cases e2
    exact h b σ G H ρ μ d μ2 _ hl R e1 fun p vs G2 H2 R2 s2 hp hz r2 gp bp hn => a _ G2 H2 (R2.setO (by omega) (by omega) ⟨vs, hp, hz, r2⟩ gp bp hn)
theorem ds_set (i : Nat) (hN : X.N.Nodup) (h : DE l X e te ε) (hi : X.N[i]? = some x := by rfl) (hx : Loc X.env.scope x := by first | exact Or.inl rfl | exact Or.inr rfl) (hs : swapsWith e (some (.Name x pos')) pos.line X.env = pure false := by rfl)
    (hf : X.fn x = true ∨ X.env.scope.names.lookup x = some .local := by first | exact .inl rfl | exact .inr rfl) : DS l X (.Assign [.Name x pos'] e pos) (tAsg te (gName i)) (sSet i ε) := ⟨ps_set hN hi hx h.pe hs hf, so_set h.so⟩
theorem ds_setL (i : Nat) (hN : X.N.Nodup) (h : DL l X e te α) (hi : X.N[i]? = some x := by rfl) (hx : Loc X.env.scope x := by first | exact Or.inl rfl | exact Or.inr rfl) (hs : swapsWith e (some (.Name x pos')) pos.line X.env = pure false := by rfl)
    (hf : X.fn x = true ∨ X.env.scope.names.lookup x = some .local := by first | exact .inl rfl | exact .inr rfl) : DS l X (.Assign [.Name x pos'] e pos) (tAsg te (gName i)) (sSetL i α) := ⟨ps_set hN hi hx h.pe hs hf, so_setL h.so⟩
theorem ds_setC (i : Nat) (hN : X.N.Nodup) (h : DC l X e te κ) (hi : X.N[i]? = some x := by rfl) (hx : Loc X.env.scope x := by first | exact Or.inl rfl | exact Or.inr rfl) (hs : swapsWith e (some (.Name x pos')) pos.line X.env = pure false := by rfl)
    (hf : X.fn x = true ∨ X.env.scope.names.lookup x = some .local := by first | exact .inl rfl | exact .inr rfl) : DS l X (.Assign [.Name x pos'] e pos) (tAsg te (gName i)) (sSetC i κ) := ⟨ps_set hN hi hx h.pe hs hf, so_setC h.so⟩
end
/-! ### targets -/
abbrev GM := D → Rho → Mem → Option (Rho × Mem)
abbrev GsM := List D → Rho → Mem → Option (Rho × Mem)
def SoG (is : List Nat) (g : TG) (τ : GM) : Prop := ∀ (b : Bs) (σ : L2.St) (G H : Hp) (ρ : Rho) (μ : Mem) (v : V) (d : D) (ρ2 : Rho) (μ2 : Mem) (Q : L2.St → Hp → Prop), Rel b σ G H ρ μ → Rp G v d → τ d ρ μ = some (ρ2, μ2) →
  (∀ σ2, Rel b σ2 G H ρ2 μ2 → (∀ j, j ∉ is → σ2[j]? = σ[j]?) → σ2.length = σ.length → Q σ2 H) → g v σ H Q
def SoGs (is : List Nat) (g : TGs) (τ : GsM) : Prop := ∀ (b : Bs) (σ : L2.St) (G H : Hp) (ρ : Rho) (μ : Mem) (vs : List V) (ds : List D) (ρ2 : Rho) (μ2 : Mem) (Q : L2.St → Hp → Prop), Rel b σ G H ρ μ → RpA G vs ds → τ ds ρ μ = some (ρ2, μ2) →
  (∀ σ2, Rel b σ2 G H ρ2 μ2 → (∀ j, j ∉ is → σ2[j]? = σ[j]?) → σ2.length = σ.length → Q σ2 H) → g vs σ H Q
structure DG (X : Cx) (tg : Expr) (is : List Nat) (g : TG) (τ : GM) : Prop where
  pg : PG X tg g
  so : SoG is g τ
structure DGs (X : Cx) (tg : List Expr) (is : List Nat) (g : TGs) (τ : GsM) : Prop where
  pgs : PGs X tg g
  so : SoGs is g τ
def mName (i : Nat) : GM := fun d ρ μ => some (put ρ i (some d), mdel μ i)
def mNil : GsM := fun ds ρ μ => match ds with
  | [] => some (ρ, μ)
  | _ => none
def mCons (τ : GM) (υ : GsM) : GsM := fun ds ρ μ => match ds with
  | d :: r => (τ d ρ μ).bind fun p => υ r p.1 p.2
  | [] => none
def mTup (n : Nat) (τ : GsM) : GM := fun d ρ μ => match d with
  | .tup xs => if xs.length = n then τ xs ρ μ else none
  | _ => none
section
variable {X : Cx} {e : Expr} {es : List Expr} {is js : List Nat} {g : TG} {gs : TGs} {τ : GM} {υ : GsM} {pos : Pos} {i : Nat} {x : Str}
theorem dg_name (i : Nat) (hN : X.N.Nodup) (hi : X.N[i]? = some x := by rfl) (hx : Loc X.env.scope x := by first | exact Or.inl rfl | exact Or.inr rfl) (hf : X.fn x = true ∨ X.env.scope.names.lookup x = some .local := by first | exact .inl rfl | exact .inr rfl) :
    DG X (.Name x pos) [i] (gName i) (mName i) := ⟨pg_name hN hi hx hf, fun b σ G H ρ μ v d ρ2 μ2 Q R r e k => by
  cases e
  exact k _ (R.setD r) (fun j hj => List.getElem?_set_ne (fun z => hj (by rw [← z]; exact List.mem_cons_self))) (List.length_set ..)⟩
theorem dgs_nil : DGs X [] [] gNil mNil := ⟨pgs_nil, fun b σ G H ρ μ vs ds ρ2 μ2 Q R r e k => by
  cases ds with
  | nil =>
    cases e
    cases vs with
    | nil => exact ⟨rfl, k σ R (fun _ _ => rfl) rfl⟩
    | cons _ _ => exact r.elim
  | cons _ _ => cases e⟩
theorem dgs_cons (h1 : DG X e is g τ) (h2 : DGs X es js gs υ) (hs : (assignEach (e :: es) X.env).map (·.2) = assign e X.env :: (assignEach es X.env).map (·.2) := by rfl) : DGs X (e :: es) (is ++ js) (gCons g gs) (mCons τ υ) := ⟨pgs_cons h1.pg h2.pgs hs, fun b σ G H ρ μ vs ds ρ2 μ2 Q R r e k => by
  cases ds with
  | nil => cases e
  | cons d ds =>
    obtain ⟨⟨ρ3, μ3⟩, e1, e2⟩ := bnd (show ((τ d ρ μ).bind fun p => υ ds p.1 p.2) = some (ρ2, μ2) from e)
    cases vs with
    | nil => exact r.elim
    | cons v vs =>
      refine ⟨v, vs, rfl, h1.so b σ G H ρ μ v d ρ3 μ3 _ R r.1 e1 fun σ2 R2 o2 l2 => ?_⟩
      refine h2.so b σ2 G H ρ3 μ3 vs ds ρ2 μ2 Q R2 r.2 e2 fun σ3 R3 o3 l3 => ?_
      exact k σ3 R3 (fun j hj => (o3 j fun z => hj (List.mem_append_right _ z)).trans (o2 j fun z => hj (List.mem_append_left _ z))) (l3.trans l2)⟩
theorem dg_tup {k n : Nat} (hc : X.calm = true) (h : DGs X es is gs υ) (hn : (assignEach es X.env).length = n := by rfl) (hst : (assignEach es X.env).findIdx? (·.1) = none := by rfl) : DG X (.Tuple es k pos) is (gTup X.K n gs) (mTup n υ) := ⟨pg_tup hc h.pgs hn hst, fun b σ G H ρ μ v d ρ2 μ2 Q R r e k => by
  cases d with
  | tup xs =>
    have e' : (if xs.length = n then υ xs ρ μ else none) = some (ρ2, μ2) := e
    split at e'
    · rename_i hl
      obtain ⟨a, vs, ev, ga, _, ra⟩ := r
      exact ⟨a, vs, ev, SqT.of (R.gh.tup ga), by rw [ra.len]; exact hl, h.so b σ G H ρ μ vs xs ρ2 μ2 Q R ra e' k⟩
    · cases e'
  | _ => cases e⟩
end
def sAsg (φ : EM) (τ : GM) : SM := fun ρ μ => (φ ρ μ).bind fun p => (τ p.1 ρ p.2).map fun q => .nx q.1 q.2
section
variable {l : Bool} {X : Cx} {e tg : Expr} {te : TE} {ε : EM} {g : TG} {τ : GM} {is : List Nat} {pos : Pos}
theorem ds_asg (h : DE l X e te ε) (hg : DG X tg is g τ) (hs : swapsWithSole [tg] e pos.line X.env = pure false := by rfl) (hw : swappedStores [tg] e X.env = pure none := by rfl) (h1 : (assignEach [tg] X.env).map (·.2) = [assign tg X.env] := by rfl) :
    DS l X (.Assign [tg] e pos) (tAsg te g) (sAsg ε τ) := ⟨ps_asg h.pe hg.pg hs hw h1, fun b σ G H ρ μ o D hl R e a => by
  obtain ⟨⟨d, μ2⟩, e1, e2⟩ := bnd e
  obtain ⟨⟨ρ3, μ3⟩, e3, e4⟩ := mpd e2
  cases e4
  refine h.so b σ G H ρ μ d μ2 _ hl R e1 fun v G2 H2 R2 s2 r2 => ?_
  exact hg.so b σ G2 H2 ρ μ2 v d ρ3 μ3 _ R2 r2 e3 fun σ3 R3 _ _ => a σ3 G2 H2 R3⟩
end
/-! ### a, b = e1, e2 (two locals) -/
inductive Cmp where
  | d (x : D) | c (x : Cell)
def CmpOk (b : Bs) (σ : L2.St) (μ : Mem) (G H : Hp) (v : V) : Cmp → Prop
  | .d x => Rp G v x
  | .c x => ∃ a, v = .ref a ∧ CellAt G H a x ∧ G a = none ∧ b.B a = none ∧ ∀ j c, mget μ j = some c → σ[j]? ≠ some (some (.ref a))
abbrev MM := Rho → Mem → Option (Cmp × Mem)
def SoM (l : Bool) (t : TE) (φ : MM) : Prop := ∀ (b : Bs) (σ : L2.St) (G H : Hp) (ρ : Rho) (μ : Mem) (c : Cmp) (μ2 : Mem) (Q : VK), (l = false → b.lk = []) → Rel b σ G H ρ μ → φ ρ μ = some (c, μ2) →
  (∀ v G2 H2, Rel b σ G2 H2 ρ μ2 → Same G G2 → CmpOk b σ μ2 G2 H2 v c → Q v H2) → t σ H Q
structure DM (l : Bool) (X : Cx) (e : Expr) (t : TE) (φ : MM) : Prop where
  pe : PE X e t
  so : SoM l t φ
def cE (φ : EM) : MM := fun ρ μ => (φ ρ μ).map fun p => (.d p.1, p.2)
def cL (φ : AM) : MM := fun ρ μ => (φ ρ μ).map fun p => (.c (.lst p.1), p.2)
def cC (φ : Rho → Mem → Option (KD × Mem)) : MM := fun ρ μ => (φ ρ μ).map fun p => (.c (.dct p.1), p.2)
section
variable {l : Bool} {X : Cx} {e : Expr} {te : TE} {ε : EM} {α : AM} {κ : Rho → Mem → Option (KD × Mem)}
theorem DE.dm (h : DE l X e te ε) : DM l X e te (cE ε) := ⟨h.pe, fun b σ G H ρ μ c μ2 Q hl R e k => by
  obtain ⟨⟨d, μ3⟩, e1, e2⟩ := mpd e
  cases e2
  exact h.so b σ G H ρ μ d _ _ hl R e1 fun v G2 H2 R2 s2 r2 => k v G2 H2 R2 s2 r2⟩
theorem DL.dm (h : DL l X e te α) : DM l X e te (cL α) := ⟨h.pe, fun b σ G H ρ μ c μ2 Q hl R e k => by
  obtain ⟨⟨d, μ3⟩, e1, e2⟩ := mpd e
  cases e2
  exact h.so b σ G H ρ μ d _ _ hl R e1 fun p vs G2 H2 R2 s2 hp hz r2 gp bp hn => k _ G2 H2 R2 s2 ⟨p, rfl, ⟨vs, hp, hz, r2⟩, gp, bp, hn⟩⟩
theorem DC.dm (h : DC l X e te κ) : DM l X e te (cC κ) := ⟨h.pe, fun b σ G H ρ μ c μ2 Q hl R e k => by
  obtain ⟨⟨d, μ3⟩, e1, e2⟩ := mpd e
  cases e2
  exact h.so b σ G H ρ μ d _ _ hl R e1 fun p vs G2 H2 R2 s2 hp hz r2 gp bp hn => k _ G2 H2 R2 s2 ⟨p, rfl, ⟨vs, hp, hz, r2⟩, gp, bp, hn⟩⟩
end
def setC (i : Nat) (c : Cmp) (ρ : Rho) (μ : Mem) : Option (Rho × Mem) := match c with
  | .d x => some (put ρ i (some x), mdel μ i)
  | .c x => if i = 0 ∨ ρ.length ≤ i then none else some (put ρ i none, mset μ i x)
theorem Rel.setCmp {b : Bs} {σ : L2.St} {G H : Hp} {ρ ρ2 : Rho} {μ μ2 : Mem} {i : Nat} {v : V} {c : Cmp} (R : Rel b σ G H ρ μ) (h : CmpOk b σ μ G H v c) (e : setC i c ρ μ = some (ρ2, μ2)) : Rel b (σ.set i (some v)) G H ρ2 μ2 := by
  cases c with
  | d x =>
    cases e
    exact R.setD h
  | c x =>
    have e' : (if i = 0 ∨ ρ.length ≤ i then none else some (put ρ i none, mset μ i x)) = some (ρ2, μ2) := e
    split at e'
    · cases e'
    · rename_i hi
      cases e'
      obtain ⟨a, ev, hc, ga, ba, hn⟩ := h
      subst ev
      exact R.setO (by omega) (by omega) hc ga ba hn
def sPar (i j : Nat) (φ ψ : MM) : SM := fun ρ μ => (φ ρ μ).bind fun p => (ψ ρ p.2).bind fun q => (setC i p.1 ρ q.2).bind fun r => (setC j q.1 r.1 r.2).map fun s => .nx s.1 s.2
section
variable {l : Bool} {X : Cx} {a c : Expr} {ta tc : TE} {φ ψ : MM} {i j : Nat}
theorem so_par (hij : i ≠ j) (h1 : SoM l ta φ) (h2 : SoM l tc ψ) : SoS l (tPar i j (tCons ta (tCons tc tNil))) (sPar i j φ ψ) := fun b σ G H ρ μ o D hl R e k => by
  obtain ⟨⟨c1, μ3⟩, e1, e⟩ := bnd e
  obtain ⟨⟨c2, μ4⟩, e2, e⟩ := bnd e
  obtain ⟨⟨ρ5, μ5⟩, e3, e⟩ := bnd e
  obtain ⟨⟨ρ6, μ6⟩, e4, e5⟩ := mpd e
  cases e5
  refine h1 b σ G H ρ μ c1 μ3 _ hl R e1 fun v G2 H2 R2 s2 k2 => ?_
  -- the first one's object is protected while the second is reckoned
  have key : ∀ w G3 H3, Rel b σ G3 H3 ρ μ4 → CmpOk b σ μ4 G3 H3 v c1 → CmpOk b σ μ4 G3 H3 w c2 → (∀ p q, v = .ref p → w = .ref q → (∃ x, c1 = .c x) → (∃ x, c2 = .c x) → p ≠ q) → ∃ v' w', [v, w] = [v', w'] ∧ D.nx ((σ.set i (some v')).set j (some w')) H3 := fun w G3 H3 R3 m1 m2 hne => by
    refine ⟨v, w, rfl, ?_⟩
    have R4 := R3.setCmp m1 e3
    refine k _ G3 H3 (R4.setCmp (v := w) (c := c2) ?_ e4)
    cases c2 with
    | d x => exact m2
    | c x =>
      obtain ⟨q, eq, hc, gq, bq, hq⟩ := m2
      refine ⟨q, eq, hc, gq, bq, fun y c' hy => ?_⟩
      by_cases hyi : y = i
      · subst hyi
        cases c1 with
        | d z =>
          cases e3
          rw [mget_del_same] at hy
          cases hy
        | c z =>
          intro hs
          have hlt : y < σ.length := by
            have := (List.getElem?_eq_some_iff.mp hs).1
            rw [List.length_set] at this
            exact this
          rw [List.getElem?_set_self hlt] at hs
          cases hs
          exact hne q q rfl eq ⟨_, rfl⟩ ⟨_, rfl⟩ rfl
      · rw [List.getElem?_set_ne (Ne.symm hyi)]
        refine hq y c' ?_
        cases c1 with
        | d z =>
          cases e3
          rw [mget_del_ne hyi] at hy
          exact hy
        | c z =>
          have e3' : (if i = 0 ∨ ρ.length ≤ i then none else some (put ρ i none, mset μ4 i z)) = some (ρ5, μ5) := e3
          split at e3'
          · cases e3'
          · cases e3'
            rw [mget_set_ne hyi] at hy
            exact hy
  cases c1 with
  | d x =>
    refine h2 b σ G2 H2 ρ μ3 c2 μ4 _ hl R2 e2 fun w G3 H3 R3 s3 m2 => ?_
    exact key w G3 H3 R3 (Rp.up s3 _ _ k2) m2 fun p q _ _ ⟨_, z⟩ _ => by cases z
  | c z =>
    obtain ⟨a1, ev, hc, ga, ba, hn⟩ := k2
    obtain ⟨ob, ho, _⟩ := hc.rp
    refine h2 { b with B := upd b.B a1 ob, G0 := G2 } σ G2 H2 ρ μ3 c2 μ4 _ hl (R2.guard ho ga hn) e2 fun w G3 H3 R3 s3 m2 => ?_
    obtain ⟨R4, h4, g4, n4⟩ := Rel.unguard (ho ▸ hc.nt) R3 ba R2.g0 R2.sep
    refine key w G3 H3 R4 ⟨a1, ev, hc.up s3 (h4.trans ho.symm), g4 ga, ba, n4⟩ ?_ fun p q ep eq _ ⟨x, ex⟩ => ?_
    · cases c2 with
      | d x => exact m2
      | c x =>
        obtain ⟨q, eq, hc2, gq, bq, hq⟩ := m2
        have bq' : upd b.B a1 ob q = none := bq
        refine ⟨q, eq, hc2, gq, ?_, hq⟩
        by_cases hqa : q = a1
        · rw [hqa]; exact ba
        · rw [upd_ne hqa] at bq'; exact bq'
    · subst ex
      obtain ⟨q', eq', _, _, bq, _⟩ := m2
      have bq' : upd b.B a1 ob q' = none := bq
      rw [ev] at ep
      cases ep
      rw [eq'] at eq
      cases eq
      intro z
      rw [← z, upd_same] at bq'
      cases bq'
theorem ds_par (i j : Nat) {x y : Str} {px py pt : Pos} {kt k2 pt2} {pos : Pos} {X : Cx} {a c : Expr} (hc : X.calm = true) (hN : X.N.Nodup) (h1 : DM l X a ta φ) (h2 : DM l X c tc ψ) (hij : i ≠ j := by decide) (hi : X.N[i]? = some x := by rfl) (hj : X.N[j]? = some y := by rfl)
    (hx : X.env.scope.names.lookup x = some .local := by rfl) (hy : X.env.scope.names.lookup y = some .local := by rfl)
    (hw : swappedStores [.Tuple [.Name x px, .Name y py] kt pt] (.Tuple [a, c] k2 pt2) X.env = pure (some [x, y]) := by rfl)
    (hs : swapsWithSole [.Tuple [.Name x px, .Name y py] kt pt] (.Tuple [a, c] k2 pt2) pos.line X.env = pure false := by rfl)
    (hs1 : starEach [a, c] X.env = (false, eval a X.env) :: starEach [c] X.env := by rfl) (hs2 : starEach [c] X.env = (false, eval c X.env) :: starEach [] X.env := by rfl) :
    DS l X (.Assign [.Tuple [.Name x px, .Name y py] kt pt] (.Tuple [a, c] k2 pt2) pos) (tPar i j (tCons ta (tCons tc tNil))) (sPar i j φ ψ) :=
  ⟨ps_par hc hN hi hj hij hx hy (pa_cons h1.pe (pa_cons h2.pe pa_nil hs2) hs1) hw hs, so_par hij h1.so h2.so⟩
end
/-! ### x += e; x[i] = e; x[i] += e -/
def sAug (i : Nat) (f : D → D → Option D) (φ : EM) : SM := fun ρ μ => (gt ρ i).bind fun d => (φ ρ μ).bind fun p => (f d p.1).map fun z => .nx (put ρ i (some z)) (mdel p.2 i)
/-- an owned list grows by a list -/
def sExt (i : Nat) (φ : EM) : SM := fun ρ μ => (lstAt μ i).bind fun _ => (φ ρ μ).bind fun p => (lstAt p.2 i).bind fun xs => match p.1 with
  | .lst ys => if xs.length + ys.length ≤ sizeLine then some (.nx ρ (mset p.2 i (.lst (xs ++ ys)))) else none
  | _ => none
/-- x[j] = e, x an owned list; e is reckoned first -/
def sPutL (i : Nat) (φ ψ : EM) : SM := fun ρ μ => (φ ρ μ).bind fun p => (lstAt p.2 i).bind fun _ => (ψ ρ p.2).bind fun q => (lstAt q.2 i).bind fun xs => match q.1 with
  | .int j => (ixN xs.length j).map fun k => .nx ρ (mset q.2 i (.lst (xs.set k p.1)))
  | _ => none
/-- x[k] = e, x an owned dict -/
def sPutD (i : Nat) (φ ψ : EM) : SM := fun ρ μ => (φ ρ μ).bind fun p => (dctAt p.2 i).bind fun _ => (ψ ρ p.2).bind fun q => (dctAt q.2 i).bind fun xs => match q.1 with
  | .tup ks => (keysOf ks).bind fun k => if xs.length < 1000000 then some (.nx ρ (mset q.2 i (.dct (putD xs k p.1)))) else none
  | _ => none
section
variable {l : Bool} {X : Cx} {e j : Expr} {te tj : TE} {ε ι : EM} {pos pos' tpos : Pos} {i : Nat} {x : Str} {f : D → D → Option D}
theorem so_aug {ti : TIp} (hd : OpD ti f) (h : SoE l te ε) : SoS l (tAug i te ti) (sAug i f ε) := fun b σ G H ρ μ o D hl R e a => by
  obtain ⟨d, e1, e2⟩ := bnd e
  obtain ⟨⟨y, μ2⟩, e3, e4⟩ := bnd e2
  obtain ⟨z, e5, e6⟩ := mpd e4
  cases e6
  obtain ⟨v, s0, r0⟩ := R.dat i d e1
  refine ⟨v, s0, h b σ G H ρ μ y μ2 _ hl R e3 fun w G2 H2 R2 s2 r2 => ?_⟩
  exact hd v w d y z G2 H2 _ R2.gh (Rp.up s2 _ _ r0) r2 e5 fun u G3 H3 x3 r3 => a _ G3 H3 ((R2.ext x3).setD r3)
theorem opd_ipAdd : OpD (ipI fun i j => i + j) (fun d e => match d, e with | .int i, .int j => some (.int (i + j)) | _, _ => none) := fun x y d e z G H Q g rx ry h k => by
  cases d with
  | int i =>
    cases e with
    | int j =>
      cases h
      exact ⟨i, j, rx, ry, k _ G H (.refl g) rfl⟩
    | _ => cases h
  | _ => cases e <;> cases h
theorem opd_ipSub : OpD (ipI fun i j => i - j) subF := fun x y d e z G H Q g rx ry h k => by
  cases d with
  | int i =>
    cases e with
    | int j =>
      cases h
      exact ⟨i, j, rx, ry, k _ G H (.refl g) rfl⟩
    | _ => cases h
  | _ => cases e <;> cases h
theorem ds_aug (i : Nat) {op : Operator} {ti : TIp} (hN : X.N.Nodup) (ho : PIp X op ti) (hd : OpD ti f) (h : DE l X e te ε) (hi : X.N[i]? = some x := by rfl) (hx : Loc X.env.scope x := by first | exact Or.inl rfl | exact Or.inr rfl)
    (hf : X.fn x = true ∨ X.env.scope.names.lookup x = some .local := by first | exact .inl rfl | exact .inr rfl) : DS l X (.AugAssign (.Name x pos') op e pos) (tAug i te ti) (sAug i f ε) := ⟨ps_aug hN hi hx h.pe ho hf, so_aug hd h.so⟩
theorem so_ext (h : SoE l te ε) : SoS l (tAug i te rExt2) (sExt i ε) := fun b σ G H ρ μ o D hl R e a => by
  obtain ⟨xs0, e0, e⟩ := bnd e
  obtain ⟨⟨y, μ2⟩, e1, e2⟩ := bnd e
  obtain ⟨xs, e3, e4⟩ := bnd e2
  cases y with
  | lst ys =>
    have e4' : (if xs.length + ys.length ≤ sizeLine then some (Out.nx ρ (mset μ2 i (.lst (xs ++ ys)))) else none) = some o := e4
    split at e4'
    · rename_i hz
      cases e4'
      obtain ⟨p, vs0, s0, h0, _, _⟩ := R.lstO e0
      refine ⟨_, s0, h b σ G H ρ μ _ _ _ hl R e1 fun w G2 H2 R2 s2 r2 => ?_⟩
      obtain ⟨p2, vs, s1, h1, _, ra⟩ := R2.lstO e3
      have ep := ref_eq s0 s1
      subst ep
      obtain ⟨q, ws, ew, gq, _, rq⟩ := r2
      refine ⟨p, q, vs, ws, rfl, ew, h1, R2.gh.lst gq, by rw [ra.len, rq.len]; exact hz, ?_⟩
      have R3 := R2.wrL e3 s0 (by rw [List.length_append]; exact hz) (ra.app rq)
      have es : σ.set i (some (V.ref p)) = σ := by
        refine List.ext_getElem? fun n => ?_
        by_cases hn : n = i
        · subst hn
          rw [List.getElem?_set_self (List.getElem?_eq_some_iff.mp s0).1, s0]
        · rw [List.getElem?_set_ne (Ne.symm hn)]
      show D.nx (σ.set i (some (V.ref p))) _
      rw [es]
      exact a σ G2 _ R3
    · cases e4'
  | _ => cases e4
theorem ds_ext (i : Nat) (hN : X.N.Nodup) (h : DE l X e te ε) (hi : X.N[i]? = some x := by rfl) (hx : Loc X.env.scope x := by first | exact Or.inl rfl | exact Or.inr rfl)
    (hf : X.fn x = true ∨ X.env.scope.names.lookup x = some .local := by first | exact .inl rfl | exact .inr rfl) : DS l X (.AugAssign (.Name x pos') .Add e pos) (tAug i te rExt2) (sExt i ε) := ⟨ps_aug hN hi hx h.pe iop_ext hf, so_ext h.so⟩
theorem so_putL (h : SoE l te ε) (hj : SoE l tj ι) : SoS l (tAsg te (gSub (tVar i) tj rSetL)) (sPutL i ε ι) := fun b σ G H ρ μ o D hl R e a => by
  obtain ⟨⟨y, μ2⟩, e1, e⟩ := bnd e
  obtain ⟨xs0, e0, e⟩ := bnd e
  obtain ⟨⟨w, μ3⟩, e2, e⟩ := bnd e
  obtain ⟨xs, e3, e4⟩ := bnd e
  cases w with
  | int n =>
    obtain ⟨k, e5, e6⟩ := mpd (show (ixN xs.length n).map (fun k => Out.nx ρ (mset μ3 i (.lst (xs.set k y)))) = some o from e4)
    cases e6
    refine h b σ G H ρ μ y μ2 _ hl R e1 fun v G2 H2 R2 s2 r2 => ?_
    obtain ⟨p, vs0, s0, h0, _, _⟩ := R2.lstO e0
    refine ⟨_, s0, hj b σ G2 H2 ρ μ2 _ μ3 _ hl R2 e2 fun u G3 H3 R3 s3 r3 => ?_⟩
    obtain ⟨p2, vs, s1, h1, hz, ra⟩ := R3.lstO e3
    have ep := ref_eq s0 s1
    subst ep
    refine ⟨p, vs, n, k, rfl, r3, h1, by rw [ra.len]; exact e5, ?_⟩
    exact a σ G3 _ (R3.wrL e3 s0 (by rw [List.length_set]; exact hz) (RpA.set (Rp.up s3 _ _ r2) k ra))
  | _ => cases e4
theorem ds_putL (i : Nat) {npos : Pos} (h : DE l X e te ε) (hj : DE l X j tj ι) (hN : X.N[i]? = some x := by rfl) (hv : Vis X.env.scope x := by first | exact Or.inl rfl | exact Or.inr (Or.inl rfl) | exact Or.inr (Or.inr rfl))
    (hd : (x == ("__debug__" : Str)) = false := by decide) (hcd : (x == ("__classdict__" : Str)) = false := by decide)
    (ha : ∀ v, assign (.Subscript (.Name x npos) j tpos) X.env v = (do
      let ov ← holding [v] (eval (.Name x npos) X.env)
      let iv ← holding [v, ov] (eval j X.env)
      standAt tpos
      holding [v, ov, iv] (setItem ov iv v)
      release [v, ov, iv] []) := by intro _; rfl)
    (hs : swapsWithSole [.Subscript (.Name x npos) j tpos] e pos.line X.env = pure false := by rfl) (hw : swappedStores [.Subscript (.Name x npos) j tpos] e X.env = pure none := by rfl) (h1 : (assignEach [.Subscript (.Name x npos) j tpos] X.env).map (·.2) = [assign (.Subscript (.Name x npos) j tpos) X.env] := by rfl) :
    DS l X (.Assign [.Subscript (.Name x npos) j tpos] e pos) (tAsg te (gSub (tVar i) tj rSetL)) (sPutL i ε ι) := ⟨ps_asg h.pe (pg_sub (pe_var hN hv hd hcd) hj.pe set_list ha) hs hw h1, so_putL h.so hj.so⟩
theorem so_putD (h : SoE l te ε) (hj : SoE l tj ι) : SoS l (sDPut (tVar i) tj te) (sPutD i ε ι) := fun b σ G H ρ μ o D hl R e a => by
  obtain ⟨⟨y, μ2⟩, e1, e⟩ := bnd e
  obtain ⟨xs0, e0, e⟩ := bnd e
  obtain ⟨⟨w, μ3⟩, e2, e⟩ := bnd e
  obtain ⟨xs, e3, e4⟩ := bnd e
  cases w with
  | tup ks =>
    obtain ⟨kk, e5, e6⟩ := bnd (show ((keysOf ks).bind fun k => if xs.length < 1000000 then some (Out.nx ρ (mset μ3 i (.dct (putD xs k y)))) else none) = some o from e4)
    split at e6
    · rename_i hz
      cases e6
      refine h b σ G H ρ μ y μ2 _ hl R e1 fun v G2 H2 R2 s2 r2 => ?_
      obtain ⟨p, vs0, s0, h0, _, _⟩ := R2.dctO e0
      refine ⟨_, s0, hj b σ G2 H2 ρ μ2 _ μ3 _ hl R2 e2 fun u G3 H3 R3 s3 r3 => ?_⟩
      obtain ⟨p2, vs, s1, h1, _, ra⟩ := R3.dctO e3
      have ep := ref_eq s0 s1
      subst ep
      obtain ⟨q, us, eu, gq, _, rq⟩ := r3
      have eq : H3 q = some (.tup (kk.map kV)) := by
        rw [← keysOf_rp e5 rq]
        exact R3.gh.tup gq
      refine ⟨p, upd H3 p (.dT (putK vs kk v)), rfl, ?_, ?_⟩
      · rw [eu]
        exact .t (k := kk) h1 eq (by rw [ra.len, sizeLine_eq]; omega)
      · refine a σ G3 _ (R3.wrD e3 s0 ?_ (ra.put (Rp.up s3 _ _ r2)))
        have := putD_len xs kk y
        rw [sizeLine_eq]
        omega
    · cases e6
  | _ => cases e4
theorem ds_putD (i : Nat) {npos : Pos} (hu : X.A.units + 1 < cLine) (h : DE l X e te ε) (hj : DE l X j tj ι) (hs : swapsWith e (some (.Subscript (.Name x npos) j tpos)) pos.line X.env = pure false := by rfl) (hN : X.N[i]? = some x := by rfl) (hv : Vis X.env.scope x := by first | exact Or.inl rfl | exact Or.inr (Or.inl rfl) | exact Or.inr (Or.inr rfl))
    (hd : (x == ("__debug__" : Str)) = false := by decide) (hcd : (x == ("__classdict__" : Str)) = false := by decide) :
    DS l X (.Assign [.Subscript (.Name x npos) j tpos] e pos) (sDPut (tVar i) tj te) (sPutD i ε ι) := ⟨ps_dput hu (pe_var hN hv hd hcd) hj.pe h.pe hs, so_putD h.so hj.so⟩
end
end VS
end
section
/-! VS6: loops, comprehensions, defs by values -/
namespace VS
open PySem PySem.Spec PyProof.Rows L2
/-! ### what is walked -/
/-- what is locked stays locked -/
def Lk (b : Bs) (H : Hp) : Prop := ∀ a x o, b.B a = some (.frz x o) → H a = some (.frz x o)
def SoIa (wi : TI) (b : Bs) (σ : L2.St) (G H : Hp) (ρ : Rho) (ds : List D) (μ2 : Mem) : Prop := ∀ R : It → Hp → Prop,
  (∀ (J : It) (Gd : Hp → Prop) (Y : Nat → Hp → V → Hp → Prop) (G2 H2 : Hp), ds.length ≤ sizeLine → Walk J ds.length Gd Y → Rel b σ G2 H2 ρ μ2 → Same G G2 → (∀ G' H', Same G2 G' → SameR G' H' → Lk b H' → Gd H') →
    (∀ i H' G' x H'' d, Same G2 G' → SameR G' H' → Lk b H' → ds[i]? = some d → Y i H' x H'' → ∃ G'', Ext G' H' G'' H'' ∧ Rp G'' x d) → R J H2) → wi σ H R
def SoI (l : Bool) (wi : TI) (φ : AM) : Prop := ∀ (b : Bs) (σ : L2.St) (G H : Hp) (ρ : Rho) (μ : Mem) (ds : List D) (μ2 : Mem), (l = false → b.lk = []) → Rel b σ G H ρ μ → φ ρ μ = some (ds, μ2) → SoIa wi b σ G H ρ ds μ2
structure DI (l : Bool) (X : Cx) (tg iter : Expr) (wi : TI) (φ : AM) : Prop where
  pi : PI X tg iter wi
  so : SoI l wi φ
def iL (ε : EM) : AM := fun ρ μ => (ε ρ μ).bind fun p => match p.1 with
  | .lst xs => some (xs, p.2)
  | _ => none
def iT (ε : EM) : AM := fun ρ μ => (ε ρ μ).bind fun p => match p.1 with
  | .tup xs => some (xs, p.2)
  | _ => none
def rngD (a b : Int) : List D := (List.range (b - a).toNat).map fun i => D.int (a + (i : Nat))
def iR1 (ε : EM) : AM := fun ρ μ => (ε ρ μ).bind fun p => match p.1 with
  | .int n => if n ≤ 16777216 ∧ -(2 ^ 62) ≤ n then some (rngD 0 n, p.2) else none
  | _ => none
section
variable {l : Bool} {X : Cx} {tg e : Expr} {te : TE} {ε : EM} {p pos : Pos}
theorem di_list (h : DE l X e te ε) : DI l X tg e (iList X.K te) (iL ε) := ⟨pi_list h.pe, fun b σ G H ρ μ ds μ2 hl hR e R k => by
  obtain ⟨⟨d, μ3⟩, e1, e2⟩ := bnd e
  cases d with
  | lst xs =>
    cases e2
    refine h.so b σ G H ρ μ _ _ _ hl hR e1 fun v G2 H2 R2 s2 r2 => ?_
    obtain ⟨a, vs, ev, ga, hz, ra⟩ := r2
    refine ⟨a, ev, ⟨vs, SqL.of (R2.gh.lst ga)⟩, k _ _ _ G2 H2 hz (by rw [← ra.len]; exact walk_list (K := X.K) (a := a)) R2 s2 (fun G' H' s g _ => SqL.of (g.lst (s _ _ ga))) fun i H' G' x H'' d s g _ hd y => ?_⟩
    obtain ⟨rfl, hy⟩ := y
    obtain ⟨w, e3, r3⟩ := (RpA.up s _ _ ra).get hd
    rw [hy] at e3
    cases e3
    exact ⟨G', .refl g, r3⟩
  | _ => cases e2⟩
theorem di_tup (h : DE l X e te ε) : DI l X tg e (iTup X.K te) (iT ε) := ⟨pi_tup h.pe, fun b σ G H ρ μ ds μ2 hl hR e R k => by
  obtain ⟨⟨d, μ3⟩, e1, e2⟩ := bnd e
  cases d with
  | tup xs =>
    cases e2
    refine h.so b σ G H ρ μ _ _ _ hl hR e1 fun v G2 H2 R2 s2 r2 => ?_
    obtain ⟨a, vs, ev, ga, hz, ra⟩ := r2
    refine ⟨a, ev, ⟨vs, SqT.of (R2.gh.tup ga)⟩, k _ _ _ G2 H2 hz (by rw [← ra.len]; exact walk_tup (K := X.K) (a := a)) R2 s2 (fun G' H' s g _ => SqT.of (g.tup (s _ _ ga))) fun i H' G' x H'' d s g _ hd y => ?_⟩
    obtain ⟨rfl, hy⟩ := y
    obtain ⟨w, e3, r3⟩ := (RpA.up s _ _ ra).get hd
    rw [hy] at e3
    cases e3
    exact ⟨G', .refl g, r3⟩
  | _ => cases e2⟩
theorem rngD_len (a b : Int) : (rngD a b).length = (b - a).toNat := by
  unfold rngD
  rw [List.length_map, List.length_range]
theorem rngD_get {a b : Int} {i : Nat} {d : D} (h : (rngD a b)[i]? = some d) : d = .int (a + (i : Nat)) ∧ i < (b - a).toNat := by
  have hi := (List.getElem?_eq_some_iff.mp h).1
  rw [rngD_len] at hi
  unfold rngD at h
  rw [List.getElem?_map, List.getElem?_range hi] at h
  cases h
  exact ⟨rfl, hi⟩
theorem di_range1 (hg : Gl X "range") (hm : X.mg "range" = none) (h : DE l X e te ε) (hs : starEach [e] X.env = [(false, eval e X.env)] := by rfl) (hs1 : starEach (e :: []) X.env = (false, eval e X.env) :: starEach [] X.env := by rfl) :
    DI l X tg (.Call (.Name "range" p) [e] [] pos) (iRng1 (tCons te tNil)) (iR1 ε) := ⟨pi_range1 hg hm (pa_cons h.pe pa_nil hs1) hs, fun b σ G H ρ μ ds μ2 hl hR e R k => by
  obtain ⟨⟨d, μ3⟩, e1, e2⟩ := bnd e
  cases d with
  | int n =>
    have e2' : (if n ≤ 16777216 ∧ -(2 ^ 62) ≤ n then some (rngD 0 n, μ3) else none) = some (ds, μ2) := e2
    split at e2'
    · rename_i hn
      cases e2'
      refine h.so b σ G H ρ μ _ _ _ hl hR e1 fun v G2 H2 R2 s2 r2 => ?_
      have ev : v = .int n := r2
      have hlen : (rngD 0 n).length = n.toNat := by rw [rngD_len]; omega
      refine ⟨n, by rw [ev], by omega, by omega, k _ _ _ G2 H2 (by rw [hlen, sizeLine_eq]; omega) (by rw [hlen]; exact walk_range) R2 s2 (fun _ _ _ _ _ => trivial) fun i H' G' x H'' d s g _ hd y => ?_⟩
      obtain ⟨rfl, hy⟩ := y
      obtain ⟨hd', _⟩ := rngD_get hd
      rw [hy, hd']
      exact ⟨G', .refl g, rfl⟩
    · cases e2'
  | _ => cases e2⟩
end
/-! ### the base moved -/
section
variable {b : Bs} {σ : L2.St} {G H G1 : Hp} {ρ : Rho} {μ : Mem}
theorem Rel.rebase (R : Rel b σ G H ρ μ) : Rel { b with G0 := G } σ G H ρ μ := ⟨R.bh, R.gh, .refl G, fun _ e _ => e, R.len, R.dat, R.own, R.dis, R.pin, R.nl⟩
theorem Rel.unbase (R : Rel { b with G0 := G1 } σ G H ρ μ) (g0 : Same b.G0 G1) (sep : ∀ x, b.G0 x = none → NT (b.B x) → G1 x = none) : Rel b σ G H ρ μ :=
  ⟨R.bh, R.gh, g0.trans R.g0, fun x e n => R.sep x (sep x e n) n, R.len, R.dat, R.own, R.dis, R.pin, R.nl⟩
end
/-! ### for -/
def forRun (τ : GM) (φ : SM) : List D → Rho → Mem → Option Out
  | [], ρ, μ => some (.nx ρ μ)
  | d :: ds, ρ, μ => (τ d ρ μ).bind fun q => (φ q.1 q.2).bind fun o => match o with
    | .nx ρ2 μ2 => forRun τ φ ds ρ2 μ2
    | .ct ρ2 μ2 => forRun τ φ ds ρ2 μ2
    | .bk ρ2 μ2 => some (.nx ρ2 μ2)
    | .rt x μ2 => some (.rt x μ2)
    | .rl x μ2 => some (.rl x μ2)
def sFor (ι : AM) (τ : GM) (φ : SM) : SM := fun ρ μ => (ι ρ μ).bind fun p => forRun τ φ p.1 ρ p.2
section
variable {l : Bool} {X : Cx} {tg iter : Expr} {body : List Stmt} {wi : TI} {g : TG} {tb : TS} {ι : AM} {τ : GM} {φ : SM} {is : List Nat} {pos : Pos}
theorem so_forA {b : Bs} {σ : L2.St} {G H : Hp} {ρ : Rho} {μ2 : Mem} {ds : List D} {o : Out} {D : Ends} (hi : SoIa wi b σ G H ρ ds μ2) (hg : SoG is g τ) (hb : SoS l tb φ) (hl : l = false → b.lk = []) (e2 : forRun τ φ ds ρ μ2 = some o) (a : After b D o) : tFor wi g tb D σ H := by
  refine hi _ fun J Gd Y G2 H2 hz w R2 s2 hG hY => ?_
  have un : ∀ {σ3 : L2.St} {G3 H3 : Hp} {ρ3 : Rho} {μ3 : Mem}, Rel { b with G0 := G2 } σ3 G3 H3 ρ3 μ3 → Rel b σ3 G3 H3 ρ3 μ3 := fun R3 => R3.unbase R2.g0 R2.sep
  refine for_it w (fun i σ3 H3 => ∃ G3 ρ3 μ3, Rel { b with G0 := G2 } σ3 G3 H3 ρ3 μ3 ∧ forRun τ φ (ds.drop i) ρ3 μ3 = some o) ⟨G2, ρ, μ2, R2.rebase, e2⟩ (fun i σ3 H3 _ ⟨G3, ρ3, μ3, R3, _⟩ => hG G3 H3 R3.g0 R3.gh (fun a x o q => R3.bh a _ q)) ?_ ?_
  · rintro i x σ3 H3 H4 hlt ⟨G3, ρ3, μ3, R3, e3⟩ hy
    rw [List.drop_eq_getElem_cons hlt] at e3
    obtain ⟨⟨ρ4, μ4⟩, e4, e5⟩ := bnd (show ((τ ds[i] ρ3 μ3).bind fun q => (φ q.1 q.2).bind fun o => match o with
      | .nx ρ2 μ2 => forRun τ φ (ds.drop (i + 1)) ρ2 μ2
      | .ct ρ2 μ2 => forRun τ φ (ds.drop (i + 1)) ρ2 μ2
      | .bk ρ2 μ2 => some (.nx ρ2 μ2)
      | .rt x μ2 => some (.rt x μ2)
      | .rl x μ2 => some (.rl x μ2)) = some o from e3)
    obtain ⟨o1, e6, e7⟩ := bnd e5
    obtain ⟨G4, x4, r4⟩ := hY i H3 G3 x H4 ds[i] R3.g0 R3.gh (fun a x o q => R3.bh a _ q) (List.getElem?_eq_getElem hlt) hy
    refine hg { b with G0 := G2 } σ3 G4 H4 ρ3 μ3 x ds[i] ρ4 μ4 _ (R3.ext x4) r4 e4 fun σ5 R5 _ _ => ?_
    refine hb { b with G0 := G2 } σ5 G4 H4 ρ4 μ4 o1 _ hl R5 e6 ?_
    cases o1 with
    | nx ρ6 μ6 => exact fun σ6 G6 H6 R6 => ⟨G6, ρ6, μ6, R6, e7⟩
    | ct ρ6 μ6 => exact fun σ6 G6 H6 R6 => ⟨G6, ρ6, μ6, R6, e7⟩
    | bk ρ6 μ6 =>
      cases e7
      exact fun σ6 G6 H6 R6 => a σ6 G6 H6 (un R6)
    | rt y μ6 =>
      cases e7
      exact fun v σ6 G6 H6 ρ6 R6 r6 => a v σ6 G6 H6 ρ6 (un R6) r6
    | rl y μ6 =>
      cases e7
      exact fun p vs σ6 G6 H6 ρ6 R6 h6 hz6 r6 g6 b6 n6 => a p vs σ6 G6 H6 ρ6 (un R6) h6 hz6 r6 g6 b6 n6
  · rintro σ3 H3 ⟨G3, ρ3, μ3, R3, e3⟩
    rw [List.drop_length] at e3
    cases e3
    exact a σ3 G3 H3 (un R3)
theorem so_for (hi : SoI l wi ι) (hg : SoG is g τ) (hb : SoS l tb φ) : SoS l (tFor wi g tb) (sFor ι τ φ) := fun b σ G H ρ μ o D hl R e a => by
  obtain ⟨⟨ds, μ2⟩, e1, e2⟩ := bnd e
  exact so_forA (hi b σ G H ρ μ ds μ2 hl R e1) hg hb hl e2 a
theorem ds_for (hp : PassesOwn (model X.prog X.w) X.A X.env X.xe) (hc : X.calm = true) (hi : DI l X tg iter wi ι) (hg : DG X tg is g τ) (hb : DSs l X body tb φ) (hs : ∀ x, foldedSetIterable iter X.env x = pure x := by intro _; rfl) :
    DS l X (.For tg iter body [] pos) (tFor wi g tb) (sFor ι τ φ) := ⟨ps_for hp hc hi.pi hg.pg hb.pss hs, so_for hi.so hg.so hb.so⟩
end
/-! ### while -/
def whRun (τ : TM) (φ : SM) : Nat → Rho → Mem → Option Out := fun n => Nat.rec (fun _ _ => none) (fun _ rec ρ μ => (τ ρ μ).bind fun p => match p.1 with
  | false => some (.nx ρ p.2)
  | true => (φ ρ p.2).bind fun o => match o with
    | .nx ρ2 μ2 => rec ρ2 μ2
    | .ct ρ2 μ2 => rec ρ2 μ2
    | .bk ρ2 μ2 => some (.nx ρ2 μ2)
    | .rt x μ2 => some (.rt x μ2)
    | .rl x μ2 => some (.rl x μ2)) n
theorem whRun_succ (τ : TM) (φ : SM) (n : Nat) (ρ : Rho) (μ : Mem) : whRun τ φ (n + 1) ρ μ = (τ ρ μ).bind fun p => match p.1 with
  | false => some (.nx ρ p.2)
  | true => (φ ρ p.2).bind fun o => match o with
    | .nx ρ2 μ2 => whRun τ φ n ρ2 μ2
    | .ct ρ2 μ2 => whRun τ φ n ρ2 μ2
    | .bk ρ2 μ2 => some (.nx ρ2 μ2)
    | .rt x μ2 => some (.rt x μ2)
    | .rl x μ2 => some (.rl x μ2) := rfl
def sWhile (n : Nat) (τ : TM) (φ : SM) : SM := fun ρ μ => whRun τ φ n ρ μ
section
variable {l : Bool} {X : Cx} {c : Expr} {body : List Stmt} {tc : TT} {tb : TS} {τ : TM} {φ : SM} {pos : Pos} {n : Nat}
theorem so_while (hc : SoT l tc τ) (hb : SoS l tb φ) : SoS l (tWhile tc tb) (sWhile n τ φ) := fun b σ G H ρ μ o D hl R e a => by
  refine ⟨fun m σ3 H3 => ∃ G3 ρ3 μ3, Rel b σ3 G3 H3 ρ3 μ3 ∧ whRun τ φ m ρ3 μ3 = some o, ⟨n, G, ρ, μ, R, e⟩, ?_⟩
  rintro m σ3 H3 ⟨G3, ρ3, μ3, R3, e3⟩
  cases m with
  | zero => cases e3
  | succ m =>
    rw [whRun_succ] at e3
    obtain ⟨⟨c1, μ4⟩, e4, e5⟩ := bnd e3
    refine hc b σ3 G3 H3 ρ3 μ3 c1 μ4 _ hl R3 e4 fun G4 H4 R4 s4 => ?_
    cases c1 with
    | false =>
      cases e5
      exact iteF (a σ3 G4 H4 R4)
    | true =>
      obtain ⟨o1, e6, e7⟩ := bnd e5
      refine iteT ⟨fun σ5 H5 => ∃ G5 ρ5 μ5, Rel b σ5 G5 H5 ρ5 μ5 ∧ whRun τ φ m ρ5 μ5 = some o, fun σ5 H5 h => ⟨m, Nat.lt_succ_self m, h⟩, ?_⟩
      refine hb b σ3 G4 H4 ρ3 μ4 o1 _ hl R4 e6 ?_
      cases o1 with
      | nx ρ6 μ6 => exact fun σ6 G6 H6 R6 => ⟨G6, ρ6, μ6, R6, e7⟩
      | ct ρ6 μ6 => exact fun σ6 G6 H6 R6 => ⟨G6, ρ6, μ6, R6, e7⟩
      | bk ρ6 μ6 =>
        cases e7
        exact fun σ6 G6 H6 R6 => a σ6 G6 H6 R6
      | rt y μ6 =>
        cases e7
        exact fun v σ6 G6 H6 ρ6 R6 r6 => a v σ6 G6 H6 ρ6 R6 r6
      | rl y μ6 =>
        cases e7
        exact fun p vs σ6 G6 H6 ρ6 R6 h6 hz6 r6 g6 b6 n6 => a p vs σ6 G6 H6 ρ6 R6 h6 hz6 r6 g6 b6 n6
theorem ds_while (n : Nat) (hp : PassesOwn (model X.prog X.w) X.A X.env X.xe) (hc : DT l X c tc τ) (hb : DSs l X body tb φ) : DS l X (.While c body [] pos) (tWhile tc tb) (sWhile n τ φ) := ⟨ps_while hp hc.pt hb.pss, so_while hc.so hb.so⟩
end
/-! ### comprehensions -/
def wipeR (ρ : Rho) : List Nat → Rho
  | [] => ρ
  | v :: vs => put (wipeR ρ vs) v none
def freeM (μ : Mem) : List Nat → Bool
  | [] => true
  | v :: vs => match mget μ v with
    | none => freeM μ vs
    | some _ => false
theorem freeM_of {μ : Mem} : ∀ {vs : List Nat}, freeM μ vs = true → ∀ v ∈ vs, mget μ v = none
  | [], _, v, hv => absurd hv List.not_mem_nil
  | w :: vs, h, v, hv => by
    cases e : mget μ w with
    | some c =>
      rw [show freeM μ (w :: vs) = (match mget μ w with | none => freeM μ vs | some _ => false) from rfl, e] at h
      cases h
    | none =>
      rw [show freeM μ (w :: vs) = (match mget μ w with | none => freeM μ vs | some _ => false) from rfl, e] at h
      rcases List.mem_cons.mp hv with z | z
      · rw [z]; exact e
      · exact freeM_of h v z
def lcM (τ : GM) (υ : TM) (ε : EM) (vs : List Nat) : List D → Rho → Mem → Option (List D × Mem)
  | [], _, μ => match freeM μ vs with
    | true => some ([], μ)
    | false => none
  | d :: ds, ρ, μ => match freeM μ vs with
    | true => (τ d ρ μ).bind fun q => (υ q.1 q.2).bind fun c => match c.1 with
      | true => (ε q.1 c.2).bind fun x => (lcM τ υ ε vs ds ρ x.2).map fun r => (x.1 :: r.1, r.2)
      | false => lcM τ υ ε vs ds ρ c.2
    | false => none
def lLC (ι : AM) (τ : GM) (υ : TM) (ε : EM) (vs : List Nat) : AM := fun ρ μ => (ι ρ μ).bind fun p => lcM τ υ ε vs p.1 (wipeR ρ vs) p.2
theorem lcM_free {τ : GM} {υ : TM} {ε : EM} {vs : List Nat} {ds : List D} {ρ : Rho} {μ : Mem} {r : List D × Mem} (h : lcM τ υ ε vs ds ρ μ = some r) : freeM μ vs = true := by
  cases ds with
  | nil =>
    have h : (match freeM μ vs with | true => some (([] : List D), μ) | false => none) = some r := h
    split at h
    · assumption
    · cases h
  | cons d ds =>
    unfold lcM at h
    split at h
    · assumption
    · cases h
theorem lcM_nil {τ : GM} {υ : TM} {ε : EM} {vs : List Nat} {ρ : Rho} {μ : Mem} {r : List D × Mem} (h : lcM τ υ ε vs [] ρ μ = some r) : r = ([], μ) := by
  have h : (match freeM μ vs with | true => some (([] : List D), μ) | false => none) = some r := h
  split at h
  · exact (Option.some.inj h).symm
  · cases h
theorem lcM_cons {τ : GM} {υ : TM} {ε : EM} {vs : List Nat} {d : D} {ds : List D} {ρ : Rho} {μ : Mem} {r : List D × Mem} (h : lcM τ υ ε vs (d :: ds) ρ μ = some r) :
    ((τ d ρ μ).bind fun q => (υ q.1 q.2).bind fun c => match c.1 with
      | true => (ε q.1 c.2).bind fun x => (lcM τ υ ε vs ds ρ x.2).map fun r => (x.1 :: r.1, r.2)
      | false => lcM τ υ ε vs ds ρ c.2) = some r := by
  unfold lcM at h
  split at h
  · exact h
  · cases h
def mYes : TM := fun _ μ => some (true, μ)
theorem so_yes {l : Bool} : SoT l tYes mYes := fun b σ G H ρ μ c μ2 Q hl R e k => by
  cases e
  exact k G H R (.refl G)
section
variable {b : Bs} {σ : L2.St} {G H : Hp} {ρ : Rho} {μ : Mem}
theorem Rel.wipe1 {i : Nat} (R : Rel b σ G H ρ μ) (hi : mget μ i = none) : Rel b (σ.set i none) G H (put ρ i none) μ := by
  have ne : ∀ j, mget μ j ≠ none → j ≠ i := fun j hj z => hj (by rw [z]; exact hi)
  refine ⟨R.bh, R.gh, R.g0, R.sep, by rw [put_len, List.length_set]; exact R.len, fun j d e => ?_, fun j c e => ?_, fun j k a hj hk e1 e2 => ?_, fun k hk hm => ?_, R.nl⟩
  · by_cases hj : j = i
    · subst hj
      obtain ⟨e1, _⟩ := gt_put_same e
      cases e1
    · rw [gt_put_ne hj] at e
      obtain ⟨v, e1, r⟩ := R.dat j d e
      exact ⟨v, by rw [List.getElem?_set_ne (Ne.symm hj)]; exact e1, r⟩
  · have hj := ne j (by rw [e]; exact fun z => by cases z)
    obtain ⟨a, s, r⟩ := R.own j c e
    exact ⟨a, by rw [List.getElem?_set_ne (Ne.symm hj)]; exact s, r⟩
  · rw [List.getElem?_set_ne (Ne.symm (ne j hj))] at e1
    rw [List.getElem?_set_ne (Ne.symm (ne k hk))] at e2
    exact R.dis j k a hj hk e1 e2
  · rw [List.getElem?_set_ne (Ne.symm (ne 0 hm))]
    exact R.pin k hk hm
theorem Rel.wipe : ∀ {vs : List Nat}, Rel b σ G H ρ μ → (∀ v ∈ vs, mget μ v = none) → Rel b (L2.wipe σ vs) G H (wipeR ρ vs) μ
  | [], R, _ => R
  | v :: vs, R, h => (Rel.wipe (vs := vs) R fun w hw => h w (List.mem_cons_of_mem _ hw)).wipe1 (h v List.mem_cons_self)
end
theorem wipe_eq {σ σ2 : L2.St} (hl : σ2.length = σ.length) : ∀ {vs : List Nat}, (∀ j, j ∉ vs → σ2[j]? = σ[j]?) → L2.wipe σ2 vs = L2.wipe σ vs := fun {vs} h => by
  refine List.ext_getElem? fun j => ?_
  by_cases hj : j ∈ vs
  · have key : ∀ (s : L2.St) (ws : List Nat), j ∈ ws → j < s.length → (L2.wipe s ws)[j]? = some none := fun s ws => by
      induction ws with
      | nil => intro m; exact absurd m List.not_mem_nil
      | cons w ws ih =>
        intro m hlt
        show ((L2.wipe s ws).set w none)[j]? = some none
        by_cases hw : j = w
        · subst hw
          rw [List.getElem?_set_self (by rw [wipe_length]; exact hlt)]
        · rw [List.getElem?_set_ne (Ne.symm hw)]
          rcases List.mem_cons.mp m with z | z
          · exact absurd z hw
          · exact ih z hlt
    by_cases hlt : j < σ.length
    · rw [key σ2 vs hj (by rw [hl]; exact hlt), key σ vs hj hlt]
    · rw [List.getElem?_eq_none (by rw [wipe_length, hl]; omega), List.getElem?_eq_none (by rw [wipe_length]; omega)]
  · rw [wipe_out hj, wipe_out hj]
    exact h j hj
section
variable {l : Bool} {wi : TI} {g : TG} {tt : TT} {te : TE} {ι : AM} {τ : GM} {υ : TM} {ε : EM} {is vs : List Nat}
theorem so_lcA {b : Bs} {σ : L2.St} {G H : Hp} {ρ : Rho} {μ3 μ2 : Mem} {ds rs : List D} {Q : VK} (hi : SoIa wi b σ G H ρ ds μ3) (hg : SoG is g τ) (ht : SoT l tt υ) (he : SoE l te ε) (hvs : ∀ i ∈ is, i ∈ vs) (hl : l = false → b.lk = []) (e2 : lcM τ υ ε vs ds (wipeR ρ vs) μ3 = some (rs, μ2))
    (k : ∀ a vs G2 H2, Rel b σ G2 H2 ρ μ2 → Same G G2 → H2 a = some (.lst vs) → rs.length ≤ sizeLine → RpA G2 vs rs → G2 a = none → b.B a = none → (∀ j c, mget μ2 j = some c → σ[j]? ≠ some (some (.ref a))) → Q (.ref a) H2) : tLc wi g tt te vs σ H Q := by
  refine hi _ fun J Gd Y G2 H2 hz w R2 s2 hG hY D hD => ?_
  have gD := R2.gnone hD
  have bD := R2.b_none hD
  refine lc_it w (D := D) (vs := vs) (fun i H3 => ∃ G3 μi acc accD rest, Rel { b with G0 := G2 } (L2.wipe σ vs) G3 H3 (wipeR ρ vs) μi ∧ H3 D = some (.lst acc) ∧ G3 D = none ∧ (∀ j c, mget μi j = some c → (L2.wipe σ vs)[j]? ≠ some (some (.ref D))) ∧
      RpA G3 acc accD ∧ accD.length ≤ i ∧ lcM τ υ ε vs (ds.drop i) (wipeR ρ vs) μi = some (rest, μ2) ∧ rs = accD ++ rest)
    ?_ (fun i H3 _ ⟨G3, _, _, _, _, R3, _⟩ => hG G3 H3 R3.g0 R3.gh (fun a x o q => R3.bh a _ q)) ?_ ?_
  · have hfree := freeM_of (lcM_free e2)
    have R3 : Rel { b with G0 := G2 } (L2.wipe σ vs) G2 (upd H2 D (.lst [])) (wipeR ρ vs) μ3 := (R2.rebase.side hD).wipe hfree
    refine ⟨G2, μ3, [], [], rs, R3, upd_same, gD, ?_, trivial, Nat.le_refl _, e2, rfl⟩
    exact (R2.rebase.wipe hfree).unowned hD
  · rintro i x H3 H4 hlt ⟨G3, μi, acc, accD, rest, R3, h3, g3, n3, r3, l3, e3, er⟩ hy
    rw [List.drop_eq_getElem_cons hlt] at e3
    obtain ⟨⟨ρ4, μ4⟩, e4, e5⟩ := bnd (lcM_cons e3)
    obtain ⟨⟨c5, μ5⟩, e6, e7⟩ := bnd e5
    obtain ⟨G4, x4, r4⟩ := hY i H3 G3 x H4 ds[i] R3.g0 R3.gh (fun a x o q => R3.bh a _ q) (List.getElem?_eq_getElem hlt) hy
    have R4 := R3.ext x4
    have h4 : H4 D = some (.lst acc) := x4.hh _ _ h3
    have g4 : G4 D = none := x4.sep D g3 (by rw [h3]; exact .lst)
    have R4g : Rel { b with B := upd b.B D (.lst acc), G0 := G4 } (L2.wipe σ vs) G4 H4 (wipeR ρ vs) μi := R4.guard h4 g4 n3
    refine hg { b with B := upd b.B D (.lst acc), G0 := G4 } (L2.wipe σ vs) G4 H4 (wipeR ρ vs) μi x ds[i] ρ4 μ4 _ R4g r4 e4 fun σ5 R5 o5 l5 => ?_
    have hww : L2.wipe (L2.wipe σ vs) vs = L2.wipe σ vs := wipe_eq (wipe_length _ _) fun j hj => wipe_out hj
    have hwp : L2.wipe σ5 vs = L2.wipe σ vs := (wipe_eq l5 fun j hj => o5 j fun z => hj (hvs j z)).trans hww
    refine ⟨hwp, ?_⟩
    have fin : ∀ {G7 H7 : Hp} {μ7 : Mem}, Rel { b with B := upd b.B D (.lst acc), G0 := G4 } σ5 G7 H7 ρ4 μ7 → (∀ v ∈ vs, mget μ7 v = none) → Same G4 G7 →
        Rel { b with G0 := G2 } (L2.wipe σ vs) G7 H7 (wipeR ρ vs) μ7 ∧ H7 D = some (.lst acc) ∧ G7 D = none ∧ (∀ j c, mget μ7 j = some c → (L2.wipe σ vs)[j]? ≠ some (some (.ref D))) := fun {G7 H7 μ7} R7 f7 s7 => by
      have R8 := R7.wipe f7
      rw [hwp] at R8
      have R8' : Rel { b with B := upd b.B D (.lst acc), G0 := G4 } (L2.wipe σ vs) G7 H7 (wipeR ρ vs) μ7 := ⟨R8.bh, R8.gh, R8.g0, R8.sep, R3.len, fun j d ej => by
        obtain ⟨v, ev, rv⟩ := R4.dat j d ej
        exact ⟨v, ev, Rp.up R8.g0 _ _ rv⟩, R8.own, R8.dis, R8.pin, R8.nl⟩
      obtain ⟨R9, h9, g9, n9⟩ := Rel.unguard (b := { b with G0 := G2 }) (D := D) (o := .lst acc) (G1 := G4) .lst R8' bD (R3.g0.trans x4.gg) fun y e n => by
        exact x4.sep y (R3.sep y e n) (n.up R3.bh)
      exact ⟨R9, h9, g9 g4, n9⟩
    refine ht { b with B := upd b.B D (.lst acc), G0 := G4 } σ5 G4 H4 ρ4 μ4 c5 μ5 _ hl R5 e6 fun G6 H6 R6 s6 => ?_
    cases c5 with
    | false =>
      have e7 : lcM τ υ ε vs (ds.drop (i + 1)) (wipeR ρ vs) μ5 = some (rest, μ2) := e7
      obtain ⟨R9, h9, g9, n9⟩ := fin R6 (freeM_of (lcM_free e7)) s6
      exact iteF ⟨G6, μ5, acc, accD, rest, R9, h9, g9, n9, RpA.up (x4.gg.trans s6) _ _ r3, Nat.le_succ_of_le l3, e7, er⟩
    | true =>
      obtain ⟨⟨d8, μ8⟩, e8, e9⟩ := bnd e7
      obtain ⟨⟨rest2, μ9⟩, e10, e11⟩ := mpd e9
      cases e11
      refine iteT ?_
      refine he { b with B := upd b.B D (.lst acc), G0 := G4 } σ5 G6 H6 ρ4 μ5 d8 μ8 _ hl R6 e8 fun v8 G8 H8 R8 s8 r8 => ?_
      obtain ⟨R9, h9, g9, n9⟩ := fin R8 (freeM_of (lcM_free e10)) (s6.trans s8)
      have la : acc.length = accD.length := r3.len
      refine ⟨acc, h9, by omega, G8, μ8, acc ++ [v8], accD ++ [d8], rest2, ?_, upd_same, g9, n9, ?_, ?_, e10, by rw [er]; simp⟩
      · refine ⟨fun y u q => ?_, fun y u q => ?_, R9.g0, R9.sep, R9.len, R9.dat, fun j c q => ?_, R9.dis, R9.pin, fun y ws q n => ?_⟩
        · rw [upd_ne (fun z => by rw [z] at q; exact absurd (q.symm.trans bD) (fun z => by cases z))]
          exact R9.bh y u q
        · rw [show (upd H8 D (HO.lst (acc ++ [v8]))) y = H8 y from upd_ne (fun z => by rw [z, g9] at q; cases q)]
          rcases R9.gh y u q with h | ⟨⟨x, h⟩, w⟩
          · exact .inl h
          · exact .inr ⟨⟨x, h⟩, w⟩
        · obtain ⟨a, s, c1, ga, ba⟩ := R9.own j c q
          have hne : a ≠ D := fun z => n9 j c q (z ▸ s)
          exact ⟨a, s, c1.up (.refl _) (upd_ne hne), ga, ba⟩
        · rw [upd_ne (fun z => by rw [z, g9] at q; cases q)]
          exact R9.nl y ws q n
      · exact (RpA.up (x4.gg.trans (s6.trans s8)) _ _ r3).app ⟨r8, trivial⟩
      · simp; omega
  · rintro H3 ⟨G3, μi, acc, accD, rest, R3, h3, g3, n3, r3, l3, e3, er⟩
    rw [List.drop_length] at e3
    have hf := freeM_of (lcM_free e3)
    have e4 := lcM_nil e3
    have er2 : rest = [] := congrArg Prod.fst e4
    have em : μi = μ2 := (congrArg Prod.snd e4).symm
    subst er2 em
    rw [List.append_nil] at er
    subst er
    have out : ∀ j c, mget μi j = some c → j ∉ vs := fun j c q z => by rw [hf j z] at q; cases q
    refine k D acc G3 H3 ?_ (s2.trans R3.g0) h3 (by omega) r3 g3 bD fun j c q => by
      have := n3 j c q
      rwa [wipe_out (out j c q)] at this
    refine (?_ : Rel { b with G0 := G2 } σ G3 H3 ρ μi).unbase R2.g0 R2.sep
    refine ⟨R3.bh, R3.gh, R3.g0, R3.sep, R2.len, fun j d q => ?_, fun j c q => ?_, fun j k a hj hk q1 q2 => ?_, fun k hk hm => ?_, R3.nl⟩
    · obtain ⟨v, ev, rv⟩ := R2.dat j d q
      exact ⟨v, ev, Rp.up R3.g0 _ _ rv⟩
    · obtain ⟨a, s, r⟩ := R3.own j c q
      rw [wipe_out (out j c q)] at s
      exact ⟨a, s, r⟩
    · have oj : j ∉ vs := fun z => hj (hf j z)
      have ok : k ∉ vs := fun z => hk (hf k z)
      exact R3.dis j k a hj hk (by rw [wipe_out oj]; exact q1) (by rw [wipe_out ok]; exact q2)
    · have o0 : 0 ∉ vs := fun z => hm (hf 0 z)
      have := R3.pin k hk hm
      rwa [wipe_out o0] at this
theorem so_lc (hi : SoI l wi ι) (hg : SoG is g τ) (ht : SoT l tt υ) (he : SoE l te ε) (hvs : ∀ i ∈ is, i ∈ vs) : SoL l (tLc wi g tt te vs) (lLC ι τ υ ε vs) := fun b σ G H ρ μ rs μ2 Q hl R e k => by
  obtain ⟨⟨ds, μ3⟩, e1, e2⟩ := bnd e
  exact so_lcA (hi b σ G H ρ μ ds μ3 hl R e1) hg ht he hvs hl e2 k
end
end VS
end
section
/-! VS7: comprehensions as derivations, chains, reading owned cells, defs -/
namespace VS
open PySem PySem.Spec PyProof.Rows L2
/-! ### one clause -/
section
variable {l : Bool} {X : Cx} {elt tg iter : Expr} {ifs : List Expr} {scope : Scope} {own : List (Str × Nat)} {pos : Pos} {wi : TI} {g : TG} {tt : TT} {te : TE} {ι : AM} {is : List Nat} {τ : GM} {υ : TM} {ε : EM}
structure DTs (l : Bool) (X : Cx) (es : List Expr) (t : TT) (φ : TM) : Prop where
  pts : PTs X es t
  so : SoT l t φ
theorem dts_nil : DTs l X [] tYes mYes := ⟨pts_nil, so_yes⟩
theorem dts_one {c : Expr} {t : TT} {φ : TM} (h : DT l X c t φ) : DTs l X [c] t φ := ⟨pts_one h.pt, h.so⟩
theorem dl_lc (hc : X.calm = true) (hN : X.N.Nodup) (hi : DI l X tg iter wi ι) (ok : BlkOk X.N X.env.scope scope own) (hv : ∀ i ∈ is, i ∈ own.map (·.2))
    (hg : ∀ (s : Shared) (H : Hp) (C : Addr) (cl : List (Str × Addr)) (fp : List Addr), DG (X.blk s H scope (compEnvC scope cl C X.env) fp) tg is g τ)
    (ht : ∀ (s : Shared) (H : Hp) (C : Addr) (cl : List (Str × Addr)) (fp : List Addr), DTs l (X.blk s H scope (compEnvC scope cl C X.env) fp) ifs tt υ)
    (he : ∀ (s : Shared) (H : Hp) (C : Addr) (cl : List (Str × Addr)) (fp : List Addr), DE l (X.blk s H scope (compEnvC scope cl C X.env) fp) elt te ε)
    (hs : ∀ x, foldedSetIterable iter X.env x = pure x := by intro _; rfl) :
    DL l X (.ListComp elt [⟨tg, iter, ifs, 0⟩] scope pos) (tLc wi g tt te (own.map (·.2))) (lLC ι τ υ ε (own.map (·.2))) :=
  ⟨pe_lc hc hN hi.pi ok (fun s H C cl fp => (hg s H C cl fp).pg) (fun s H C cl fp => (ht s H C cl fp).pts) (fun s H C cl fp => (he s H C cl fp).pe) hs,
   so_lc hi.so (hg X.s_0 X.H_0 0 [] []).so (ht X.s_0 X.H_0 0 [] []).so (he X.s_0 X.H_0 0 [] []).so hv⟩
/-- y = [..] where y is a local -/
theorem ds_setLc (i : Nat) {y : Str} {py spos : Pos} (hc : X.calm = true) (hN : X.N.Nodup) (hi : DI l X tg iter wi ι) (ok : BlkOk X.N X.env.scope scope own) (hv : ∀ i ∈ is, i ∈ own.map (·.2))
    (hg : ∀ (s : Shared) (H : Hp) (C : Addr) (cl : List (Str × Addr)) (fp : List Addr), DG (X.blk s H scope (compEnvC scope cl C X.env) fp) tg is g τ)
    (ht : ∀ (s : Shared) (H : Hp) (C : Addr) (cl : List (Str × Addr)) (fp : List Addr), DTs l (X.blk s H scope (compEnvC scope cl C X.env) fp) ifs tt υ)
    (he : ∀ (s : Shared) (H : Hp) (C : Addr) (cl : List (Str × Addr)) (fp : List Addr), DE l (X.blk s H scope (compEnvC scope cl C X.env) fp) elt te ε)
    (hy : X.N[i]? = some y := by rfl) (hyl : X.env.scope.names.lookup y = some .local := by rfl)
    (hsw : swapsWith (.ListComp elt [⟨tg, iter, ifs, 0⟩] scope pos) (some (.Name y py)) spos.line X.env = pure true := by exact sw_true rfl rfl rfl rfl)
    (hs : ∀ x, foldedSetIterable iter X.env x = pure x := by intro _; rfl) :
    DS l X (.Assign [.Name y py] (.ListComp elt [⟨tg, iter, ifs, 0⟩] scope pos) spos) (tAsg (tLc wi g tt te (own.map (·.2))) (gName i)) (sSet i (eL (lLC ι τ υ ε (own.map (·.2))))) :=
  ⟨ps_setLc hc hN hy hyl hsw hi.pi ok (fun s H C cl fp => (hg s H C cl fp).pg) (fun s H C cl fp => (ht s H C cl fp).pts) (fun s H C cl fp => (he s H C cl fp).pe) hs,
   so_set (so_L (so_lc hi.so (hg X.s_0 X.H_0 0 [] []).so (ht X.s_0 X.H_0 0 [] []).so (he X.s_0 X.H_0 0 [] []).so hv))⟩
end
/-! ### two clauses -/
theorem lc_itS {J : It} {n : Nat} {Gd : Hp → Prop} {Y : Nat → Hp → V → Hp → Prop} (w : Walk J n Gd Y) {g : TG} {tt : TT} {te : TE} {vs : List Nat} {σ : L2.St} {H1 : Hp} {D : Addr} {Qd : Hp → Prop} (Pv : Nat → Hp → Prop) (h0 : Pv 0 H1) (hG : ∀ i H, i ≤ n → Pv i H → Gd H)
    (hs : ∀ i x H H', i < n → Pv i H → Y i H x H' → g x (L2.wipe σ vs) H' fun σ2 H2 => L2.wipe σ2 vs = L2.wipe σ vs ∧ tt σ2 H2 fun b H3 =>
      if b = true then te σ2 H3 fun y H4 => ∃ acc, H4 D = some (.lst acc) ∧ acc.length < sizeLine ∧ Pv (i + 1) (upd H4 D (.lst (acc ++ [y]))) else Pv (i + 1) H3) (hd : ∀ H, Pv n H → Qd H) :
    ∃ W : Nat → Nat → Hp → Prop, (∃ m, W 0 m H1) ∧ ∀ i m H, W i m H →
      (J.stop i H ∧ Qd H) ∨ (J.go i H ∧ ∃ Nx : Hp → Prop, (∀ H', Nx H' → ∃ m', m' < m ∧ W (i + 1) m' H') ∧ ∀ x H', J.yld i H x H' → g x (L2.wipe σ vs) H' fun σ2 H2 => L2.wipe σ2 vs = L2.wipe σ vs ∧ tt σ2 H2 fun b H3 =>
        if b = true then te σ2 H3 fun y H4 => ∃ acc, H4 D = some (.lst acc) ∧ acc.length < sizeLine ∧ Nx (upd H4 D (.lst (acc ++ [y]))) else Nx H3) := by
  refine ⟨fun i m H => m = n - i ∧ i ≤ n ∧ Pv i H, ⟨n, by simp, Nat.zero_le _, h0⟩, ?_⟩
  rintro i m H ⟨rfl, hi, p⟩
  have q := hG i H hi p
  by_cases hlt : i < n
  · refine .inr ⟨w.goes i H hlt q, Pv (i + 1), fun H' p' => ⟨n - (i + 1), by omega, rfl, hlt, p'⟩, fun x H' y => hs i x H H' hlt p (w.yields i H x H' hlt q y)⟩
  · have e : i = n := by omega
    subst e
    exact .inl ⟨w.stops H q, hd H p⟩
/-- the list that grows at D, nobody's -/
structure Grow (b : Bs) (σ : L2.St) (G H : Hp) (ρ : Rho) (μ : Mem) (Da : Addr) (accD : List D) : Prop where
  r : Rel b σ G H ρ μ
  h : ∃ acc, H Da = some (.lst acc) ∧ RpA G acc accD
  g : G Da = none
  b : b.B Da = none
  n : ∀ j c, mget μ j = some c → σ[j]? ≠ some (some (.ref Da))
section
variable {b : Bs} {σ σ5 : L2.St} {G H G4 H4 G7 H7 : Hp} {ρ ρ4 : Rho} {μ μ7 : Mem} {D : Addr} {acc : List V} {accD : List VS.D}
theorem Grow.guard (Z : Grow b σ G H ρ μ D accD) : ∃ acc, H D = some (.lst acc) ∧ RpA G acc accD ∧ Rel { b with B := upd b.B D (.lst acc), G0 := G } σ G H ρ μ := by
  obtain ⟨acc, h, r⟩ := Z.h
  exact ⟨acc, h, r, Z.r.guard h Z.g Z.n⟩
theorem Grow.un (R : Rel { b with B := upd b.B D (.lst acc), G0 := G4 } σ G7 H7 ρ μ) (bD : b.B D = none) (g4 : G4 D = none) (s0 : Same b.G0 G4) (sep : ∀ x, b.G0 x = none → NT (b.B x) → G4 x = none) (r : RpA G4 acc accD) : Grow b σ G7 H7 ρ μ D accD := by
  obtain ⟨R9, h9, g9, n9⟩ := Rel.unguard .lst R bD s0 sep
  exact ⟨R9, ⟨acc, h9, RpA.up R.g0 _ _ r⟩, g9 g4, bD, n9⟩
theorem Grow.push {v : V} {d : VS.D} (Z : Grow b σ G H ρ μ D accD) (h : H D = some (.lst acc)) (r : RpA G acc accD) (rv : Rp G v d) : Grow b σ G (upd H D (.lst (acc ++ [v]))) ρ μ D (accD ++ [d]) := by
  have R9 := Z.r
  refine ⟨⟨fun y u q => ?_, fun y u q => ?_, R9.g0, R9.sep, R9.len, R9.dat, fun j c q => ?_, R9.dis, R9.pin, fun y ws q n => ?_⟩, ⟨_, upd_same, r.app ⟨rv, trivial⟩⟩, Z.g, Z.b, Z.n⟩
  · rw [upd_ne (fun z => by rw [z] at q; exact absurd (q.symm.trans Z.b) (fun z => by cases z))]
    exact R9.bh y u q
  · have hy : y ≠ D := fun z => by rw [z, Z.g] at q; cases q
    rcases R9.gh y u q with h | ⟨⟨x, h⟩, w⟩
    · exact .inl (by rw [upd_ne hy]; exact h)
    · exact .inr ⟨⟨x, by rw [upd_ne hy]; exact h⟩, w⟩
  · obtain ⟨a, s, c1, ga, ba⟩ := R9.own j c q
    have hne : a ≠ D := fun z => Z.n j c q (z ▸ s)
    exact ⟨a, s, c1.up (.refl _) (upd_ne hne), ga, ba⟩
  · rw [upd_ne (fun z => by rw [z, Z.g] at q; cases q)]
    exact R9.nl y ws q n
theorem Grow.ext {G2 H2 : Hp} (Z : Grow b σ G H ρ μ D accD) (x : Ext G H G2 H2) : Grow b σ G2 H2 ρ μ D accD := by
  obtain ⟨acc, h, r⟩ := Z.h
  exact ⟨Z.r.ext x, ⟨acc, x.hh _ _ h, RpA.up x.gg _ _ r⟩, x.sep D Z.g (by rw [h]; exact .lst), Z.b, Z.n⟩
/-- slots wiped, others as they were -/
theorem Grow.back (Z : Grow b σ5 G7 H7 ρ4 μ7 D accD) {vs : List Nat} (f : ∀ v ∈ vs, mget μ7 v = none) (hw : L2.wipe σ5 vs = L2.wipe σ vs) (hl : ρ.length = σ.length) (hd : ∀ j d, gt (wipeR ρ vs) j = some d → ∃ v, (L2.wipe σ vs)[j]? = some (some v) ∧ Rp G7 v d) : Grow b (L2.wipe σ vs) G7 H7 (wipeR ρ vs) μ7 D accD := by
  have R8 := Z.r.wipe f
  rw [hw] at R8
  have out : ∀ j c, mget μ7 j = some c → j ∉ vs := fun j c q z => by rw [f j z] at q; cases q
  refine ⟨⟨R8.bh, R8.gh, R8.g0, R8.sep, ?_, hd, R8.own, R8.dis, R8.pin, R8.nl⟩, Z.h, Z.g, Z.b, fun j c q => ?_⟩
  · rw [wipe_length, ← hl]
    have : ∀ vs : List Nat, (wipeR ρ vs).length = ρ.length := fun vs => by
      induction vs with
      | nil => rfl
      | cons v vs ih => show (put (wipeR ρ vs) v none).length = _; rw [put_len]; exact ih
    exact this vs
  · rw [← hw, wipe_out (out j c q)]
    exact Z.n j c q
end
section
variable {l : Bool} {wi1 : TI} {g1 : TG} {tt1 : TT} {te : TE} {ι1 : AM} {τ1 : GM} {υ1 : TM} {ε : EM} {is1 vs1 : List Nat}
/-- the inner clause -/
theorem so_lcIn {b : Bs} {σ : L2.St} {G H : Hp} {ρ : Rho} {μ μ3 : Mem} {D : Addr} {accD xs : List VS.D} {ds : List VS.D} {J : It} {Gd : Hp → Prop} {Y : Nat → Hp → V → Hp → Prop} {Nx : Hp → Prop} (hg : SoG is1 g1 τ1) (ht : SoT l tt1 υ1) (he : SoE l te ε) (hvs : ∀ i ∈ is1, i ∈ vs1) (hl : l = false → b.lk = [])
    (w : Walk J ds.length Gd Y) (Z : Grow b σ G H ρ μ D accD) (hG : ∀ G' H', Same G G' → SameR G' H' → Lk b H' → Gd H')
    (hY : ∀ i H' G' x H'' d, Same G G' → SameR G' H' → Lk b H' → ds[i]? = some d → Y i H' x H'' → ∃ G'', Ext G' H' G'' H'' ∧ Rp G'' x d)
    (e : lcM τ1 υ1 ε vs1 ds (wipeR ρ vs1) μ = some (xs, μ3)) (hz : (accD ++ xs).length ≤ sizeLine)
    (fin : ∀ G3 H3, Grow b (L2.wipe σ vs1) G3 H3 (wipeR ρ vs1) μ3 D (accD ++ xs) → Same G G3 → Nx H3) :
    ∃ W1 : Nat → Nat → Hp → Prop, (∃ m, W1 0 m H) ∧ ∀ i m H, W1 i m H →
      (J.stop i H ∧ Nx H) ∨ (J.go i H ∧ ∃ Nx1 : Hp → Prop, (∀ H', Nx1 H' → ∃ m', m' < m ∧ W1 (i + 1) m' H') ∧ ∀ x H', J.yld i H x H' → g1 x (L2.wipe σ vs1) H' fun σ2 H2 => L2.wipe σ2 vs1 = L2.wipe σ vs1 ∧ tt1 σ2 H2 fun b H3 =>
        if b = true then te σ2 H3 fun y H4 => ∃ acc, H4 D = some (.lst acc) ∧ acc.length < sizeLine ∧ Nx1 (upd H4 D (.lst (acc ++ [y]))) else Nx1 H3) := by
  have hbase : ∀ {σ' : L2.St} {G' H' : Hp} {ρ' : Rho} {μ' : Mem} {a : List VS.D}, Grow { b with G0 := G } σ' G' H' ρ' μ' D a → Grow b σ' G' H' ρ' μ' D a := fun Z' => ⟨Z'.r.unbase Z.r.g0 Z.r.sep, Z'.h, Z'.g, Z'.b, Z'.n⟩
  have dat0 : ∀ {G' : Hp}, Same G G' → ∀ vs j d, gt (wipeR ρ vs) j = some d → ∃ v, (L2.wipe σ vs)[j]? = some (some v) ∧ Rp G' v d := fun s vs => by
    induction vs with
    | nil => exact fun j d q => let ⟨v, ev, rv⟩ := Z.r.dat j d q; ⟨v, ev, Rp.up s _ _ rv⟩
    | cons v vs ih =>
      intro j d q
      have q : gt (put (wipeR ρ vs) v none) j = some d := q
      by_cases hj : j = v
      · subst hj
        obtain ⟨e1, _⟩ := gt_put_same q
        cases e1
      · rw [gt_put_ne hj] at q
        obtain ⟨u, eu, ru⟩ := ih j d q
        exact ⟨u, by show ((L2.wipe σ vs).set v none)[j]? = _; rw [List.getElem?_set_ne (Ne.symm hj)]; exact eu, ru⟩
  have hww : L2.wipe (L2.wipe σ vs1) vs1 = L2.wipe σ vs1 := wipe_eq (wipe_length _ _) fun j hj => wipe_out hj
  refine lc_itS w (fun i H3 => ∃ G3 μi a rest, Grow { b with G0 := G } (L2.wipe σ vs1) G3 H3 (wipeR ρ vs1) μi D a ∧ lcM τ1 υ1 ε vs1 (ds.drop i) (wipeR ρ vs1) μi = some (rest, μ3) ∧ accD ++ xs = a ++ rest) ?_ (fun i H3 _ ⟨G3, _, _, _, Z3, _⟩ => hG G3 H3 Z3.r.g0 Z3.r.gh (fun a x o q => Z3.r.bh a _ q)) ?_ ?_
  · refine ⟨G, μ, accD, xs, ?_, e, rfl⟩
    exact Grow.back (σ := σ) (ρ := ρ) (vs := vs1) ⟨Z.r.rebase, Z.h, Z.g, Z.b, Z.n⟩ (freeM_of (lcM_free e)) rfl Z.r.len (dat0 (.refl G) vs1)
  · rintro i x H3 H4 hlt ⟨G3, μi, a, rest, Z3, e3, er⟩ hy
    rw [List.drop_eq_getElem_cons hlt] at e3
    obtain ⟨⟨ρ4, μ4⟩, e4, e5⟩ := bnd (lcM_cons e3)
    obtain ⟨⟨c5, μ5⟩, e6, e7⟩ := bnd e5
    obtain ⟨G4, x4, r4⟩ := hY i H3 G3 x H4 ds[i] Z3.r.g0 Z3.r.gh (fun a x o q => Z3.r.bh a _ q) (List.getElem?_eq_getElem hlt) hy
    have Z4 := Z3.ext x4
    obtain ⟨acc, h4, ra, R4⟩ := Z4.guard
    refine hg { b with B := upd b.B D (.lst acc), G0 := G4 } (L2.wipe σ vs1) G4 H4 (wipeR ρ vs1) μi x ds[i] ρ4 μ4 _ R4 r4 e4 fun σ5 R5 o5 l5 => ?_
    have hwp : L2.wipe σ5 vs1 = L2.wipe σ vs1 := (wipe_eq l5 fun j hj => o5 j fun z => hj (hvs j z)).trans hww
    refine ⟨hwp, ?_⟩
    have fin2 : ∀ {G7 H7 : Hp} {μ7 : Mem}, Rel { b with B := upd b.B D (.lst acc), G0 := G4 } σ5 G7 H7 ρ4 μ7 → (∀ v ∈ vs1, mget μ7 v = none) → Grow { b with G0 := G } (L2.wipe σ vs1) G7 H7 (wipeR ρ vs1) μ7 D a := fun {G7 H7 μ7} R7 f7 =>
      Grow.back (Grow.un (b := { b with G0 := G }) R7 Z4.b Z4.g Z4.r.g0 Z4.r.sep ra) f7 hwp Z.r.len (dat0 (Z4.r.g0.trans R7.g0) vs1)
    refine ht { b with B := upd b.B D (.lst acc), G0 := G4 } σ5 G4 H4 ρ4 μ4 c5 μ5 _ hl R5 e6 fun G6 H6 R6 s6 => ?_
    cases c5 with
    | false =>
      have e7 : lcM τ1 υ1 ε vs1 (ds.drop (i + 1)) (wipeR ρ vs1) μ5 = some (rest, μ3) := e7
      exact iteF ⟨G6, μ5, a, rest, fin2 R6 (freeM_of (lcM_free e7)), e7, er⟩
    | true =>
      obtain ⟨⟨d8, μ8⟩, e8, e9⟩ := bnd e7
      obtain ⟨⟨rest2, μ9⟩, e10, e11⟩ := mpd e9
      cases e11
      refine iteT ?_
      refine he { b with B := upd b.B D (.lst acc), G0 := G4 } σ5 G6 H6 ρ4 μ5 d8 μ8 _ hl R6 e8 fun v8 G8 H8 R8 s8 r8 => ?_
      have Z8 := fin2 R8 (freeM_of (lcM_free e10))
      have h8 : H8 D = some (.lst acc) := R8.bh D _ upd_same
      have ra8 : RpA G8 acc a := RpA.up R8.g0 _ _ ra
      refine ⟨acc, h8, ?_, G8, μ8, a ++ [d8], rest2, Z8.push h8 ra8 r8, e10, by rw [er]; simp⟩
      have := ra8.len
      rw [er] at hz
      simp at hz
      omega
  · rintro H3 ⟨G3, μi, a, rest, Z3, e3, er⟩
    rw [List.drop_length] at e3
    have e4 := lcM_nil e3
    have er2 : rest = [] := congrArg Prod.fst e4
    have em : μi = μ3 := (congrArg Prod.snd e4).symm
    subst er2 em
    rw [List.append_nil] at er
    exact fin G3 H3 (er ▸ hbase Z3) Z3.r.g0
end
def lc2M (τ : GM) (υ : TM) (ι1 : AM) (τ1 : GM) (υ1 : TM) (ε : EM) (vs vs1 : List Nat) : List D → Rho → Mem → Option (List D × Mem)
  | [], _, μ => match freeM μ vs with
    | true => some ([], μ)
    | false => none
  | d :: ds, ρ, μ => match freeM μ vs with
    | true => (τ d ρ μ).bind fun q => (υ q.1 q.2).bind fun c => match c.1 with
      | true => (ι1 q.1 c.2).bind fun p => (lcM τ1 υ1 ε vs1 p.1 (wipeR q.1 vs1) p.2).bind fun x => (lc2M τ υ ι1 τ1 υ1 ε vs vs1 ds ρ x.2).map fun r => (x.1 ++ r.1, r.2)
      | false => lc2M τ υ ι1 τ1 υ1 ε vs vs1 ds ρ c.2
    | false => none
def lLC2 (ι : AM) (τ : GM) (υ : TM) (ι1 : AM) (τ1 : GM) (υ1 : TM) (ε : EM) (vs vs1 : List Nat) : AM := fun ρ μ => (ι ρ μ).bind fun p => (lc2M τ υ ι1 τ1 υ1 ε vs vs1 p.1 (wipeR ρ vs) p.2).bind fun r => match Nat.ble r.1.length 16777216 with
  | true => some r
  | false => none
section
variable {τ : GM} {υ : TM} {ι1 : AM} {τ1 : GM} {υ1 : TM} {ε : EM} {vs vs1 : List Nat} {d : D} {ds : List D} {ρ : Rho} {μ : Mem} {r : List D × Mem}
theorem lc2M_free (h : lc2M τ υ ι1 τ1 υ1 ε vs vs1 ds ρ μ = some r) : freeM μ vs = true := by
  cases ds with
  | nil =>
    have h : (match freeM μ vs with | true => some (([] : List D), μ) | false => none) = some r := h
    split at h
    · assumption
    · cases h
  | cons d ds =>
    unfold lc2M at h
    split at h
    · assumption
    · cases h
theorem lc2M_nil (h : lc2M τ υ ι1 τ1 υ1 ε vs vs1 [] ρ μ = some r) : r = ([], μ) := by
  have h : (match freeM μ vs with | true => some (([] : List D), μ) | false => none) = some r := h
  split at h
  · exact (Option.some.inj h).symm
  · cases h
theorem lc2M_cons (h : lc2M τ υ ι1 τ1 υ1 ε vs vs1 (d :: ds) ρ μ = some r) :
    ((τ d ρ μ).bind fun q => (υ q.1 q.2).bind fun c => match c.1 with
      | true => (ι1 q.1 c.2).bind fun p => (lcM τ1 υ1 ε vs1 p.1 (wipeR q.1 vs1) p.2).bind fun x => (lc2M τ υ ι1 τ1 υ1 ε vs vs1 ds ρ x.2).map fun r => (x.1 ++ r.1, r.2)
      | false => lc2M τ υ ι1 τ1 υ1 ε vs vs1 ds ρ c.2) = some r := by
  unfold lc2M at h
  split at h
  · exact h
  · cases h
end
section
variable {l : Bool} {wi wi1 : TI} {g g1 : TG} {tt tt1 : TT} {te : TE} {ι ι1 : AM} {τ τ1 : GM} {υ υ1 : TM} {ε : EM} {is is1 vs vs1 : List Nat}
theorem so_lc2 (hi : SoI l wi ι) (hg : SoG is g τ) (ht : SoT l tt υ) (hi1 : SoI l wi1 ι1) (hg1 : SoG is1 g1 τ1) (ht1 : SoT l tt1 υ1) (he : SoE l te ε) (hvs : ∀ i ∈ is, i ∈ vs) (hvs1 : ∀ i ∈ is1, i ∈ vs1) (hv1 : ∀ i ∈ vs1, i ∈ vs) :
    SoL l (tLc2 wi g tt wi1 g1 tt1 te vs vs1) (lLC2 ι τ υ ι1 τ1 υ1 ε vs vs1) := fun b σ G H ρ μ rs μ2 Q hl R e k => by
  obtain ⟨⟨ds, μ3⟩, e1, e2⟩ := bnd e
  obtain ⟨⟨rs', μ2'⟩, e2, e2'⟩ := bnd e2
  have e2' : (match Nat.ble rs'.length 16777216 with | true => some (rs', μ2') | false => none) = some (rs, μ2) := e2'
  have hz : rs'.length ≤ sizeLine := by
    cases q : Nat.ble rs'.length 16777216 with
    | true => rw [sizeLine_eq]; exact Nat.le_of_ble_eq_true q
    | false => rw [q] at e2'; cases e2'
  rw [show Nat.ble rs'.length 16777216 = true from Nat.ble_eq_true_of_le (by rw [sizeLine_eq] at hz; exact hz)] at e2'
  cases e2'
  have e2 : lc2M τ υ ι1 τ1 υ1 ε vs vs1 ds (wipeR ρ vs) μ3 = some (rs, μ2) := e2
  refine hi b σ G H ρ μ ds μ3 hl R e1 _ fun J Gd Y G2 H2 hzd w R2 s2 hG hY D hD => ?_
  have gD := R2.gnone hD
  have bD := R2.b_none hD
  have hww : L2.wipe (L2.wipe σ vs) vs = L2.wipe σ vs := wipe_eq (wipe_length _ _) fun j hj => wipe_out hj
  have dat0 : ∀ {G' : Hp}, Same G2 G' → ∀ vs j d, gt (wipeR ρ vs) j = some d → ∃ v, (L2.wipe σ vs)[j]? = some (some v) ∧ Rp G' v d := fun s vs => by
    induction vs with
    | nil => exact fun j d q => let ⟨v, ev, rv⟩ := R2.dat j d q; ⟨v, ev, Rp.up s _ _ rv⟩
    | cons v vs ih =>
      intro j d q
      have q : gt (put (wipeR ρ vs) v none) j = some d := q
      by_cases hj : j = v
      · subst hj
        obtain ⟨e1, _⟩ := gt_put_same q
        cases e1
      · rw [gt_put_ne hj] at q
        obtain ⟨u, eu, ru⟩ := ih j d q
        exact ⟨u, by show ((L2.wipe σ vs).set v none)[j]? = _; rw [List.getElem?_set_ne (Ne.symm hj)]; exact eu, ru⟩
  let Pv : Nat → Hp → Prop := fun i H3 => ∃ G3 μi a rest, Grow { b with G0 := G2 } (L2.wipe σ vs) G3 H3 (wipeR ρ vs) μi D a ∧ lc2M τ υ ι1 τ1 υ1 ε vs vs1 (ds.drop i) (wipeR ρ vs) μi = some (rest, μ2) ∧ rs = a ++ rest
  have p0 : Pv 0 (upd H2 D (.lst [])) := by
    have hfree := freeM_of (lc2M_free e2)
    refine ⟨G2, μ3, [], rs, ?_, e2, rfl⟩
    exact ⟨(R2.rebase.side hD).wipe hfree, ⟨[], upd_same, trivial⟩, gD, bD, (R2.rebase.wipe hfree).unowned hD⟩
  have pd : ∀ H3, Pv ds.length H3 → Q (.ref D) H3 := by
    rintro H3 ⟨G3, μi, a, rest, Z3, e3, er⟩
    rw [List.drop_length] at e3
    have hf := freeM_of (lc2M_free e3)
    have e4 := lc2M_nil e3
    have er2 : rest = [] := congrArg Prod.fst e4
    have em : μi = μ2 := (congrArg Prod.snd e4).symm
    subst er2 em
    rw [List.append_nil] at er
    subst er
    have out : ∀ j c, mget μi j = some c → j ∉ vs := fun j c q z => by rw [hf j z] at q; cases q
    obtain ⟨acc, h3, r3⟩ := Z3.h
    have R3 := Z3.r
    refine k D acc G3 H3 ?_ (s2.trans R3.g0) h3 hz r3 Z3.g bD fun j c q => by
      have := Z3.n j c q
      rwa [wipe_out (out j c q)] at this
    refine (?_ : Rel { b with G0 := G2 } σ G3 H3 ρ μi).unbase R2.g0 R2.sep
    refine ⟨R3.bh, R3.gh, R3.g0, R3.sep, R2.len, fun j d q => ?_, fun j c q => ?_, fun j k a hj hk q1 q2 => ?_, fun k hk hm => ?_, R3.nl⟩
    · obtain ⟨v, ev, rv⟩ := R2.dat j d q
      exact ⟨v, ev, Rp.up R3.g0 _ _ rv⟩
    · obtain ⟨a, s, r⟩ := R3.own j c q
      rw [wipe_out (out j c q)] at s
      exact ⟨a, s, r⟩
    · have oj : j ∉ vs := fun z => hj (hf j z)
      have ok : k ∉ vs := fun z => hk (hf k z)
      exact R3.dis j k a hj hk (by rw [wipe_out oj]; exact q1) (by rw [wipe_out ok]; exact q2)
    · have o0 : 0 ∉ vs := fun z => hm (hf 0 z)
      have := R3.pin k hk hm
      rwa [wipe_out o0] at this
  refine ⟨fun i m H => m = ds.length - i ∧ i ≤ ds.length ∧ Pv i H, ⟨ds.length, by simp, Nat.zero_le _, p0⟩, ?_⟩
  rintro i m H3 ⟨rfl, hi, p⟩
  have q : Gd H3 := by
    obtain ⟨G3, _, _, _, Z3, _⟩ := p
    exact hG G3 H3 Z3.r.g0 Z3.r.gh (fun a x o q => Z3.r.bh a _ q)
  by_cases hlt : i < ds.length
  · refine .inr ⟨w.goes i H3 hlt q, Pv (i + 1), fun H' p' => ⟨ds.length - (i + 1), by omega, rfl, hlt, p'⟩, fun x H4 y => ?_⟩
    have hy := w.yields i H3 x H4 hlt q y
    obtain ⟨G3, μi, a, rest, Z3, e3, er⟩ := p
    rw [List.drop_eq_getElem_cons hlt] at e3
    obtain ⟨⟨ρ4, μ4⟩, e4, e5⟩ := bnd (lc2M_cons e3)
    obtain ⟨⟨c5, μ5⟩, e6, e7⟩ := bnd e5
    obtain ⟨G4, x4, r4⟩ := hY i H3 G3 x H4 ds[i] Z3.r.g0 Z3.r.gh (fun a x o q => Z3.r.bh a _ q) (List.getElem?_eq_getElem hlt) hy
    have Z4 := Z3.ext x4
    obtain ⟨acc, h4, ra, R4⟩ := Z4.guard
    refine hg { b with B := upd b.B D (.lst acc), G0 := G4 } (L2.wipe σ vs) G4 H4 (wipeR ρ vs) μi x ds[i] ρ4 μ4 _ R4 r4 e4 fun σ5 R5 o5 l5 => ?_
    have hwp : L2.wipe σ5 vs = L2.wipe σ vs := (wipe_eq l5 fun j hj => o5 j fun z => hj (hvs j z)).trans hww
    refine ⟨hwp, ?_⟩
    have fin2 : ∀ {G7 H7 : Hp} {μ7 : Mem}, Rel { b with B := upd b.B D (.lst acc), G0 := G4 } σ5 G7 H7 ρ4 μ7 → Grow { b with G0 := G2 } σ5 G7 H7 ρ4 μ7 D a := fun {G7 H7 μ7} R7 =>
      Grow.un (b := { b with G0 := G2 }) R7 Z4.b Z4.g Z4.r.g0 Z4.r.sep ra
    refine ht { b with B := upd b.B D (.lst acc), G0 := G4 } σ5 G4 H4 ρ4 μ4 c5 μ5 _ hl R5 e6 fun G6 H6 R6 s6 => ?_
    cases c5 with
    | false =>
      have e7 : lc2M τ υ ι1 τ1 υ1 ε vs vs1 (ds.drop (i + 1)) (wipeR ρ vs) μ5 = some (rest, μ2) := e7
      exact iteF ⟨G6, μ5, a, rest, Grow.back (fin2 R6) (freeM_of (lc2M_free e7)) hwp R2.len (dat0 (Z4.r.g0.trans R6.g0) vs), e7, er⟩
    | true =>
      obtain ⟨⟨ds1, μ6⟩, e8, e9⟩ := bnd e7
      obtain ⟨⟨xs, μ7⟩, e10, e11⟩ := bnd e9
      obtain ⟨⟨rest2, μ9⟩, e12, e13⟩ := mpd e11
      cases e13
      refine iteT ?_
      refine hi1 { b with B := upd b.B D (.lst acc), G0 := G4 } σ5 G6 H6 ρ4 μ5 ds1 μ6 hl R6 e8 _ fun J1 Gd1 Y1 G8 H8 hz1 w1 R8 s8 hG1 hY1 => ?_
      have Z8 := fin2 R8
      have lkG : ∀ {H' : Hp}, Lk { b with G0 := G2 } H' → Lk { b with B := upd b.B D (.lst acc), G0 := G4 } H' := fun {H'} q a x o ea => by
        have ea : upd b.B D (.lst acc) a = some (.frz x o) := ea
        by_cases z : a = D
        · rw [z, upd_same] at ea; cases ea
        · rw [upd_ne z] at ea; exact q a x o ea
      refine so_lcIn (b := { b with G0 := G2 }) (accD := a) hg1 ht1 he hvs1 hl w1 Z8 (fun G' H' s g q => hG1 G' H' s g (lkG q)) (fun i H' G' x H'' d s g q => hY1 i H' G' x H'' d s g (lkG q)) e10 (by rw [er] at hz; simp at hz ⊢; omega) fun G9 H9 Z9 s9 => ?_
      have e12 : lc2M τ υ ι1 τ1 υ1 ε vs vs1 (ds.drop (i + 1)) (wipeR ρ vs) μ7 = some (rest2, μ9) := e12
      refine ⟨G9, μ7, a ++ xs, rest2, Grow.back Z9 (freeM_of (lc2M_free e12)) ?_ R2.len (dat0 (Z4.r.g0.trans (R8.g0.trans s9)) vs), e12, by rw [er]; simp⟩
      exact (wipe_eq (wipe_length _ _) fun j hj => wipe_out fun z => hj (hv1 j z)).trans hwp
  · have e : i = ds.length := by omega
    subst e
    exact .inl ⟨w.stops H3 q, pd H3 p⟩
end
section
variable {l : Bool} {X : Cx} {elt tg iter tg1 iter1 : Expr} {ifs ifs1 : List Expr} {scope : Scope} {own : List (Str × Nat)} {pos : Pos} {wi wi1 : TI} {g g1 : TG} {tt tt1 : TT} {te : TE} {ι ι1 : AM} {is is1 vs1 : List Nat} {τ τ1 : GM} {υ υ1 : TM} {ε : EM}
theorem dl_lc2 (hc : X.calm = true) (hN : X.N.Nodup) (hi : DI l X tg iter wi ι) (ok : BlkOk X.N X.env.scope scope own) (hv : ∀ i ∈ is, i ∈ own.map (·.2)) (hv1 : ∀ i ∈ vs1, i ∈ own.map (·.2)) (hw1 : ∀ i ∈ is1, i ∈ vs1)
    (hg : ∀ (s : Shared) (H : Hp) (C : Addr) (cl : List (Str × Addr)) (fp : List Addr), DG (X.blk s H scope (compEnvC scope cl C X.env) fp) tg is g τ)
    (ht : ∀ (s : Shared) (H : Hp) (C : Addr) (cl : List (Str × Addr)) (fp : List Addr), DTs l (X.blk s H scope (compEnvC scope cl C X.env) fp) ifs tt υ)
    (hi1 : ∀ (s : Shared) (H : Hp) (C : Addr) (cl : List (Str × Addr)) (fp : List Addr), DI l (X.blk s H scope (compEnvC scope cl C X.env) fp) tg1 iter1 wi1 ι1)
    (hg1 : ∀ (s : Shared) (H : Hp) (C : Addr) (cl : List (Str × Addr)) (fp : List Addr), DG (X.blk s H scope (compEnvC scope cl C X.env) fp) tg1 is1 g1 τ1)
    (ht1 : ∀ (s : Shared) (H : Hp) (C : Addr) (cl : List (Str × Addr)) (fp : List Addr), DTs l (X.blk s H scope (compEnvC scope cl C X.env) fp) ifs1 tt1 υ1)
    (he : ∀ (s : Shared) (H : Hp) (C : Addr) (cl : List (Str × Addr)) (fp : List Addr), DE l (X.blk s H scope (compEnvC scope cl C X.env) fp) elt te ε)
    (hs : ∀ x, foldedSetIterable iter X.env x = pure x := by intro _; rfl) (hs1 : ∀ env x, foldedSetIterable iter1 env x = pure x := by intro _ _; rfl) :
    DL l X (.ListComp elt [⟨tg, iter, ifs, 0⟩, ⟨tg1, iter1, ifs1, 0⟩] scope pos) (tLc2 wi g tt wi1 g1 tt1 te (own.map (·.2)) vs1) (lLC2 ι τ υ ι1 τ1 υ1 ε (own.map (·.2)) vs1) :=
  ⟨pe_lc2 hc hN hi.pi ok hv1 (fun s H C cl fp => (hg s H C cl fp).pg) (fun s H C cl fp => (ht s H C cl fp).pts) (fun s H C cl fp => (hi1 s H C cl fp).pi) (fun s H C cl fp => (hg1 s H C cl fp).pg) (fun s H C cl fp => (ht1 s H C cl fp).pts) (fun s H C cl fp => (he s H C cl fp).pe) hs hs1,
   so_lc2 hi.so (hg X.s_0 X.H_0 0 [] []).so (ht X.s_0 X.H_0 0 [] []).so (hi1 X.s_0 X.H_0 0 [] []).so (hg1 X.s_0 X.H_0 0 [] []).so (ht1 X.s_0 X.H_0 0 [] []).so (he X.s_0 X.H_0 0 [] []).so hv hw1 hv1⟩
theorem ds_setLc2 (i : Nat) {y : Str} {py spos : Pos} (hc : X.calm = true) (hN : X.N.Nodup) (hi : DI l X tg iter wi ι) (ok : BlkOk X.N X.env.scope scope own) (hv : ∀ i ∈ is, i ∈ own.map (·.2)) (hv1 : ∀ i ∈ vs1, i ∈ own.map (·.2)) (hw1 : ∀ i ∈ is1, i ∈ vs1)
    (hg : ∀ (s : Shared) (H : Hp) (C : Addr) (cl : List (Str × Addr)) (fp : List Addr), DG (X.blk s H scope (compEnvC scope cl C X.env) fp) tg is g τ)
    (ht : ∀ (s : Shared) (H : Hp) (C : Addr) (cl : List (Str × Addr)) (fp : List Addr), DTs l (X.blk s H scope (compEnvC scope cl C X.env) fp) ifs tt υ)
    (hi1 : ∀ (s : Shared) (H : Hp) (C : Addr) (cl : List (Str × Addr)) (fp : List Addr), DI l (X.blk s H scope (compEnvC scope cl C X.env) fp) tg1 iter1 wi1 ι1)
    (hg1 : ∀ (s : Shared) (H : Hp) (C : Addr) (cl : List (Str × Addr)) (fp : List Addr), DG (X.blk s H scope (compEnvC scope cl C X.env) fp) tg1 is1 g1 τ1)
    (ht1 : ∀ (s : Shared) (H : Hp) (C : Addr) (cl : List (Str × Addr)) (fp : List Addr), DTs l (X.blk s H scope (compEnvC scope cl C X.env) fp) ifs1 tt1 υ1)
    (he : ∀ (s : Shared) (H : Hp) (C : Addr) (cl : List (Str × Addr)) (fp : List Addr), DE l (X.blk s H scope (compEnvC scope cl C X.env) fp) elt te ε)
    (hy : X.N[i]? = some y := by rfl) (hyl : X.env.scope.names.lookup y = some .local := by rfl)
    (hsw : swapsWith (.ListComp elt [⟨tg, iter, ifs, 0⟩, ⟨tg1, iter1, ifs1, 0⟩] scope pos) (some (.Name y py)) spos.line X.env = pure true := by exact sw_true rfl rfl rfl rfl)
    (hs : ∀ x, foldedSetIterable iter X.env x = pure x := by intro _; rfl) (hs1 : ∀ env x, foldedSetIterable iter1 env x = pure x := by intro _ _; rfl) :
    DS l X (.Assign [.Name y py] (.ListComp elt [⟨tg, iter, ifs, 0⟩, ⟨tg1, iter1, ifs1, 0⟩] scope pos) spos) (tAsg (tLc2 wi g tt wi1 g1 tt1 te (own.map (·.2)) vs1) (gName i)) (sSet i (eL (lLC2 ι τ υ ι1 τ1 υ1 ε (own.map (·.2)) vs1))) :=
  ⟨ps_setLc2 hc hN hy hyl hsw hi.pi ok hv1 (fun s H C cl fp => (hg s H C cl fp).pg) (fun s H C cl fp => (ht s H C cl fp).pts) (fun s H C cl fp => (hi1 s H C cl fp).pi) (fun s H C cl fp => (hg1 s H C cl fp).pg) (fun s H C cl fp => (ht1 s H C cl fp).pts) (fun s H C cl fp => (he s H C cl fp).pe) hs hs1,
   so_set (so_L (so_lc2 hi.so (hg X.s_0 X.H_0 0 [] []).so (ht X.s_0 X.H_0 0 [] []).so (hi1 X.s_0 X.H_0 0 [] []).so (hg1 X.s_0 X.H_0 0 [] []).so (ht1 X.s_0 X.H_0 0 [] []).so (he X.s_0 X.H_0 0 [] []).so hv hw1 hv1))⟩
end
/-! ### a <= b < c -/
def eChain (o1 o2 : D → D → Option D) (φ ψ χ : EM) : EM := fun ρ μ => (φ ρ μ).bind fun p => (ψ ρ p.2).bind fun q => (o1 p.1 q.1).bind fun r => match r with
  | .bl true => (χ ρ q.2).bind fun s => (o2 q.1 s.1).map fun d => (d, s.2)
  | .bl false => some (.bl false, q.2)
  | _ => none
section
variable {l : Bool} {X : Cx} {a b c : Expr} {ta tb tc : TE} {φ ψ χ : EM} {r r' : R2} {f f' : D → D → Option D} {op op' : CmpOp} {pos : Pos}
theorem de_chain (ho : OpR X (compareOp op) r) (hd : OpD r f) (ho' : OpR X (compareOp op') r') (hd' : OpD r' f') (ha : DE l X a ta φ) (hb : DE l X b tb ψ) (hc : DE l X c tc χ) (hm : lastMarks [op, op'] [b, c] = false := by with_unfolding_all rfl) :
    DE l X (.Compare a [op, op'] [b, c] pos) (tChain r r' ta tb tc) (eChain f f' φ ψ χ) := ⟨pe_chain ho ho' ha.pe hb.pe hc.pe hm, fun bs σ G H ρ μ d μ2 Q hl R e k => by
  obtain ⟨⟨d1, μ3⟩, e1, e2⟩ := bnd e
  obtain ⟨⟨d2, μ4⟩, e3, e4⟩ := bnd e2
  obtain ⟨z, e5, e6⟩ := bnd e4
  refine ha.so bs σ G H ρ μ d1 μ3 _ hl R e1 fun v1 G2 H2 R2 s2 r2 => ?_
  refine hb.so bs σ G2 H2 ρ μ3 d2 μ4 _ hl R2 e3 fun v2 G3 H3 R3 s3 r3 => ?_
  refine hd v1 v2 d1 d2 z G3 H3 _ R3.gh (Rp.up s3 _ _ r2) r3 e5 fun v4 G4 H4 x4 r4 => ?_
  cases z with
  | bl k1 =>
    have ev : v4 = .bl k1 := r4
    cases k1 with
    | false =>
      cases e6
      exact ⟨false, ev, iteF (k _ G4 H4 (R3.ext x4) (s2.trans (s3.trans x4.gg)) rfl)⟩
    | true =>
      obtain ⟨⟨d5, μ5⟩, e7, e8⟩ := bnd e6
      obtain ⟨z2, e9, e10⟩ := mpd e8
      injection e10 with e10a e10b
      subst e10a e10b
      refine ⟨true, ev, iteT ?_⟩
      refine hc.so bs σ G4 H4 ρ μ4 d5 μ5 _ hl (R3.ext x4) e7 fun v5 G5 H5 R5 s5 r5 => ?_
      refine hd' v2 v5 d2 d5 _ G5 H5 _ R5.gh (Rp.up (x4.gg.trans s5) _ _ r3) r5 e9 fun v6 G6 H6 x6 r6 => ?_
      exact k v6 G6 H6 (R5.ext x6) (s2.trans (s3.trans (x4.gg.trans (s5.trans x6.gg)))) r6
  | _ => cases e6⟩
end
/-! ### defs -/
def runB (N : Nat) (φ : SM) : List D → Option D := fun ds => (φ (ds.map some ++ List.replicate (N - ds.length) none) []).bind fun o => match o with
  | .rt d _ => some d
  | .nx _ _ => some .non
  | _ => none
theorem gt_start {G : Hp} : ∀ {ds : List D} {vs : List V} {m i : Nat} {d : D}, RpA G vs ds → gt (ds.map some ++ List.replicate m none) i = some d → ∃ v, (vs.map some ++ List.replicate m (none : Option V))[i]? = some (some v) ∧ Rp G v d
  | [], [], m, i, d, _, h => by
    exfalso
    have : ∀ (m i : Nat), gt (([] : List D).map some ++ List.replicate m none) i = none := fun m => by
      induction m with
      | zero => intro i; cases i <;> rfl
      | succ m ih =>
        intro i
        cases i with
        | zero => rfl
        | succ i => exact ih i
    rw [this] at h
    cases h
  | d :: ds, v :: vs, m, 0, d', r, h => by
    cases h
    exact ⟨v, rfl, r.1⟩
  | d :: ds, v :: vs, m, i + 1, d', r, h => by
    obtain ⟨u, e, q⟩ := gt_start (ds := ds) (vs := vs) (m := m) (i := i) r.2 h
    exact ⟨u, e, q⟩
  | [], v :: vs, _, _, _, r, _ => r.elim
  | d :: ds, [], _, _, _, r, _ => r.elim
theorem rel_start {G H : Hp} {N : List Str} {vs : List V} {ds : List D} (s : SameR G H) (nl : ∀ a ws, G a = some (.dT ws) → H a = some (.dT ws)) (r : RpA G vs ds) : Rel ⟨H, G, none, []⟩ (start N vs) G H (ds.map some ++ List.replicate (N.length - ds.length) none) [] := by
  refine ⟨fun _ _ e => e, s, .refl G, fun x e _ => e, ?_, fun i d e => ?_, fun i c e => (nomatch e), fun i j a h => absurd rfl h, fun k e => (nomatch e), fun a ws e _ => nl a ws e⟩
  · unfold L2.start
    rw [List.length_append, List.length_append, List.length_map, List.length_map, List.length_replicate, List.length_replicate, r.len]
  · unfold L2.start
    rw [r.len]
    exact gt_start r e
section
variable {P : Program} {w : World} {K : PySem.W.Frag} {mg : Str → Option Value} {base : Heap}
theorem fn_ok {x qual : Str} {st : Stmt} {f : Addr} {fd : FuncData} {ps : List Str} {k : Nat} (N : List Str) (φ : SM) (n : Nat) (F : FunD K x qual (defArgs st) (defBody st) (defScope st) [] [] f fd) (S : FnScope N ps (defScope st)) (hn : ps.length = n)
    (hb : ∀ (cdv : Value) (A : Around) (outer : List Env) (s : Shared) (H : Hp) (E : XK), Room k (A.deeper (envOfC qual (defScope st) s.heap.objs.size f cdv)) → ∃ t, DSs false (cxOf CX0 P w K mg base N qual (defScope st) f cdv A outer s H E).nox (defBody st) t φ) :
    FnOk P w K mg base CX0 (k + 1) f fd ps (spP n (runB N.length φ)) := by
  refine F.ok S (fun vs H Q E h => ?_) fun cdv A outer s H vs Q E hr h => ?_
  · rw [h.1, hn]
  · obtain ⟨t, ht⟩ := hb cdv A outer s H E hr
    refine ⟨t, PSs.nox ht.pss, ?_⟩
    obtain ⟨hlen, G, ds, d, sg, nl, r, e, q⟩ := h
    obtain ⟨o, e1, e2⟩ := bnd e
    refine ht.so _ _ G H _ _ o _ (fun _ => rfl) (rel_start (N := N) sg nl r) e1 ?_
    have ex : ∀ {σ : L2.St} {G2 H2 : Hp} {ρ : Rho} {μ : Mem}, Rel ⟨H, G, none, []⟩ σ G2 H2 ρ μ → Ext G H G2 H2 := fun R => ⟨R.bh, R.g0, R.gh, fun x gx hx => R.sep x gx hx, fun a ws ga _ => R.nl a ws ga List.not_mem_nil⟩
    cases o with
    | rt y μ2 =>
      cases e2
      exact fun v σ2 G2 H2 ρ2 R2 r2 => q v G2 H2 (ex R2) r2
    | nx ρ2 μ2 =>
      cases e2
      exact fun σ2 G2 H2 R2 => q _ G2 H2 (ex R2) rfl
    | rl x μ2 => cases e2
    | bk ρ2 μ2 => cases e2
    | ct ρ2 μ2 => cases e2
/-- a def by its name -/
def Has (P : Program) (w : World) (K : PySem.W.Frag) (mg : Str → Option Value) (base : Heap) (k : Nat) (x : Str) (n : Nat) (m : List D → Option D) : Prop :=
  ∃ (f : Addr) (fd : FuncData) (ps : List Str), FnOk P w K mg base CX0 k f fd ps (spP n m) ∧ mg x = some (.ref f) ∧ PySem.W.keepIn K (.ref f) = true ∧ Binds K fd ps []
theorem has_mk {x : Str} {f : Addr} {fd : FuncData} {ps : List Str} {k n : Nat} {m : List D → Option D} {a : Arguments} {bd : List Stmt} {sc : Scope} (F : FunD K x x a bd sc [] [] f fd) (ok : FnOk P w K mg base CX0 k f fd ps (spP n m)) (g : mg x = some (.ref f)) (b : Binds K fd ps []) : Has P w K mg base k x n m := ⟨f, fd, ps, ok, g, F.kp, b⟩
end
section
variable {X : Cx} {k k2 n : Nat} {m : List D → Option D} {x : Str} {p pos : Pos} {e : Expr} {es : List Expr} {t : TA} {ψ : AM}
theorem de_has (h : Has X.prog X.w X.K X.mg X.base k x n m) (hr : Room k2 X.A) (hg : Gl X x) (ha : DA false X (e :: es) t ψ) (hl : ALen ψ n) (hk : Nat.ble k k2 = true := by rfl) (hdb : (x == ("__debug__" : Str)) = false := by decide)
    (he : starEach (e :: es) X.env = (false, eval e X.env) :: starEach es X.env := by rfl) (hpl : (backTo pos (starEach es X.env)).any (·.1) = false := by rfl) :
    DE false X (.Call (.Name x p) (e :: es) [] pos) (tCall (spP n m) [] E0 t) (eCB m ψ) := by
  obtain ⟨f, fd, ps, ok, g, kp, b⟩ := h
  exact de_call ok (hr.mono (Nat.le_of_ble_eq_true hk)) hg g kp b pass0 ha hl hdb he hpl
theorem de_has0 (h : Has X.prog X.w X.K X.mg X.base k x 0 m) (hr : Room k2 X.A) (hg : Gl X x) (hk : Nat.ble k k2 = true := by rfl) (hdb : (x == ("__debug__" : Str)) = false := by decide) :
    DE false X (.Call (.Name x p) [] [] pos) (tCall (spP 0 m) [] E0 tNil) (eCB m aNil) := by
  obtain ⟨f, fd, ps, ok, g, kp, b⟩ := h
  exact de_call0 ok (hr.mono (Nat.le_of_ble_eq_true hk)) hg g kp b pass0 hdb
end
end VS
end
section
/-! VS8: owned cells read as data for the time of an expression -/
namespace VS
open PySem PySem.Spec PyProof.Rows L2
mutual
/-- no list (bl), no dict (bd) in it -/
def clean (bl bd : Bool) : D → Bool
  | .lst ds => match bl with
    | true => false
    | false => cleanA bl bd ds
  | .tup ds => cleanA bl bd ds
  | .dct ks => match bd with
    | true => false
    | false => cleanK bl bd ks
  | _ => true
def cleanA (bl bd : Bool) : List D → Bool
  | [] => true
  | d :: ds => match clean bl bd d with
    | true => cleanA bl bd ds
    | false => false
def cleanK (bl bd : Bool) : List (List Key × D) → Bool
  | [] => true
  | d :: ds => match clean bl bd d.2 with
    | true => cleanK bl bd ds
    | false => false
end
section
variable {G G2 : Hp} {bl bd : Bool} (hT : ∀ a vs, G a = some (.tup vs) → G2 a = some (.tup vs)) (hL : bl = false → ∀ a vs, G a = some (.lst vs) → G2 a = some (.lst vs)) (hD : bd = false → ∀ a ws, G a = some (.dT ws) → G2 a = some (.dT ws))
include hT hL hD
mutual
theorem Rp.clean : ∀ (d : D) (v : V), clean bl bd d = true → Rp G v d → Rp G2 v d
  | .non, _, _, h => h
  | .bl _, _, _, h => h
  | .int _, _, _, h => h
  | .str _, _, _, h => h
  | .lst ds, _, c, ⟨a, vs, e, g, l, r⟩ => by
    cases hb : bl with
    | true => rw [hb] at c; cases c
    | false =>
      refine ⟨a, vs, e, hL hb _ _ g, l, RpA.clean ds vs ?_ r⟩
      rw [hb] at c ⊢
      exact c
  | .tup ds, _, c, ⟨a, vs, e, g, l, r⟩ => ⟨a, vs, e, hT _ _ g, l, RpA.clean ds vs c r⟩
  | .dct ks, _, c, ⟨a, vs, e, g, l, r⟩ => by
    cases hb : bd with
    | true => rw [hb] at c; cases c
    | false =>
      refine ⟨a, vs, e, hD hb _ _ g, l, RpK.clean ks vs ?_ r⟩
      rw [hb] at c ⊢
      exact c
  | .opq _, _, _, h => h
theorem RpA.clean : ∀ (ds : List D) (vs : List V), cleanA bl bd ds = true → RpA G vs ds → RpA G2 vs ds
  | [], [], _, _ => trivial
  | d :: ds, v :: vs, c, h => by
    have c : (match VS.clean bl bd d with | true => cleanA bl bd ds | false => false) = true := c
    cases q : VS.clean bl bd d with
    | true =>
      rw [q] at c
      exact ⟨Rp.clean d v q h.1, RpA.clean ds vs c h.2⟩
    | false => rw [q] at c; cases c
  | [], _ :: _, _, h => h.elim
  | _ :: _, [], _, h => h.elim
theorem RpK.clean : ∀ (ds : List (List Key × D)) (vs : List (List Key × V)), cleanK bl bd ds = true → RpK G vs ds → RpK G2 vs ds
  | [], [], _, _ => trivial
  | d :: ds, v :: vs, c, h => by
    have c : (match VS.clean bl bd d.2 with | true => cleanK bl bd ds | false => false) = true := c
    cases q : VS.clean bl bd d.2 with
    | true =>
      rw [q] at c
      exact ⟨⟨h.1.1, Rp.clean d.2 v.2 q h.1.2⟩, RpK.clean ds vs c h.2⟩
    | false => rw [q] at c; cases c
  | [], _ :: _, _, h => h.elim
  | _ :: _, [], _, h => h.elim
end
end
/-- the frame with cells read as data; whether lists, dicts are among them -/
def borR : List Nat → Rho → Mem → Option Rho
  | [], ρ, _ => some ρ
  | i :: is, ρ, μ => match mget μ i with
    | some c => (borR is ρ μ).map fun r => put r i (some (cellD c))
    | none => none
def isLst : Cell → Bool
  | .lst _ => true
  | .dct _ => false
def borK (q : Cell → Bool) : List Nat → Mem → Bool
  | [], _ => false
  | i :: is, μ => match mget μ i with
    | some c => match q c with
      | true => true
      | false => borK q is μ
    | none => borK q is μ
theorem borK_of {q : Cell → Bool} {μ : Mem} : ∀ {is : List Nat}, borK q is μ = false → ∀ j ∈ is, ∀ c, mget μ j = some c → q c = false
  | [], _, j, hj, _, _ => absurd hj List.not_mem_nil
  | i :: is, h, j, hj, c, e => by
    have h : (match mget μ i with | some c => (match q c with | true => true | false => borK q is μ) | none => borK q is μ) = false := h
    cases qi : mget μ i with
    | none =>
      rw [qi] at h
      rcases List.mem_cons.mp hj with z | z
      · rw [z, qi] at e; cases e
      · exact borK_of h j z c e
    | some ci =>
      rw [qi] at h
      have h : (match q ci with | true => true | false => borK q is μ) = false := h
      cases qq : q ci with
      | true => rw [qq] at h; cases h
      | false =>
        rw [qq] at h
        rcases List.mem_cons.mp hj with z | z
        · rw [z, qi] at e; cases e; exact qq
        · exact borK_of h j z c e
def Ownd (σ : L2.St) (μ : Mem) (x : Addr) : Prop := ∃ j c, mget μ j = some c ∧ σ[j]? = some (some (.ref x))
def Bord (σ : L2.St) (μ : Mem) (is : List Nat) (x : Addr) : Prop := ∃ j ∈ is, ∃ c, mget μ j = some c ∧ σ[j]? = some (some (.ref x))
theorem Bord.ow {σ : L2.St} {μ : Mem} {is : List Nat} {x : Addr} (h : Bord σ μ is x) : Ownd σ μ x := let ⟨j, _, c, e, s⟩ := h; ⟨j, c, e, s⟩
open Classical in
noncomputable def borG (σ : L2.St) (μ : Mem) (is : List Nat) (G H : Hp) : Hp := fun x => if Bord σ μ is x then H x else G x
open Classical in
noncomputable def borB (σ : L2.St) (μ : Mem) (B H : Hp) : Hp := fun x => if Ownd σ μ x then H x else B x
open Classical in
noncomputable def borN (σ : L2.St) (μ : Mem) (is : List Nat) (G : Hp) : Hp := fun x => if Bord σ μ is x then none else G x
section
variable {b : Bs} {σ : L2.St} {G H G3 H3 : Hp} {ρ ρ' : Rho} {μ : Mem} {is : List Nat}
theorem borR_len : ∀ {is : List Nat} {ρ' : Rho}, borR is ρ μ = some ρ' → ρ'.length = ρ.length
  | [], ρ', h => by cases h; rfl
  | i :: is, ρ', h => by
    have h : (match mget μ i with | some c => (borR is ρ μ).map fun r => put r i (some (cellD c)) | none => none) = some ρ' := h
    split at h
    · obtain ⟨r, e1, e2⟩ := mpd h
      rw [← e2, put_len, borR_len e1]
    · cases h
theorem Rel.ownd (R : Rel b σ G H ρ μ) {x : Addr} (h : Ownd σ μ x) : (∃ o, H x = some o ∧ ∀ v, o ≠ .tup v) ∧ G x = none ∧ b.B x = none := by
  obtain ⟨j, c, e, s⟩ := h
  obtain ⟨a, s2, c1, ga, ba⟩ := R.own j c e
  rw [s] at s2
  cases s2
  refine ⟨?_, ga, ba⟩
  cases c with
  | lst xs => obtain ⟨vs, h, _⟩ := c1; exact ⟨_, h, fun v z => by cases z⟩
  | dct xs => obtain ⟨vs, h, _⟩ := c1; exact ⟨_, h, fun v z => by cases z⟩
theorem Rel.bor (R : Rel b σ G H ρ μ) (e : borR is ρ μ = some ρ') : Rel ⟨borB σ μ b.B H, borG σ μ is G H, none, b.lk⟩ σ (borG σ μ is G H) H ρ' [] ∧ Same G (borG σ μ is G H) := by
  have sg : Same G (borG σ μ is G H) := fun x o q => by
    unfold borG
    rw [if_neg (fun z => by rw [(R.ownd z.ow).2.1] at q; cases q)]
    exact q
  refine ⟨⟨fun x o q => ?_, fun x o q => ?_, .refl _, fun x q _ => q, ?_, ?_, fun j c q => (nomatch q), fun i j a q => absurd rfl q, fun k q => (nomatch q), fun x ws q n => ?_⟩, sg⟩
  · have q : borB σ μ b.B H x = some o := q
    unfold borB at q
    split at q
    · exact q
    · exact R.bh x o q
  · unfold borG at q
    split at q
    · exact .inl q
    · exact R.gh x o q
  · rw [borR_len e]; exact R.len
  · intro i d q
    have key : ∀ (is2 : List Nat) (ρ2 : Rho), (∀ j ∈ is2, j ∈ is) → borR is2 ρ μ = some ρ2 → gt ρ2 i = some d → ∃ v, σ[i]? = some (some v) ∧ Rp (borG σ μ is G H) v d := by
      intro is2
      induction is2 with
      | nil =>
        intro ρ2 _ h q
        cases h
        obtain ⟨v, ev, rv⟩ := R.dat i d q
        exact ⟨v, ev, Rp.up sg _ _ rv⟩
      | cons j is2 ih =>
        intro ρ2 hs h q
        have h : (match mget μ j with | some c => (borR is2 ρ μ).map fun r => put r j (some (cellD c)) | none => none) = some ρ2 := h
        cases qj : mget μ j with
        | none => rw [qj] at h; cases h
        | some c =>
          rw [qj] at h
          obtain ⟨r, e1, e2⟩ := mpd h
          subst e2
          by_cases hij : i = j
          · subst hij
            obtain ⟨e3, _⟩ := gt_put_same q
            cases e3
            obtain ⟨a, s, c1, ga, ba⟩ := R.own i c qj
            obtain ⟨o, ho, hr⟩ := c1.rp
            refine ⟨_, s, hr _ sg ?_⟩
            unfold borG
            rw [if_pos ⟨i, hs i List.mem_cons_self, c, qj, s⟩]
            exact ho
          · rw [gt_put_ne hij] at q
            exact ih r (fun k hk => hs k (List.mem_cons_of_mem _ hk)) e1 q
    exact key is ρ' (fun _ h => h) e q
  · unfold borG at q
    split at q
    · exact q
    · exact R.nl x ws q n
theorem Rel.unbor (R : Rel b σ G H ρ μ) (R3 : Rel ⟨borB σ μ b.B H, borG σ μ is G H, none, b.lk⟩ σ G3 H3 ρ' []) : Rel b σ (borN σ μ is G3) H3 ρ μ ∧ Same G (borN σ μ is G3) ∧
    (∀ a vs, G3 a = some (.tup vs) → borN σ μ is G3 a = some (.tup vs)) ∧ (borK isLst is μ = false → ∀ a vs, G3 a = some (.lst vs) → borN σ μ is G3 a = some (.lst vs)) ∧ (borK (fun c => !isLst c) is μ = false → ∀ a ws, G3 a = some (.dT ws) → borN σ μ is G3 a = some (.dT ws)) := by
  have sg : Same G (borG σ μ is G H) := fun x o q => by
    unfold borG
    rw [if_neg (fun z => by rw [(R.ownd z.ow).2.1] at q; cases q)]
    exact q
  have s4 : Same G (borN σ μ is G3) := fun x o q => by
    unfold borN
    rw [if_neg (fun z => by rw [(R.ownd z.ow).2.1] at q; cases q)]
    exact R3.g0 x o (sg x o q)
  have hat : ∀ {x : Addr}, Ownd σ μ x → H3 x = H x := fun {x} z => by
    obtain ⟨⟨o, ho, _⟩, _, _⟩ := R.ownd z
    rw [ho]
    refine R3.bh x o ?_
    show borB σ μ b.B H x = some o
    unfold borB
    rw [if_pos z]
    exact ho
  have g3 : ∀ {x : Addr}, Bord σ μ is x → ∃ o, H x = some o ∧ G3 x = some o := fun {x} z => by
    obtain ⟨⟨o, ho, _⟩, _, _⟩ := R.ownd z.ow
    refine ⟨o, ho, R3.g0 x o ?_⟩
    show borG σ μ is G H x = some o
    unfold borG
    rw [if_pos z]
    exact ho
  refine ⟨⟨fun x o q => ?_, fun x o q => ?_, R.g0.trans s4, fun x q n => ?_, R.len, fun i d q => ?_, fun j c q => ?_, R.dis, R.pin, fun x ws q n => ?_⟩, s4, fun a vs q => ?_, fun hb a vs q => ?_, fun hb a ws q => ?_⟩
  · refine R3.bh x o ?_
    show borB σ μ b.B H x = some o
    unfold borB
    rw [if_neg (fun z => by rw [(R.ownd z).2.2] at q; cases q)]
    exact q
  · unfold borN at q
    split at q
    · cases q
    · exact R3.gh x o q
  · unfold borN
    split
    · rfl
    · rename_i hx
      refine R3.sep x ?_ ?_
      · show borG σ μ is G H x = none
        unfold borG
        rw [if_neg hx]
        exact R.sep x q n
      · show NT (borB σ μ b.B H x)
        unfold borB
        rw [if_neg (fun z => n.1 (R.ownd z).2.2)]
        exact n
  · obtain ⟨v, ev, rv⟩ := R.dat i d q
    exact ⟨v, ev, Rp.up s4 _ _ rv⟩
  · obtain ⟨a, s, c1, ga, ba⟩ := R.own j c q
    have ow : Ownd σ μ a := ⟨j, c, q, s⟩
    refine ⟨a, s, c1.up s4 (hat ow), ?_, ba⟩
    unfold borN
    split
    · rfl
    · rename_i hx
      refine R3.sep a ?_ ?_
      · show borG σ μ is G H a = none
        unfold borG
        rw [if_neg hx]
        exact ga
      · show NT (borB σ μ b.B H a)
        unfold borB
        rw [if_pos ow]
        exact c1.nt
  · unfold borN at q
    split at q
    · cases q
    · exact R3.nl x ws q n
  · unfold borN
    rw [if_neg (fun z => by
      obtain ⟨o, ho, g⟩ := g3 z
      rw [q] at g
      cases g
      obtain ⟨⟨o2, ho2, nt⟩, _, _⟩ := R.ownd z.ow
      rw [ho] at ho2
      cases ho2
      exact nt _ rfl)]
    exact q
  · unfold borN
    rw [if_neg (fun z => by
      obtain ⟨o, ho, g⟩ := g3 z
      rw [q] at g
      cases g
      obtain ⟨j, hj, c, ec, s⟩ := z
      have qc := borK_of hb j hj c ec
      obtain ⟨a2, s2, c1, _⟩ := R.own j c ec
      rw [s] at s2
      cases s2
      cases c with
      | lst xs => cases qc
      | dct xs =>
        obtain ⟨ws, h, _⟩ := c1
        rw [ho] at h
        cases h)]
    exact q
  · unfold borN
    rw [if_neg (fun z => by
      obtain ⟨o, ho, g⟩ := g3 z
      rw [q] at g
      cases g
      obtain ⟨j, hj, c, ec, s⟩ := z
      have qc := borK_of hb j hj c ec
      obtain ⟨a2, s2, c1, _⟩ := R.own j c ec
      rw [s] at s2
      cases s2
      cases c with
      | dct xs => cases qc
      | lst xs =>
        obtain ⟨ws, h, _⟩ := c1
        rw [ho] at h
        cases h)]
    exact q
end
def eBor (is : List Nat) (φ : EM) : EM := fun ρ μ => (borR is ρ μ).bind fun ρ' => (φ ρ' []).bind fun p => match clean (borK isLst is μ) (borK (fun c => !isLst c) is μ) p.1 with
  | true => some (p.1, μ)
  | false => none
def mBor (is : List Nat) (φ : TM) : TM := fun ρ μ => (borR is ρ μ).bind fun ρ' => (φ ρ' []).map fun p => (p.1, μ)
def lBor (is : List Nat) (φ : AM) : AM := fun ρ μ => (borR is ρ μ).bind fun ρ' => (φ ρ' []).bind fun p => match cleanA (borK isLst is μ) (borK (fun c => !isLst c) is μ) p.1 with
  | true => some (p.1, μ)
  | false => none
def cBor (is : List Nat) (φ : Rho → Mem → Option (KD × Mem)) : Rho → Mem → Option (KD × Mem) := fun ρ μ => (borR is ρ μ).bind fun ρ' => (φ ρ' []).bind fun p => match cleanK (borK isLst is μ) (borK (fun c => !isLst c) is μ) p.1 with
  | true => some (p.1, μ)
  | false => none
section
variable {l : Bool} {X : Cx} {e : Expr} {es : List Expr} {te : TE} {ta : TA} {tt : TT} {ε : EM} {τ : TM} {α : AM} {κ : Rho → Mem → Option (KD × Mem)}
theorem de_bor (is : List Nat) (h : DE l X e te ε) : DE l X e te (eBor is ε) := ⟨h.pe, fun b σ G H ρ μ d μ2 Q hl R e k => by
  obtain ⟨ρ', e1, e2⟩ := bnd e
  obtain ⟨⟨d', μ3⟩, e3, e4⟩ := bnd e2
  obtain ⟨R1, _⟩ := R.bor e1
  have e4 : (match clean (borK isLst is μ) (borK (fun c => !isLst c) is μ) d' with | true => some (d', μ) | false => none) = some (d, μ2) := e4
  split at e4
  · rename_i hc
    cases e4
    -- nothing is owned behind it
    refine h.so ⟨borB σ μ b.B H, borG σ μ is G H, none, b.lk⟩ σ _ H ρ' [] d μ3 _ hl R1 e3 fun v G3 H3 R3 s3 r3 => ?_
    have R3' : Rel ⟨borB σ μ b.B H, borG σ μ is G H, none, b.lk⟩ σ G3 H3 ρ' [] := ⟨R3.bh, R3.gh, R3.g0, R3.sep, R3.len, R3.dat, fun j c q => (nomatch q), fun i j a q => absurd rfl q, fun k q => (nomatch q), R3.nl⟩
    obtain ⟨R4, s4, h1, h2, h3⟩ := R.unbor R3'
    exact k v _ H3 R4 s4 (Rp.clean h1 h2 h3 d v hc r3)
  · cases e4⟩
theorem dt_bor (is : List Nat) (h : DT l X e tt τ) : DT l X e tt (mBor is τ) := ⟨h.pt, fun b σ G H ρ μ c μ2 Q hl R e k => by
  obtain ⟨ρ', e1, e2⟩ := bnd e
  obtain ⟨⟨d', μ3⟩, e3, e4⟩ := mpd e2
  cases e4
  obtain ⟨R1, _⟩ := R.bor e1
  refine h.so ⟨borB σ μ b.B H, borG σ μ is G H, none, b.lk⟩ σ _ H ρ' [] _ μ3 _ hl R1 e3 fun G3 H3 R3 s3 => ?_
  have R3' : Rel ⟨borB σ μ b.B H, borG σ μ is G H, none, b.lk⟩ σ G3 H3 ρ' [] := ⟨R3.bh, R3.gh, R3.g0, R3.sep, R3.len, R3.dat, fun j c q => (nomatch q), fun i j a q => absurd rfl q, fun k q => (nomatch q), R3.nl⟩
  obtain ⟨R4, s4, h1, h2, h3⟩ := R.unbor R3'
  exact k _ H3 R4 s4⟩
theorem da_bor (is : List Nat) (h : DA l X es ta α) : DA l X es ta (lBor is α) := ⟨h.pa, fun b σ G H ρ μ d μ2 Q hl R e k => by
  obtain ⟨ρ', e1, e2⟩ := bnd e
  obtain ⟨⟨d', μ3⟩, e3, e4⟩ := bnd e2
  obtain ⟨R1, _⟩ := R.bor e1
  have e4 : (match cleanA (borK isLst is μ) (borK (fun c => !isLst c) is μ) d' with | true => some (d', μ) | false => none) = some (d, μ2) := e4
  split at e4
  · rename_i hc
    cases e4
    refine h.so ⟨borB σ μ b.B H, borG σ μ is G H, none, b.lk⟩ σ _ H ρ' [] d μ3 _ hl R1 e3 fun v G3 H3 R3 s3 r3 => ?_
    have R3' : Rel ⟨borB σ μ b.B H, borG σ μ is G H, none, b.lk⟩ σ G3 H3 ρ' [] := ⟨R3.bh, R3.gh, R3.g0, R3.sep, R3.len, R3.dat, fun j c q => (nomatch q), fun i j a q => absurd rfl q, fun k q => (nomatch q), R3.nl⟩
    obtain ⟨R4, s4, h1, h2, h3⟩ := R.unbor R3'
    exact k v _ H3 R4 s4 (RpA.clean h1 h2 h3 d v hc r3)
  · cases e4⟩
theorem dl_bor (is : List Nat) (h : DL l X e te α) : DL l X e te (lBor is α) := ⟨h.pe, fun b σ G H ρ μ d μ2 Q hl R e k => by
  obtain ⟨ρ', e1, e2⟩ := bnd e
  obtain ⟨⟨d', μ3⟩, e3, e4⟩ := bnd e2
  obtain ⟨R1, _⟩ := R.bor e1
  have e4 : (match cleanA (borK isLst is μ) (borK (fun c => !isLst c) is μ) d' with | true => some (d', μ) | false => none) = some (d, μ2) := e4
  split at e4
  · rename_i hc
    cases e4
    refine h.so ⟨borB σ μ b.B H, borG σ μ is G H, none, b.lk⟩ σ _ H ρ' [] d μ3 _ hl R1 e3 fun a vs G3 H3 R3 s3 ha hz r3 ga ba hn => ?_
    have R3' : Rel ⟨borB σ μ b.B H, borG σ μ is G H, none, b.lk⟩ σ G3 H3 ρ' [] := ⟨R3.bh, R3.gh, R3.g0, R3.sep, R3.len, R3.dat, fun j c q => (nomatch q), fun i j a q => absurd rfl q, fun k q => (nomatch q), R3.nl⟩
    obtain ⟨R4, s4, h1, h2, h3⟩ := R.unbor R3'
    have no : ¬ Ownd σ μ a := fun z => by
      have ba : borB σ μ b.B H a = none := ba
      unfold borB at ba
      rw [if_pos z] at ba
      obtain ⟨⟨o, ho, _⟩, _⟩ := R.ownd z
      rw [ho] at ba
      cases ba
    refine k a vs _ H3 R4 s4 ha hz (RpA.clean h1 h2 h3 d vs hc r3) ?_ ?_ fun j c q z => no ⟨j, c, q, z⟩
    · unfold borN
      split
      · rfl
      · exact ga
    · have ba : borB σ μ b.B H a = none := ba
      unfold borB at ba
      rw [if_neg no] at ba
      exact ba
  · cases e4⟩
theorem dc_bor (is : List Nat) (h : DC l X e te κ) : DC l X e te (cBor is κ) := ⟨h.pe, fun b σ G H ρ μ d μ2 Q hl R e k => by
  obtain ⟨ρ', e1, e2⟩ := bnd e
  obtain ⟨⟨d', μ3⟩, e3, e4⟩ := bnd e2
  obtain ⟨R1, _⟩ := R.bor e1
  have e4 : (match cleanK (borK isLst is μ) (borK (fun c => !isLst c) is μ) d' with | true => some (d', μ) | false => none) = some (d, μ2) := e4
  split at e4
  · rename_i hc
    cases e4
    refine h.so ⟨borB σ μ b.B H, borG σ μ is G H, none, b.lk⟩ σ _ H ρ' [] d μ3 _ hl R1 e3 fun a vs G3 H3 R3 s3 ha hz r3 ga ba hn => ?_
    have R3' : Rel ⟨borB σ μ b.B H, borG σ μ is G H, none, b.lk⟩ σ G3 H3 ρ' [] := ⟨R3.bh, R3.gh, R3.g0, R3.sep, R3.len, R3.dat, fun j c q => (nomatch q), fun i j a q => absurd rfl q, fun k q => (nomatch q), R3.nl⟩
    obtain ⟨R4, s4, h1, h2, h3⟩ := R.unbor R3'
    have no : ¬ Ownd σ μ a := fun z => by
      have ba : borB σ μ b.B H a = none := ba
      unfold borB at ba
      rw [if_pos z] at ba
      obtain ⟨⟨o, ho, _⟩, _⟩ := R.ownd z
      rw [ho] at ba
      cases ba
    refine k a vs _ H3 R4 s4 ha hz (RpK.clean h1 h2 h3 d vs hc r3) ?_ ?_ fun j c q z => no ⟨j, c, q, z⟩
    · unfold borN
      split
      · rfl
      · exact ga
    · have ba : borB σ μ b.B H a = none := ba
      unfold borB at ba
      rw [if_neg no] at ba
      exact ba
  · cases e4⟩
end
end VS
end
section
/-! VL1: rules of built-ins that the layer lacks: sorted of a tuple, of a dict's tuple keys; dict(d), d.pop(k), {k: v for ..} with tuple keys -/
namespace VL
open PySem PySem.Spec PyProof.Rows L2 SrtO
section
variable {prog : Program} {w : World} {A : Around} {E : Value → Shared → Prop} {s : Shared}
/-- sorted(v), whatever v gives -/
theorem sorted_gen {v : Value} {ltv : Value → Value → Bool} {Q : Value → Shared → Prop} (O : Swo ltv) (C : List Value → Prop)
    (hc : ∀ R : List Value → Shared → Prop, (∀ (h' : Heap) (tk : Nat) (vs : List Value), (∀ b o, s.heap.get? b = some o → h'.get? b = some o) → C vs → R vs { s with heap := h', toks := tk }) → wpAny (model prog w) A.in1 (collect v) R E s)
    (hz : ∀ vs, C vs → vs.length ≤ sizeLine)
    (hS : ∀ (vs : List Value) (h₁ : Heap) (tk : Nat) (a : Addr), C vs → 2 ≤ vs.length → h₁.get? a = some (seqObj "list" vs.toArray 0) → (∀ b o, s.heap.get? b = some o → b ≠ a ∧ h₁.get? b = some o) → SortableO prog w A.in1.in1 { s with heap := h₁, toks := tk } a vs ltv)
    (h : ∀ (vs out : List Value) (h' h2 : Heap) (tk : Nat) (d : Addr), C vs → Srtd ltv out → Stb ltv out vs → (∀ b o, s.heap.get? b = some o → h'.get? b = some o) → h'.objs.size ≤ d → (∀ b o, h'.get? b = some o → h2.get? b = some o) → (∃ n, h2.get? d = some (seqObj "list" out.toArray n)) → Q (.ref d) { s with heap := h2, toks := tk }) :
    wpAny (model prog w) A (call (.builtin "sorted") [v]) Q E s := by
  refine Calls.call_function_entry kind_sorted plain_sorted entry_sorted (args_sorted1 _) ?_
  unfold Builtin.«sorted»
  refine wpAny_bind (m := checkCount "sorted" 1 1 _) (wpAny_pure ?_)
  refine wpAny_bind (hc _ fun h' tk vs hk hC => ?_)
  refine wpAny_bind (wpAny_newList ?_ (hz vs hC))
  have hoL : (h'.push (seqObj "list" vs.toArray 0)).get? h'.objs.size = some (seqObj "list" vs.toArray 0) := Heap.get?_push_size _ rfl
  have keep : ∀ b o, s.heap.get? b = some o → b ≠ h'.objs.size ∧ (h'.push (seqObj "list" vs.toArray 0)).get? b = some o := fun b o q => ⟨Nat.ne_of_lt (Heap.lt_size (hk b o q)), Heap.get?_push_of_some _ (hk b o q)⟩
  show wpAny _ _ _ _ _ { s with heap := h'.push (seqObj "list" vs.toArray 0), toks := tk }
  refine wpAny_bind (wpAny_holding (wpAny_call_entry slot_list_sort ⟨_, hoL, rfl⟩ entry_list_sort (list_sort_ord (s := { s with heap := h'.push (seqObj "list" vs.toArray 0), toks := tk }) O hoL (hz vs hC) (fun h2 => hS vs _ tk _ hC h2 hoL keep) fun out hs hb => ⟨_, rfl, ?_⟩) (args_list_sort _)))
  obtain ⟨e', he'⟩ := PyProof.Rows.sortedHeap_at (vs := vs) (out := out.toArray) hoL
  refine wpAny_pure ⟨_, rfl, h vs out h' _ tk _ hC hs hb hk (Nat.le_refl _) (fun b o e => ?_) ⟨e', he'⟩⟩
  have hb : b < h'.objs.size := Heap.lt_size e
  rw [PyProof.Rows.sortedHeap_old (Nat.ne_of_lt hb) (by rw [size_push']; exact Nat.lt_succ_of_lt hb)]
  exact Heap.get?_push_of_some _ e
end
section
variable {X : Cx}
/-- sorted(t), a tuple of ints -/
def rSortTup (K : PySem.W.Frag) : List V → Hp → VK → Prop := fun vs H Q => ∃ (a : Addr) (ns : List Int), vs = [V.ref a] ∧ SqT K H a (ns.map V.int) ∧
  ∀ (ns' : List Int) (p : Addr), ns'.Perm ns → ns'.Pairwise (· ≤ ·) → H p = none → Q (.ref p) (upd H p (.lst (ns'.map V.int)))
theorem cr_sortTup : CallR X (.builtin "sorted") (rSortTup X.K) := by
  intro pins s σ H vs us Q I r h
  obtain ⟨a, ns, rfl, hs, q⟩ := h
  obtain ⟨its, rv, p, hz⟩ := I.tuple hs
  rw [Vals.ref1 r]
  have hi := rv.ints
  have hz' : its.length ≤ sizeLine := by rw [← rv.length]; exact hz
  obtain ⟨o, ho, hc, n, hd⟩ := id p
  refine sorted_gen swo_int (fun vs => vs = its) (fun R hR => ?_) (fun vs e => by rw [e]; exact hz') (fun vs h₁ tk a' e h2 _ _ => by rw [e] at h2 ⊢; exact ints_sortable hi h2) fun vs out h' h2 tk d e h1 hb hk hdd hk2 ⟨n2, hn⟩ => ?_
  · exact wpAny_collect_seq a (.inr rfl) ho hc hd (fun h' hk => by
      rw [show its.toArray.toList = its by simp]
      exact hR h' s.toks its hk rfl) (by simpa using hz')
  · subst e
    obtain ⟨k1, k2, k3⟩ := ints_out hi h1 hb
    have hlen : ((out.map iv).map V.int).length ≤ sizeLine := by
      rw [List.length_map, k2.length_eq]
      rw [List.length_map] at hz
      exact hz
    have I1 : Inv X pins σ H { s with heap := h', toks := tk } := I.kept hk
    exact ⟨.ref d, upd H d (.lst ((out.map iv).map V.int)), I1.laid (t' := tk) hk2 hdd ⟨hlen, out, n2, vals_of_ints k1, hn⟩, rfl, q _ _ k2 k3 (I1.hok.fresh hdd)⟩
/-- the pair of ints that lies at v -/
def kH (H : Hp) (v : V) : Int × Int := match v with
  | .ref t => match H t with
    | some (.tup [.int i, .int j]) => (i, j)
    | _ => (0, 0)
  | _ => (0, 0)
theorem kH_of {H : Hp} {t : Addr} {i j : Int} (h : H t = some (.tup [.int i, .int j])) : kH H (.ref t) = (i, j) := by
  show (match H t with | some (.tup [.int i, .int j]) => (i, j) | _ => (0, 0)) = (i, j)
  rw [h]
/-- sorted(d), a dict whose keys are pairs of ints: bs the key tuples in their order -/
def rSortDT : List V → Hp → VK → Prop := fun vs H Q => ∃ (a : Addr) (kvs : List (List Key × V)), vs = [V.ref a] ∧ Rd H a (.dT kvs) ∧ (∀ p ∈ kvs, ∃ i j : Int, p.1 = [Sum.inl i, Sum.inl j]) ∧
  ∀ (bs : List Addr), IsKeys H kvs bs → ∀ (ys : List V) (p : Addr), Srtd (ltP (kH H)) ys → ys.Perm (bs.map V.ref) → H p = none → Q (.ref p) (upd H p (.lst ys))
theorem isKeys_mem {H : Hp} {kvs : List (List Key × V)} {bs : List Addr} (h : IsKeys H kvs bs) (hp : ∀ p ∈ kvs, ∃ i j : Int, p.1 = [Sum.inl i, Sum.inl j]) : ∀ b ∈ bs, ∃ i j : Int, H b = some (.tup [.int i, .int j]) := by
  unfold IsKeys at h
  induction h with
  | nil => intro b hb; exact nomatch hb
  | @cons p b ps bs h1 t ih =>
    intro c hc
    rcases List.mem_cons.mp hc with e | hc
    · subst e
      obtain ⟨i, j, e⟩ := hp p List.mem_cons_self
      rw [e] at h1
      exact ⟨i, j, h1⟩
    · exact ih (fun p hq => hp p (List.mem_cons_of_mem _ hq)) c hc
theorem acc_keys {K : Type} [DecidableEq K] {P : Program} {w : World} {knd : HeapKind P w K} {ks : List (K × Addr × Value)} {es : Array DictEntry} {acc : Array Value} (he : es.toList = ks.map (entryOfKey knd)) (it : ItemsOf (fun i v => ∃ en : DictEntry, es[i]? = some en ∧ v = en.key) acc es.size) : acc.toList = ks.map fun x => Value.ref x.2.1 := by
  have l1 : es.size = ks.length := size_of_entries he
  have hl : acc.toList.length = ks.length := by rw [Array.length_toList, it.1]; exact l1
  apply List.ext_getElem?
  intro j
  rw [List.getElem?_map]
  cases hj : acc.toList[j]? with
  | none =>
    have h1 := List.getElem?_eq_none_iff.mp hj
    rw [List.getElem?_eq_none (by omega)]
    all_goals rfl
  | some v =>
    obtain ⟨en, hen, hv⟩ := it.2 j v (by rw [← Array.getElem?_toList]; exact hj)
    have qe := entry_at he j
    rw [hen] at qe
    cases hb : ks[j]? with
    | none =>
      rw [hb] at qe
      exact nomatch (show some en = none from qe)
    | some b =>
      rw [hb] at qe
      have e2 : en = entryOfKey knd b := Option.some.inj qe
      rw [hv, e2]
      all_goals rfl
theorem cr_sortDT (hcalm : X.calm = true) : CallR X (.builtin "sorted") rSortDT := by
  intro pins s σ H vs us Q I r h
  obtain ⟨a, kvs, rfl, hd, hkeys, q⟩ := h
  rw [Vals.ref1 r]
  obtain ⟨z, hs, ks, pr, o, es, ep, ho, hx, hdt, he, hn⟩ := (show ObjOk X.prog X.w H s.heap a (.dT kvs) from hd.ok I.hok)
  have l1 : es.size = ks.length := size_of_entries he
  have l2 : kvs.length = ks.length := Paired.length pr
  have hz : ks.length ≤ sizeLine := by rw [← l2]; exact z
  have hK : IsKeys H kvs (ks.map fun x => x.2.1) := isKeys_of pr
  have hm := isKeys_mem hK hkeys
  have pair : ∀ v ∈ (ks.map fun x => Value.ref x.2.1), Srt.IsPair s.heap v (kH H (backV v)).1 (kH H (backV v)).2 := fun v hv => by
    obtain ⟨x, hx, rfl⟩ := List.mem_map.mp hv
    obtain ⟨i, j, ht⟩ := hm x.2.1 (List.mem_map.mpr ⟨x, hx, rfl⟩)
    have e : kH H (backV (Value.ref x.2.1)) = (i, j) := kH_of ht
    rw [e]
    obtain ⟨_, its2, r2, o, ho, hc, n, hd⟩ := I.hok _ _ ht
    obtain ⟨u1, u2, rfl, ri, rj⟩ := vals2 r2
    obtain ⟨t1, rfl⟩ := ri
    obtain ⟨t2, rfl⟩ := rj
    exact ⟨x.2.1, o, t1, t2, n, rfl, ho, hc, hd⟩
  refine sorted_gen (swo_lex fun u => kH H (backV u)) (fun vs => vs = ks.map fun x => Value.ref x.2.1) (fun R hR => ?_) (fun vs e => by rw [e, List.length_map]; exact hz) (fun vs h₁ tk a' e h2 ha kk => ?_) fun vs out h' h2 tk d e h1 hb hk hdd hk2 ⟨n2, hn2⟩ => ?_
  · refine PySem.W.kdu_collect (A := X.A.in1) (kdl_raw hs hx hdt) (I.ok.hd hcalm) ho (by omega) fun h' tk acc hk hacc => ?_
    exact hR h' tk acc.toList hk (acc_keys he hacc)
  · subst e
    refine pairs_sortableO (s := { s with heap := h₁, toks := tk }) (by omega) (fun v hm => (pair v hm).keeps fun b o e _ => (kk b o e).2) fun o e => ?_
    have e' : some o = some (seqObj "list" (ks.map fun x => Value.ref x.2.1).toArray 0) := e.symm.trans ha
    cases e'
    intro c
    exact absurd (Value.type.inj c) (by decide)
  · subst e
    have h3 : ∀ u ∈ out, ∃ a, u = Value.ref a := fun u hu => by
      obtain ⟨x, _, e⟩ := List.mem_map.mp (hb.perm.mem_iff.mp hu)
      exact ⟨_, e.symm⟩
    have hp : (out.map backV).Perm ((ks.map fun x => x.2.1).map V.ref) := by
      have e := hb.perm.map backV
      rw [List.map_map] at e ⊢
      exact e
    have I1 : Inv X pins σ H { s with heap := h', toks := tk } := I.kept hk
    refine ⟨.ref d, upd H d (.lst (out.map backV)), I1.laid (t' := tk) hk2 hdd ⟨?_, out, n2, vals_back h3, hn2⟩, rfl, q _ hK _ d (srtd_map h1) hp (I1.hok.fresh hdd)⟩
    rw [hp.length_eq, List.length_map, List.length_map]
    exact hz
/-! ### dict(d) -/
theorem call_dictH {K : Type} [DecidableEq K] {prog : Program} {w : World} {knd : HeapKind prog w K} {A : Around} {E : Value → Shared → Prop} {s : Shared} {o : Addr} {more : List (K × Addr × Value)} {Q : Value → Shared → Prop} (hu : knd.room A.in1.in1) (hoS : (o == sysModules) = false) (ho : s.heap.DictOfH knd o more)
    (hap : (∀ x ∈ more, s.TypeIs (.ref x.2.1) "tuple") ∧ (more.map fun x => knd.hash x.1).Nodup) (hst : ∀ h', (∀ b o, s.heap.get? b = some o → h'.get? b = some o) → ∀ x ∈ more, knd.is h' x.1 x.2.1) (hsz : more.length ≤ sizeLine)
    (h : ∀ h', h'.DictOfH knd s.heap.objs.size more → Heap.SameBut s.heap.objs.size (s.heap.push { cls := .type "dict", data := .dict #[] }) h' → Q (.ref s.heap.objs.size) { s with heap := h' }) :
    wpAny (model prog w) A (call (.type "dict") [.ref o]) Q E s := by
  refine callType_codes (Q₁ := fun obj s₁ => obj = .ref s.heap.objs.size ∧ s₁ = { s with heap := s.heap.push { cls := .type "dict", data := .dict #[] } }) PySem.F.kt_called_dict (PySem.F.kt_typeCall_dict_1 _) PySem.F.entry_dict_init (kt_code_dict_new _ ⟨rfl, rfl⟩) ?_
  rintro obj s₁ ⟨rfl, rfl⟩
  have keep : ∀ b ob, s.heap.get? b = some ob → (s.heap.push { cls := .type "dict", data := .dict #[] }).get? b = some ob := fun b ob e => Heap.get?_push_of_some _ e
  have hnew : (s.heap.push { cls := .type "dict", data := .dict #[] }).DictOfH knd s.heap.objs.size [] := ⟨_, #[], 0, Heap.get?_push_size _ rfl, ⟨rfl, rfl, rfl⟩, rfl, rfl, (fun x hx => absurd hx List.not_mem_nil), List.nodup_nil⟩
  have ho' : (s.heap.push { cls := .type "dict", data := .dict #[] }).DictOfH knd o more := by
    obtain ⟨ob, es, ep, h1, h2, h3, h4, h5, h6⟩ := ho
    exact ⟨ob, es, ep, keep _ _ h1, h2, h3, h4, hst _ keep, h6⟩
  have hdo : s.heap.objs.size ≠ o := by
    obtain ⟨_, _, _, hg, _⟩ := ho
    exact fun e => absurd (Heap.lt_size hg) (by rw [e]; exact Nat.lt_irrefl _)
  refine ⟨hnew.typeIs, PySem.F.args_dict_init_2 _ _, ?_⟩
  unfold Builtin.«dict.__init__»
  refine wpAny_bind ?_
  unfold Builtin.Dict.selfAndRest
  refine wpAny_bind (wpAny_notOrdered_dict hnew.typeIs ?_)
  show wpAny _ _ (pure (s.heap.objs.size, [Value.ref o])) _ _ _
  refine wpAny_pure ?_
  show wpAny _ _ (Builtin.Dict.updateFrom "dict.__init__" s.heap.objs.size (.ref o) [] .none) _ _ _
  refine wpAny_mono (updateFrom_dictH (A := A.in1) (R := fun q s' => q = .ok (.ret .none) ∧ ∃ h', s' = { s with heap := h' } ∧ h'.DictOfH knd s.heap.objs.size more ∧ Heap.SameBut s.heap.objs.size (s.heap.push { cls := .type "dict", data := .dict #[] }) h') .none hu hdo hoS hnew ho' (.inr ⟨fun x hx => ?_, hap.2⟩) (by simpa using hsz) fun h' hd' _ hs' => ?_) (fun fin s' x => ?_) fun e s' x => ?_
  · obtain ⟨ob, e, c⟩ := hap.1 x hx
    exact ⟨ob, keep _ _ e, c⟩
  · rw [storedAllH_nil_of_nodup more ho.nodup] at hd'
    exact ⟨rfl, h', rfl, hd', hs'⟩
  · cases fin with
    | done f =>
      obtain ⟨e, h', rfl, hd', hs'⟩ := x
      cases e
      exact ⟨rfl, h h' hd' hs'⟩
    | again c' =>
      refine ⟨x.1, codeAny_mono x.2 fun r s'' hr => ?_⟩
      obtain ⟨rfl, h', rfl, hd', hs'⟩ := hr
      exact ⟨rfl, h h' hd' hs'⟩
  · exact absurd x.1 (by simp)
/-- keys: pairs of ints, 0 to 7 -/
def Small2 (k : List Key) : Prop := ∃ i j : Nat, k = [Sum.inl (i : Int), Sum.inl (j : Int)] ∧ i < 8 ∧ j < 8
def h2 (n : Nat) : Int := reduceHash (Builtin.Tuple.tupleHashOf [hashInt ((n / 8 : Nat) : Int), hashInt ((n % 8 : Nat) : Int)])
theorem h2_nodup : ((List.range 64).map h2).Nodup := by decide +kernel
theorem h2_inj {a b : Nat} (ha : a < 64) (hb : b < 64) (e : h2 a = h2 b) : a = b := by
  have h := h2_nodup
  rw [List.nodup_iff_pairwise_ne, List.pairwise_iff_getElem] at h
  have la : ((List.range 64).map h2).length = 64 := by simp
  rcases Nat.lt_trichotomy a b with q | q | q
  · exact absurd (by rw [List.getElem_map, List.getElem_map, List.getElem_range, List.getElem_range]; exact e) (h a b (by rw [la]; exact ha) (by rw [la]; exact hb) q)
  · exact q
  · exact absurd (by rw [List.getElem_map, List.getElem_map, List.getElem_range, List.getElem_range]; exact e.symm) (h b a (by rw [la]; exact hb) (by rw [la]; exact ha) q)
theorem small_hash {P : Program} {w : World} {k l : List Key} (hk : Small2 k) (hl : Small2 l) (e : (tupleKind (mixKind P w)).hash k = (tupleKind (mixKind P w)).hash l) : k = l := by
  obtain ⟨i, j, rfl, hi, hj⟩ := hk
  obtain ⟨i2, j2, rfl, hi2, hj2⟩ := hl
  have key : ∀ i j : Nat, j < 8 → (tupleKind (mixKind P w)).hash [Sum.inl (i : Int), Sum.inl (j : Int)] = h2 (8 * i + j) := fun i j hj => by
    unfold h2
    rw [show (8 * i + j) / 8 = i by omega, show (8 * i + j) % 8 = j by omega]
    rfl
  rw [key i j hj, key i2 j2 hj2] at e
  have q := h2_inj (by omega) (by omega) e
  have e1 : i = i2 := by omega
  have e2 : j = j2 := by omega
  rw [e1, e2]
/-- dict(d), d's keys pairs of ints below 8: a copy -/
def rDictT : List V → Hp → VK → Prop := fun xs H Q => ∃ (a : Addr) (kvs : List (List Key × V)), xs = [.ref a] ∧ Rd H a (.dT kvs) ∧ (∀ p ∈ kvs, Small2 p.1) ∧ ∀ p, H p = none → Q (.ref p) (upd H p (.dT kvs))
theorem cr_dictT (hu : X.A.units + 2 < cLine) : CallR X (.type "dict") rDictT := by
  intro pins s σ H xs us Q I r h
  obtain ⟨a, kvs, rfl, hd, hk, q⟩ := h
  rw [Vals.ref1 r]
  obtain ⟨z, lo, ks, rel, dd⟩ := dt_rd I.hok hd
  have hz : ks.length ≤ sizeLine := by rw [← Paired.length rel]; exact z
  have hsm : ∀ x ∈ ks, Small2 x.1 := by
    have all : ∀ {l : List (List Key × V)} {m : List (List Key × Addr × Value)}, KT H l m → (∀ p ∈ l, Small2 p.1) → ∀ x ∈ m, Small2 x.1 := by
      intro l m q
      induction q with
      | nil => intro _ x hx; exact nomatch hx
      | @cons p q ps qs hq t ih =>
        intro hl x hx
        rcases List.mem_cons.mp hx with e | hx
        · subst e
          rw [← hq.1]
          exact hl p List.mem_cons_self
        · exact ih (fun p hp => hl p (List.mem_cons_of_mem _ hp)) x hx
    exact all rel hk
  have his : ∀ x ∈ ks, (tupleKind (mixKind X.prog X.w)).is s.heap x.1 x.2.1 := let ⟨_, _, _, _, _, _, _, his, _⟩ := dd; his
  have hnd : (ks.map fun x => (tupleKind (mixKind X.prog X.w)).hash x.1).Nodup := by
    have h0 := dd.nodup
    have gen : ∀ (l : List (List Key × Addr × Value)), (∀ x ∈ l, Small2 x.1) → (l.map (·.1)).Nodup → (l.map fun x => (tupleKind (mixKind X.prog X.w)).hash x.1).Nodup := by
      intro l
      induction l with
      | nil => intro _ _; exact List.nodup_nil
      | cons x l ih =>
        intro hl hn
        rw [List.map_cons, List.nodup_cons] at hn ⊢
        refine ⟨fun hm => ?_, ih (fun y hy => hl y (List.mem_cons_of_mem _ hy)) hn.2⟩
        obtain ⟨y, hy, e⟩ := List.mem_map.mp hm
        have e2 := small_hash (hl y (List.mem_cons_of_mem _ hy)) (hl x List.mem_cons_self) e
        exact hn.1 (List.mem_map.mpr ⟨y, hy, e2⟩)
    exact gen ks hsm h0
  refine call_dictH (knd := tupleKind (mixKind X.prog X.w)) (show (X.A.in1.in1).units < cLine from hu) lo dd ⟨fun x hx => (his x hx).typeIs, hnd⟩ (fun h' hk x hx => ?_) hz fun h' dd' hs => ?_
  · obtain ⟨o, items, n, h1, h2, h3, h4⟩ := his x hx
    exact ⟨o, items, n, hk _ _ h1, h2, h3, h4⟩
  · have hm : (s.heap.objs.size == sysModules) = false := beq_eq_false_iff_ne.mpr (Nat.ne_of_gt I.big)
    obtain ⟨o, es, ep, hq, h2, h3, h4, _, h5⟩ := dd'
    refine ⟨.ref s.heap.objs.size, upd H s.heap.objs.size (.dT kvs), I.laid (t' := s.toks) (fun b u e => (hs.2 b (Nat.ne_of_lt (Heap.lt_size e))).trans (Heap.get?_push_of_some _ e)) (Nat.le_refl _)
      (show ObjOk X.prog X.w _ _ _ (.dT kvs) from ⟨z, hm, ks, rel.keeps (fun c ys ec => by rw [upd_ne (ne_of_none ec (I.hok.fresh (Nat.le_refl _)))]; exact ec), o, es, ep, hq, h2, h3, h4, h5⟩), rfl, q _ (I.hok.fresh (Nat.le_refl _))⟩
/-! ### d.pop(k), k there -/
theorem meetsPop1 {K : Type} [DecidableEq K] {prog : Program} {w : World} {knd : HeapKind prog w K} {d b : Addr} {k : K} :
    MeetsIn prog w (Builtin.«dict.pop» ⟨[.ref d, .ref b], []⟩) (fun A R s => ∃ xs p, knd.room A.in1 ∧ knd.is s.heap k b ∧ s.heap.DictOfH knd d xs ∧ xs.length ≤ sizeLine ∧ atKey xs k = some p ∧
      ∀ h' tk, h'.DictOfH knd d (DT.dropH xs k) → Heap.SameBut d s.heap h' → R (.ok (.ret p.2)) { s with heap := h', toks := tk }) :=
  .of_wp fun A R s ⟨xs, p0, hu, hkey, hm, hsz, hp0, hsome⟩ => by
    obtain ⟨o, es, ep, ho, hc, hdat, he, his, hn⟩ := id hm
    have hes : es.size = xs.length := size_of_entries he
    have hpart : (keyPart (Value.ref b)).isSome = false := rfl
    unfold Builtin.«dict.pop»
    refine wpAny_bind ?_
    unfold Builtin.Dict.keyAndDefault
    refine wpAny_bind (wpAny_notOrdered_dict hm.typeIs ?_)
    show wpAny _ _ (pure (d, Value.ref b, none)) _ _ s
    refine wpAny_pure ?_
    simp only [hpart, Bool.false_eq_true, if_false]
    refine wpAny_bind (wpAny_dictEntries ho hdat (wpAny_bind (wpAny_pure ?_)))
    cases hem : es.isEmpty with
    | true =>
      exfalso
      have h0 : xs = [] := by
        have z : es.size = 0 := by simpa using hem
        exact List.length_eq_zero_iff.mp (by omega)
      rw [h0] at hp0
      exact nomatch hp0
    | false =>
      simp only [Bool.false_eq_true, if_false]
      refine wpAny_bind (DT.takeH hu hkey hm hsz (fun hno => ?_) fun p e hp hev h' hm' hs' => ?_)
      · rw [hp0] at hno
        cases hno
      · have e2 : p0 = p := Option.some.inj (hp0.symm.trans hp)
        subst e2
        simp only [Option.isNone_some, Bool.false_eq_true, if_false]
        exact wpAny_bind (wpAny_letGo (wpAny_pure ⟨e.val, rfl, by rw [hev]; exact hsome h' _ hm' hs'⟩))
def rPop1 : V → List V → Hp → VK → Prop := fun x xs H Q => ∃ (a : Addr) (kvs : List (List Key × V)) (k : List Key) (b : Addr) (v : V), x = .ref a ∧ xs = [.ref b] ∧ H a = some (.dT kvs) ∧ H b = some (.tup (k.map kV)) ∧
  valV kvs k = some v ∧ Q v (upd H a (.dT (dropK kvs k)))
theorem mt_pop1 (hu : X.A.units + 1 < cLine) : MtR X "dict.pop" rPop1 := by
  intro pins s σ H x xs v us Q I rx rxs h
  obtain ⟨a, kvs, k, b, v0, rfl, rfl, ha, hb, ev, q⟩ := h
  cases rx
  rw [Vals.ref1 rxs]
  obtain ⟨z, hd, xs', rel, dd⟩ := dt_of I.hok ha
  have hz : xs'.length ≤ sizeLine := by rw [← Paired.length rel]; exact z
  have r := rel.val k
  rw [ev] at r
  obtain ⟨p, hp, rv⟩ : ∃ p, atKey xs' k = some p ∧ RelV v0 p.2 := by
    cases e : atKey xs' k with
    | none =>
      rw [e] at r
      exact (show False from r).elim
    | some p =>
      rw [e] at r
      exact ⟨p, rfl, r⟩
  refine call_meetsIn PySem.F.slot_dict_pop dd.typeIs PySem.F.entry_dict_pop (PySem.F.args_dict_pop_2 _ _) (meetsPop1 (knd := tupleKind (mixKind X.prog X.w)) (k := k))
    ⟨xs', p, tupleKind_room_in1 hu, key_of I.hok hb, dd, hz, hp, fun h' tk dd' hs => ?_⟩
  obtain ⟨o, es, ep, hq, h2, h3, h4, _, h5⟩ := dd'
  have I2 : Inv X pins σ (upd H a (.dT (dropK kvs k))) { s with heap := h', toks := tk } :=
    d_write I (by rw [ha]; exact True.intro) hs ⟨o, hq⟩ ⟨Nat.le_trans (dropK_le kvs k) z, hd, _, (L2.DX.KT_drop k rel).keeps (fun c ys ec => (by rw [upd_ne (ne_of ec ha (fun z => nomatch z))]; exact ec)), o, es, ep, hq, h2, h3, h4, h5⟩
  show EP X pins σ Q p.2 _
  exact ⟨v0, _, I2, rv, q⟩
end
end VL
end
section
/-! VL2: {k: v for ..} with tuple keys -/
namespace VL
open PySem PySem.Spec PyProof.Rows L2
/-- one more entry under a tuple key -/
theorem put_entry {X : Cx} {pins : List (Addr × Obj)} {σ : L2.St} {H : Hp} {s : Shared} {E : Value → Shared → Prop} {D : Addr} {kvs : List (List Key × V)} {k : List Key} {b : Addr} {v : V} {u r : Value} {Q : Unit → Shared → Prop} (hu : X.A.units < cLine) (I : Inv X pins σ H s) (hD : H D = some (.dT kvs)) (hz : kvs.length < sizeLine)
    (hb : H b = some (.tup (k.map kV))) (ry : RelV (.ref b) u) (rv : RelV v r) (h : ∀ s', Inv X pins σ (upd H D (.dT (putK kvs k v))) s' → Q () s') : wpAny (model X.prog X.w) X.A (dictSet D u r) Q E s := by
  cases (show u = Value.ref b from ry)
  obtain ⟨z, hd, xs, rel, dd⟩ := dt_of I.hok hD
  have hlen := Paired.length rel
  have hput := length_putK kvs k v
  refine wpAny_dictSet_heap (hsz := by omega) (knd := tupleKind (mixKind X.prog X.w)) hu (key_of I.hok hb) dd fun h' dd' hs => h _ ?_
  obtain ⟨q, es, ep, hq, h2, h3, h4, _, h5⟩ := dd'
  have stays : ∀ c ys, H c = some (.tup ys) → (upd H D (.dT (putK kvs k v))) c = some (.tup ys) := fun c ys ec => by rw [upd_ne (ne_of ec hD (fun z => nomatch z))]; exact ec
  exact d_write I (by rw [hD]; exact True.intro) hs ⟨q, hq⟩ ⟨by omega, hd, _, (rel.put k hb rv).keeps stays, q, es, ep, hq, h2, h3, h4, h5⟩
section
variable {X : Cx} {J : It} {fp : List Addr} {tn : Nat → Heap → Prop} {σ : L2.St} {Hn : Hp} {sn : Shared} {scope : Scope} {ce : Env} {vs : List Nat}
/-- the loop of the block stands before turn i -/
structure Stand (X : Cx) (fp : List Addr) (tn : Nat → Heap → Prop) (σ : L2.St) (sn : Shared) (Hn : Hp) (scope : Scope) (ce : Env) (vs : List Nat) (W : Nat → Nat → Hp → Prop) (n i : Nat) (H : Hp) (s : Shared) : Prop where
  inv : Inv (X.blk sn Hn scope ce fp) [] (L2.wipe σ vs) H s
  tn : tn i s.heap
  out : ∀ b ∈ fp, H b = none
  w : W i n H
theorem Stand.fps {W : Nat → Nat → Hp → Prop} {n i : Nat} {H : Hp} {s : Shared} (S : Stand X fp tn σ sn Hn scope ce vs W n i H s) : ∀ b ∈ fp, FpOk (X.blk sn Hn scope ce fp) [] H b := fun b hb =>
  ⟨S.out b hb, (S.inv.ok.exf b hb).1, S.inv.ok.exfs b hb, .inl hb, fun x c e => (S.inv.ok.exf b hb).2 x c e, fun p hp => absurd (show p ∈ ([] : List (Addr × Obj)) ++ [] from hp) (by simp)⟩
theorem blk_fps {σ' : L2.St} {H' : Hp} {s' : Shared} (I : Inv (X.blk sn Hn scope ce fp) [] σ' H' s') (n : ∀ b ∈ fp, H' b = none) : ∀ b ∈ fp, FpOk (X.blk sn Hn scope ce fp) [] H' b := fun b hb =>
  ⟨n b hb, (I.ok.exf b hb).1, I.ok.exfs b hb, .inl hb, fun x c e => (I.ok.exf b hb).2 x c e, fun p hp => absurd (show p ∈ ([] : List (Addr × Obj)) ++ [] from hp) (by simp)⟩
/-- behind a turn the loop stands again -/
theorem Stand.next {P : Program} {w : World} {tg : Expr} {it : Addr} {W : Nat → Nat → Hp → Prop} {m i : Nat} {H' : Hp} {s7 s' : Shared} {σ8 : L2.St} (T : Turn P w X.K tg J fp it tn) (st7 : tn (i + 1) s7.heap) (I' : Inv (X.blk sn Hn scope ce fp) ([] ++ pinsAt fp s7.heap) σ8 H' s') (hw : L2.wipe σ8 vs = L2.wipe σ vs) (hW : W (i + 1) m H') : Stand X fp tn σ sn Hn scope ce vs W m (i + 1) H' s' := by
  have pin : ∀ b ∈ fp, ∀ o, s7.heap.get? b = some o → s'.heap.get? b = some o ∧ H' b = none := fun b hb o e =>
    let z := I'.pin (b, o) (List.mem_append_right _ (List.mem_append_right _ (mem_pinsAt hb e)))
    ⟨z.1, z.2.1⟩
  refine ⟨(I'.unpinned (pins := [])).weak (by rw [← hw, L2.wipe_length]) (fun j v e => ?_), T.keep _ _ _ st7 fun b hb o e => (pin b hb o e).1, fun b hb => ?_, hW⟩
  · rw [← hw] at e
    exact (wipe_some e).1
  · obtain ⟨o, e, _⟩ := T.obj _ _ st7 b hb
    exact (pin b hb o e).2
end
/-- {k: v for target in iter if ..}: D the new dict, its keys tuples -/
def tDct (wi : TI) (g : TG) (tt : TT) (tk tv : TE) (vs : List Nat) : TE := fun σ H Q => wi σ H fun J H1 => ∀ D, H1 D = none → ∃ W : Nat → Nat → Hp → Prop, (∃ m, W 0 m (upd H1 D (.dT []))) ∧ ∀ i m H, W i m H →
  (J.stop i H ∧ Q (.ref D) H) ∨ (J.go i H ∧ ∃ Nx : Hp → Prop, (∀ H', Nx H' → ∃ m', m' < m ∧ W (i + 1) m' H') ∧ ∀ x H', J.yld i H x H' → g x (L2.wipe σ vs) H' fun σ2 H2 => L2.wipe σ2 vs = L2.wipe σ vs ∧ tt σ2 H2 fun b H3 =>
    if b = true then tk σ2 H3 fun y H4 => tv σ2 H4 fun z H5 => ∃ kvs k a, y = .ref a ∧ H5 a = some (.tup (k.map kV)) ∧ H5 D = some (.dT kvs) ∧ kvs.length < sizeLine ∧ Nx (upd H5 D (.dT (putK kvs k z))) else Nx H3)
theorem dct_core {pins : List (Addr × Obj)} {s : Shared} {σ : L2.St} {H : Hp} {Q : VK} {use : Option (Value → Sem Unit)} {Qf : Value → Shared → Prop} {X : Cx} {kx vx tg iter : Expr} {ifs : List Expr} {scope : Scope} {own : List (Str × Nat)} {pos pos' : Pos} {wi : TI} {g : TG} {tt : TT} {tk tv : TE} (hu : X.A.units < cLine) (hc : X.calm = true) (hN : X.N.Nodup) (I : Inv X pins σ H s) (hi : PI X tg iter wi) (ok : BlkOk X.N X.env.scope scope own)
    (hg : ∀ (s : Shared) (H : Hp) (C : Addr) (cl : List (Str × Addr)) (fp : List Addr), PG (X.blk s H scope (compEnvC scope cl C X.env) fp) tg g) (ht : ∀ (s : Shared) (H : Hp) (C : Addr) (cl : List (Str × Addr)) (fp : List Addr), PTs (X.blk s H scope (compEnvC scope cl C X.env) fp) ifs tt)
    (hk : ∀ (s : Shared) (H : Hp) (C : Addr) (cl : List (Str × Addr)) (fp : List Addr), PE (X.blk s H scope (compEnvC scope cl C X.env) fp) kx tk)
    (he : ∀ (s : Shared) (H : Hp) (C : Addr) (cl : List (Str × Addr)) (fp : List Addr), PE (X.blk s H scope (compEnvC scope cl C X.env) fp) vx tv) (hs : ∀ x, foldedSetIterable iter X.env x = pure x)
    (h : tDct wi g tt tk tv (own.map (·.2)) σ H Q)
    (hRR : ∀ D C s' m H', Inv X pins σ H' s' → Q (.ref D) H' → s'.heap.Ns C m → FpOk X pins H' C → compPost (model X.prog X.w) X.A X.xe use Qf (.ref D) C (.ok .next) s') :
    wpAny (model X.prog X.w) X.A (comprehension (.DictComp kx vx [⟨tg, iter, ifs, 0⟩] scope pos) scope X.env pos' newDict false (eval iter X.env) use) Qf X.xe s := by
  have closed : ∀ y ∈ scope.names, y.2 = .free → ∃ c, X.env.cells.lookup y.1 = some c := fun y hy e => (ok.free y hy e).elim (fun k => I.ok.has _ (.inl k)) fun k => I.ok.has _ (.inr k)
  refine wpAny_comprehension_free (use := use) rfl hs (closure_ok closed) ok.kind (fun y hy e => by rw [ok.uniq y hy, e]) (thn (hi.run pins s σ H _ I h) fun xv s1 hx => thn hx fun itv s2 h2 => ?_)
  obtain ⟨it, fp, tn, J, H2, rfl, I2, T, st2, f2, q⟩ := h2
  refine wpAny_newObj_type (newEnv_comp ?_)
  obtain ⟨W, ⟨m0, w0⟩, turn⟩ := q s2.heap.objs.size (I2.hok.fresh (Nat.le_refl _))
  generalize hs3 : ({ s2 with heap := s2.heap.push { cls := .type "dict", data := .dict #[] } } : Shared) = s3
  have h3 : s3.heap = s2.heap.push { cls := .type "dict", data := .dict #[] } := by rw [← hs3]
  have I3 : Inv X pins σ (upd H2 s2.heap.objs.size (.dT [])) s3 := by
    rw [← hs3]
    exact I2.laid (t' := s2.toks) (fun b o e => Heap.get?_push_of_some _ e) (Nat.le_refl _) (dt_empty s2.heap I2.big)
  have f3 : ∀ b ∈ fp, FpOk X pins (upd H2 s2.heap.objs.size (.dT [])) b ∧ b < s3.heap.objs.size := fun b hb => by
    obtain ⟨o, e, _⟩ := T.obj _ _ st2 b hb
    have hlt := Heap.lt_size e
    exact ⟨⟨by rw [upd_ne (Nat.ne_of_lt hlt)]; exact (f2 b hb).1, (f2 b hb).2⟩, by rw [h3, Heap.size_push]; exact Nat.lt_succ_of_lt hlt⟩
  have I4 := block_start I3 ok hN f3
  generalize hH3 : upd H2 s2.heap.objs.size (.dT []) = H3 at I3 I4 w0 f3
  show codeAny _ _ (.compStart (.DictComp kx vx [⟨tg, iter, ifs, 0⟩] scope pos) 0 (.ref it) (.ref s2.heap.objs.size) (compEnvC scope (cellsFrom (s3.heap.objs.size + 1) scope.names (cloFrom X.env.cells scope.names [])) s3.heap.objs.size X.env)) (compPost (model X.prog X.w) X.A X.xe use Qf (.ref s2.heap.objs.size) s3.heap.objs.size) { s3 with heap := pushCells (s3.heap.push { cls := .type "dict", data := .dict #[] }) scope.names }
  generalize cellsFrom (s3.heap.objs.size + 1) scope.names (cloFrom X.env.cells scope.names []) = cl at I4 ⊢
  have pg := hg s3 H3 s3.heap.objs.size cl fp
  have pt := ht s3 H3 s3.heap.objs.size cl fp
  have pk := hk s3 H3 s3.heap.objs.size cl fp
  have pe := he s3 H3 s3.heap.objs.size cl fp
  have cL : (compEnvC scope cl s3.heap.objs.size X.env).locals = s3.heap.objs.size := rfl
  generalize compEnvC scope cl s3.heap.objs.size X.env = ce at I4 pg pt pk pe cL ⊢
  generalize hs4 : ({ s3 with heap := pushCells (s3.heap.push { cls := .type "dict", data := .dict #[] }) scope.names } : Shared) = s4 at I4 ⊢
  have st4 : tn 0 s4.heap := T.keep _ _ _ st2 fun b _ o e => by
    rw [← hs4]
    exact pushCells_keeps _ _ _ _ (Heap.get?_push_of_some _ (by rw [h3]; exact Heap.get?_push_of_some _ e))
  refine codeAny_compStart_dict ?_ (T.self X.A 0 _ _ _ st4 ?_)
  all_goals
    refine compLoop_anyD (fun n s' => ∃ i H', Stand X fp tn σ s3 H3 scope ce (own.map (·.2)) W n i H' s') ?_ m0 ⟨0, H3, I4, st4, fun b hb => (f3 b hb).1.1, w0⟩
    rintro n s5 ⟨i, H5, S⟩
    rcases turn i n H5 S.w with ⟨stop, qq⟩ | ⟨go, Nx, hNx, step⟩
    · refine thnF (T.done (X.blk s3 H3 scope ce fp) rfl rfl rfl hc i [] s5 _ H5 (fun _ _ => False) S.inv S.fps S.tn stop) fun r s6 ⟨hr, I6⟩ => ?_
      subst hr
      have I7 : Inv X pins σ H5 s6 := I3.call' (ch := fp) I6.os I6.base I6.hok I6.bare fun b hb => let z := (f3 b hb).1.2; ⟨z.2.2.1, z.1, z.2.2.2.1, z.2.2.2.2⟩
      obtain ⟨m, hn, _⟩ := I6.loc
      have hn : s6.heap.Ns ce.locals m := hn
      have nC : H5 ce.locals = none := I6.free
      rw [cL] at hn nC
      exact hRR _ _ s6 m H5 I7 qq hn (I3.fpOk (Nat.le_refl _) nC)
    · refine thnF (T.item (X.blk s3 H3 scope ce fp) rfl rfl rfl hc i [] s5 _ H5 (fun _ _ => False) S.inv S.fps S.tn go) fun r s6 ⟨u, hr, h6⟩ => ?_
      subst hr
      refine thnF h6 fun _ s7 ⟨x, H7, I7, r7, y7, st7, n7⟩ => ?_
      refine thnF (pg.run _ s7 _ H7 x u _ (I7.pinned (blk_fps I7 n7) (T.obj _ _ st7)) r7 (step x H7 y7)) fun _ s8 ⟨σ8, H8, I8, hw8, q8⟩ => ?_
      refine thnF (pt.run _ s8 σ8 H8 _ I8 q8) fun b s9 ⟨H9, I9, q9⟩ => ?_
      have fin : ∀ {s' : Shared} {H' : Hp}, Inv (X.blk s3 H3 scope ce fp) ([] ++ pinsAt fp s7.heap) σ8 H' s' → Nx H' → ∃ m, m < n ∧ ∃ i H', Stand X fp tn σ s3 H3 scope ce (own.map (·.2)) W m i H' s' := fun {s' H'} I' nx => by
        obtain ⟨m', hm, w'⟩ := hNx H' nx
        exact ⟨m', hm, i + 1, H', Stand.next T st7 I' hw8 w'⟩
      cases b with
      | false =>
        simp only [Bool.false_eq_true, if_false] at q9 ⊢
        exact fin I9 q9
      | true =>
        simp only [if_true] at q9 ⊢
        refine thnF (pk.run _ s9 σ8 H9 _ I9 q9) fun z s10 ⟨yk, H10, I10, r10, q10⟩ => ?_
        refine thnF (pe.run _ s10 σ8 H10 _ I10 q10) fun z2 s11 ⟨yv, H11, I11, r11, kvs, k, a, ek, ha, hD11, hz11, nx⟩ => ?_
        subst ek
        exact put_entry (X := X.blk s3 H3 scope ce fp) hu I11 hD11 hz11 ha r10 r11 fun s12 I12 => fin I12 nx
theorem pe_dct {X : Cx} {kx vx tg iter : Expr} {ifs : List Expr} {scope : Scope} {own : List (Str × Nat)} {pos : Pos} {wi : TI} {g : TG} {tt : TT} {tk tv : TE} (hu : X.A.units < cLine) (hc : X.calm = true) (hN : X.N.Nodup) (hi : PI X tg iter wi) (ok : BlkOk X.N X.env.scope scope own)
    (hg : ∀ (s : Shared) (H : Hp) (C : Addr) (cl : List (Str × Addr)) (fp : List Addr), PG (X.blk s H scope (compEnvC scope cl C X.env) fp) tg g) (ht : ∀ (s : Shared) (H : Hp) (C : Addr) (cl : List (Str × Addr)) (fp : List Addr), PTs (X.blk s H scope (compEnvC scope cl C X.env) fp) ifs tt)
    (hk : ∀ (s : Shared) (H : Hp) (C : Addr) (cl : List (Str × Addr)) (fp : List Addr), PE (X.blk s H scope (compEnvC scope cl C X.env) fp) kx tk)
    (he : ∀ (s : Shared) (H : Hp) (C : Addr) (cl : List (Str × Addr)) (fp : List Addr), PE (X.blk s H scope (compEnvC scope cl C X.env) fp) vx tv) (hs : ∀ x, foldedSetIterable iter X.env x = pure x := by intro _; rfl) :
    PE X (.DictComp kx vx [⟨tg, iter, ifs, 0⟩] scope pos) (tDct wi g tt tk tv (own.map (·.2))) := ⟨fun pins s σ H Q I h => by
  rw [arm_eval_DictComp]
  refine dct_core (use := none) (Qf := EP X pins σ Q) hu hc hN I hi ok hg ht hk he hs h fun D C s' m H' I' q hn f => ⟨m, hn, fun h'' sb => ?_⟩
  obtain ⟨f0, f1, f2, f3, f4, f5⟩ := f
  exact ⟨.ref D, H', I'.turned (t' := s'.toks) (fun b o hb e => (sb.2 b hb).trans e) f0 f1 f3 f4 f5, rfl, q⟩⟩
theorem swd_true {k v : Expr} {gs : List Comprehension} {scope : Scope} {pos py : Pos} {y : Str} {l : Nat} {env : Env} (hk : env.scope.kind = .function) (hy : env.scope.names.lookup y = some .local) (hl : (py.line == pos.line) = true)
    (ha : (scope.names.any fun (n, k) => n == y && (k == .local || k == .cell)) = false) : swapsWith (.DictComp k v gs scope pos) (some (.Name y py)) l env = pure true := by
  have ky : env.kindOf y = some .local := hy
  have hb : env.blockKind = .function := by unfold Env.blockKind; rw [hk]; rfl
  unfold swapsWith
  simp only [hb, ky, ha, Expr.pos, hl]
  rfl
/-- y = {k: v for target in iter} where y is a local; the iterable may be locked -/
theorem ps_setDct {i : Nat} {y : Str} {py spos : Pos} {X : Cx} {kx vx tg iter : Expr} {ifs : List Expr} {scope : Scope} {own : List (Str × Nat)} {pos : Pos} {wi : TI} {g : TG} {tt : TT} {tk tv : TE} (hu : X.A.units < cLine) (hc : X.calm = true) (hN : X.N.Nodup) (hi : PI X tg iter wi) (ok : BlkOk X.N X.env.scope scope own)
    (hg : ∀ (s : Shared) (H : Hp) (C : Addr) (cl : List (Str × Addr)) (fp : List Addr), PG (X.blk s H scope (compEnvC scope cl C X.env) fp) tg g) (ht : ∀ (s : Shared) (H : Hp) (C : Addr) (cl : List (Str × Addr)) (fp : List Addr), PTs (X.blk s H scope (compEnvC scope cl C X.env) fp) ifs tt)
    (hk : ∀ (s : Shared) (H : Hp) (C : Addr) (cl : List (Str × Addr)) (fp : List Addr), PE (X.blk s H scope (compEnvC scope cl C X.env) fp) kx tk)
    (he : ∀ (s : Shared) (H : Hp) (C : Addr) (cl : List (Str × Addr)) (fp : List Addr), PE (X.blk s H scope (compEnvC scope cl C X.env) fp) vx tv) (hy : X.N[i]? = some y) (hyl : X.env.scope.names.lookup y = some .local)
    (hsw : swapsWith (.DictComp kx vx [⟨tg, iter, ifs, 0⟩] scope pos) (some (.Name y py)) spos.line X.env = pure true) (hs : ∀ x, foldedSetIterable iter X.env x = pure x) :
    PS X (.Assign [.Name y py] (.DictComp kx vx [⟨tg, iter, ifs, 0⟩] scope pos) spos) (tAsg (tDct wi g tt tk tv (own.map (·.2))) (gName i)) := by
  refine ⟨fun pins s σ H D I h => ?_⟩
  rw [exec_Assign_Name_used _ _ _ _ hsw]
  refine wpAny_bind (wpAny_standAt (wpAny_bind ?_))
  show wpAny _ X.A (do let _ ← comprehension (.DictComp kx vx [⟨tg, iter, ifs, 0⟩] scope pos) scope X.env (firstIterPos [⟨tg, iter, ifs, 0⟩] pos) newDict false (eval iter X.env) (some (assign (.Name y py) X.env))) _ _ s
  have h : tDct wi g tt tk tv (own.map (·.2)) σ H (fun x H1 => gName i x σ H1 D.nx) := h
  refine wpAny_bind (thn (dct_core (Qf := fun _ s' => SP X pins D .next s') hu hc hN I hi ok hg ht hk he hs h fun L C s' m H' I' q hn f => ?_) fun _ s' hq => wpAny_pure (wpAny_pure hq))
  show wpAny _ _ (assign (.Name y py) X.env (.ref L)) _ _ _
  refine wpAny_assign_Name (store_ok2 (v := V.ref L) I' hN hy (.inl hyl) rfl (fun s2 I2 ⟨a, sb, ha⟩ => ?_) (.inr hyl))
  obtain ⟨f0, f1, f2, f3, f4, f5⟩ := f
  have haC : C ≠ a := by
    rcases ha with z | z
    · rw [z]; exact f1
    · exact fun e => f4 y a z e.symm
  refine ⟨m, hn.sameBut sb haC, fun h3 sb3 => ?_⟩
  exact ⟨_, H', I2.turned (t' := s2.toks) (fun b o hb e => (sb3.2 b hb).trans e) f0 f1 f3 f4 f5, q⟩
end VL
end
section
/-! VL3: enumerate of a tuple, list(enumerate(t)) -/
namespace VL
open PySem PySem.Spec PyProof.Rows L2
/-- enumerate(v) is made -/
theorem meets_enum1 {v : Value} {o : Obj} {H : Heap → Prop} (B : Begins v o H) :
    Meets (Builtin.«enumerate.__new__» ⟨[.type "enumerate", v], []⟩) (fun _ R s => H s.heap ∧
      R (.ok (.ret (.ref (s.heap.push o).objs.size))) { s with heap := (s.heap.push o).push { cls := .type "enumerate", data := .fields #[.none, .bool false, .ref s.heap.objs.size, rawInt 0, .none, .none] } }) :=
  .of_wp fun prog w A R s h => by
    obtain ⟨hp, g, d, tk, os⟩ := s; obtain ⟨h1, h⟩ := h
    have hsub := sub_enumerate
    have q1 : ∀ {A' : Around} {E : Value → Shared → Prop} {Q : Value → Shared → Prop}, Q (.ref hp.objs.size) ⟨hp.push o, g, d, tk, os⟩ → wpAny (model prog w) A' (pyIter v) Q E ⟨hp, g, d, tk, os⟩ :=
      fun q => B.iter prog w _ _ ⟨hp, g, d, tk, os⟩ _ h1 q
    wp_walk using q1
    refine wpAny_stack_any fun st => wpAny_pure ?_
    split
    · rename_i c _ _ _ _ _
      cases (c == Value.type "enumerate")
      all_goals
        wp_walk using q1
        exact ⟨_, rfl, h⟩
    · wp_walk using q1
      exact ⟨_, rfl, h⟩
section
variable {prog : Program} {w : World} {A : Around} {E : Value → Shared → Prop} {s : Shared}
theorem call_enum1 {v : Value} {o : Obj} {H : Heap → Prop} {Q : Value → Shared → Prop} (B : Begins v o H) (h1 : H s.heap)
    (h : ∀ h', IsEnum h' (s.heap.objs.size + 1) s.heap.objs.size 0 .none → h'.get? s.heap.objs.size = some o → h'.objs.size = s.heap.objs.size + 2 →
      (∀ b o, s.heap.get? b = some o → h'.get? b = some o) → Q (.ref (s.heap.objs.size + 1)) { s with heap := h' }) :
    wpAny (model prog w) A (call (.type "enumerate") [v]) Q E s := by
  refine callType_new PySem.F.called_enumerate (by decide) (PySem.F.typeCall_enumerate_1 _) (PySem.F.newCall_enumerate_1 _) (fun obj => PySem.F.args_object_init_2 obj _) PySem.F.entry_enumerate_new (meets_enum1 B) ⟨h1, ?_⟩
  have hz : (s.heap.push o).objs.size = s.heap.objs.size + 1 := Heap.size_push ..
  have he : ∀ n, n = (s.heap.push o).objs.size → IsEnum ((s.heap.push o).push { cls := .type "enumerate", data := .fields #[.none, .bool false, .ref s.heap.objs.size, rawInt 0, .none, .none] }) n s.heap.objs.size 0 .none := fun n e => by
    rw [e]
    exact Heap.get?_push_size (s.heap.push o) rfl
  have he := he (s.heap.objs.size + 1) hz.symm
  show _ ∧ _
  rw [hz]
  exact ⟨⟨_, he, rfl⟩, h _ he (Heap.get?_push_of_some _ (Heap.get?_push_size _ B.free)) (by rw [Heap.size_push, hz]) fun b o x => Heap.get?_push_of_some _ (Heap.get?_push_of_some _ x)⟩
end
/-- nothing more comes -/
theorem enumT_end {prog : Program} {w : World} {A : Around} {E : Value → Shared → Prop} {s : Shared} {e it l : Addr} {i : Nat} {c : Int} {items : Array Value} {x0 x1 old : Value} {Q : Option Value → Shared → Prop} (hh : A.handled = none)
    (he : s.heap.get? e = some { cls := .type "enumerate", dict := none, data := .fields #[x0, x1, .ref it, rawInt c, .none, old], slots := #[] }) (hit : s.heap.IsTupleIter it l i) (hl : s.heap.IsTuple l items) (hx : items[i]? = none)
    (hQ : ∀ h', Heap.ExtBut it s.heap h' → Q none { s with heap := h' }) : wpAny (model prog w) A (pyNext (.ref e)) Q E s := by
  have hT : s.TypeIs (.ref e) "enumerate" := ⟨_, he, rfl⟩
  unfold pyNext
  refine wpAny_bind (wpAny_attempt (wpAny_callSpecial?_slot (name := Str.ofString "__next__") hT PySem.F.slot_enumerate_next (wpAny_call_entry PySem.F.slot_enumerate_next hT PySem.F.entry_enumerate_next ?_ (PySem.F.args_enumerate_next_1 _))))
  show wpAny _ _ (field (.ref e) 2 >>= _) _ _ _
  refine wpAny_bind (wpAny_field he rfl (x := .ref it) rfl (wpAny_bind (wpAny_nextOf_tuple_end hh hit hl hx fun h' x he' ⟨o, ho, hc⟩ => ?_)))
  exact wpAny_bind (wpAny_isInstance (T := "StopIteration") (b := true) ⟨o, ho, hc⟩ isSubtype_stop (wpAny_pure (hQ _ he')))
/-! ### for i, x in enumerate(t) -/
/-- the tuple at a, each item in a new pair -/
def ItT (K : PySem.W.Frag) (a : Addr) : It :=
  ⟨fun i H => ∃ (xs : List V) (x : V), SqT K H a xs ∧ xs[i]? = some x, fun i H v H' => ∃ T x, v = .ref T ∧ H T = none ∧ H' = upd H T (.tup [.int (i : Nat), x]) ∧ ∀ xs, SqT K H a xs → xs[i]? = some x, fun i H => ∃ xs : List V, SqT K H a xs ∧ xs.length ≤ i⟩
theorem turn_enT {P : Program} {w : World} {K : PySem.W.Frag} {elts : List Expr} {kk : Nat} {tpos : Pos} (a e it : Addr) :
    Turn P w K (.Tuple elts kk tpos) (ItT K a) [e, it] e (fun i h => (∃ old, IsEnum h e it ((i : Nat) : Int) old) ∧ h.IsTupleIter it a i ∧ e ≠ it) where
  mem := by simp
  obj := fun i h st b hb => by
    obtain ⟨⟨old, he⟩, ⟨o, ho, hc, hd⟩, _⟩ := st
    rcases (show b = e ∨ b = it by simpa using hb) with z | z
    · subst z
      exact ⟨_, he, fun v q => nomatch q⟩
    · exact ⟨o, by rw [z]; exact ho, fun v q => by rw [hd] at q; cases q⟩
  keep := fun i h h' st k => let ⟨⟨old, he⟩, hi, hne⟩ := st; ⟨⟨old, k e (by simp) _ he⟩, hi.at fun o q => k it (by simp) o q, hne⟩
  item := by
    intro X hP hw hK hc i pins s σ H E I hf st hg
    subst hP hw hK
    obtain ⟨⟨old, he⟩, hit, hne⟩ := st
    obtain ⟨xs, x, hq, hx⟩ := hg
    obtain ⟨its, rv, p, hz⟩ := I.tuple hq
    obtain ⟨u, hu, ru⟩ := rv.get hx
    have hel : e < s.heap.objs.size := Heap.lt_size he
    have hil : it < s.heap.objs.size := by obtain ⟨_, q, _⟩ := hit; exact Heap.lt_size q
    have hat : a ≠ it := fun z => (by
      obtain ⟨o1, h1, c1, _⟩ := hit
      obtain ⟨o2, h2, c2, _⟩ := id p
      rw [z] at h2
      cases h1.symm.trans h2
      rw [c1] at c2
      exact absurd (Value.type.inj c2) (by decide))
    have hea : e ≠ a := fun z => (by
      obtain ⟨o2, h2, c2, _⟩ := id p
      rw [← z] at h2
      cases he.symm.trans h2
      exact absurd (Value.type.inj c2) (by decide))
    have hlt : i < its.toArray.size := by simpa using (List.getElem?_eq_some_iff.mp hu).1
    have D := Draws.tuple (prog := X.prog) (w := X.w) (A := X.A.in1) (I.ok.hd hc) it a hat its.toArray
    refine wpAny_pyNext_enum_itemC D he ⟨hit, p⟩ hlt hne (by simp [hne, hea]) fun y h' tk hy ho hit' hT hsz hk => ?_
    have ey : y = u := by
      have hy : its.toArray[i]? = some y := hy
      rw [List.getElem?_toArray, hu] at hy
      exact (Option.some.inj hy).symm
    subst ey
    refine ⟨_, rfl, wpAny_letOwnedTupleGo_enum (s := { s with heap := h', toks := tk + 1 }) ho fun h'' he' sb => ?_⟩
    have hT2 : h''.get? s.heap.objs.size = some { cls := .type "tuple", data := .seq #[.int i tk, y] } := (sb.2 _ (Nat.ne_of_gt hel)).trans hT
    have I1 : Inv X pins σ (upd H s.heap.objs.size (.tup [.int (i : Nat), x])) { s with heap := h'', toks := tk + 1 } :=
      I.turnedNew (ch := [e, it]) (fun b ob hb q => (sb.2 b (fun z => hb (by simp [z]))).trans (hk b ob (fun z => hb (by simp [z])) (fun z => hb (by simp [z])) q)) hf (Nat.le_refl _)
        (show ObjOk X.prog X.w (upd H s.heap.objs.size (.tup [.int (i : Nat), x])) h'' s.heap.objs.size (.tup [.int (i : Nat), x]) from ⟨by show 2 ≤ sizeLine; decide, [.int i tk, y], .cons ⟨_, rfl⟩ (.cons ru .nil), ⟨_, hT2, rfl, _, rfl⟩⟩)
    refine ⟨.ref s.heap.objs.size, _, I1, rfl, ⟨_, x, rfl, I.hok.fresh (Nat.le_refl _), rfl, fun ys hy => by rw [I.tuple_inj hy hq]; exact hx⟩, ⟨⟨y, ?_⟩, hit'.1.at fun o q => (sb.2 it (Ne.symm hne)).trans q, hne⟩, fun b hb => ?_⟩
    · rw [show ((i + 1 : Nat) : Int) = (i : Int) + 1 by omega]
      exact he'
    · have hb' : b < s.heap.objs.size := by
        rcases (show b = e ∨ b = it by simpa using hb) with z | z
        · rw [z]; exact hel
        · rw [z]; exact hil
      rw [upd_ne (Nat.ne_of_lt hb')]
      exact (hf b hb).1
  done := by
    intro X hP hw hK hc i pins s σ H E I hf st hg
    subst hP hw hK
    obtain ⟨⟨old, he⟩, hit, hne⟩ := st
    obtain ⟨xs, hq, hx⟩ := hg
    obtain ⟨its, rv, p, hz⟩ := I.tuple hq
    obtain ⟨f0, f1, f2, f3, f4, f5⟩ := hf it (by simp)
    have hat : a ≠ it := fun z => (by
      obtain ⟨o1, h1, c1, _⟩ := hit
      obtain ⟨o2, h2, c2, _⟩ := id p
      rw [z] at h2
      cases h1.symm.trans h2
      rw [c1] at c2
      exact absurd (Value.type.inj c2) (by decide))
    have hl := rv.length
    -- the walk has come to its end or stands beyond it
    exact enumT_end (I.ok.hd hc) he hit p (Array.getElem?_eq_none (by simp; omega)) fun h' eb => ⟨rfl, I.turned (t' := s.toks) (fun b o hb q => eb b o hb q) f0 f1 f3 f4 f5⟩
  self := fun A i s Q E st h => let ⟨⟨_, he⟩, _⟩ := st; wpAny_pyIter_enum he h
def iEnT (K : PySem.W.Frag) (ta : TA) : TI := fun σ H R => ta σ H fun vs H1 => ∃ a xs, vs = [.ref a] ∧ SqT K H1 a xs ∧ R (ItT K a) H1
theorem pi_enT {X : Cx} {e : Expr} {ta : TA} {p pos tpos : Pos} {elts : List Expr} {kk : Nat} (hg : Gl X "enumerate") (hm : X.mg "enumerate" = none) (ha : PA X [e] ta) (hs : starEach [e] X.env = [(false, eval e X.env)] := by rfl) :
    PI X (.Tuple elts kk tpos) (.Call (.Name "enumerate" p) [e] [] pos) (iEnT X.K ta) := ⟨fun pins s σ H R I h => by
  refine Call_ (ld_blt I hg hm boot_enumerate (PyProof.Rows.callWith_type1 (thn (ha.run pos pins s σ H _ I h) fun us s1 ⟨vs, H1, I1, r1, a, xs, ex, hq, q⟩ => ?_) hs rfl))
  subst ex
  rw [Vals.ref1 r1]
  obtain ⟨its, rv, p', hz⟩ := I1.tuple hq
  refine call_enum1 (begins_tuple a its.toArray) p' fun h' he hit hsz hk => wpAny_pyIter_enum he ?_
  have I2 : Inv X pins σ H1 { s1 with heap := h' } := I1.kept (t' := s1.toks) hk
  refine ⟨s1.heap.objs.size + 1, [s1.heap.objs.size + 1, s1.heap.objs.size], _, _, H1, rfl, I2, turn_enT a (s1.heap.objs.size + 1) s1.heap.objs.size, ⟨⟨.none, he⟩, ⟨_, hit, rfl, rfl⟩, Nat.succ_ne_self _⟩, fun b hb => ?_, q⟩
  have hle : s1.heap.objs.size ≤ b := by
    rcases (show b = s1.heap.objs.size + 1 ∨ b = s1.heap.objs.size by simpa using hb) with z | z
    · rw [z]; exact Nat.le_add_right _ _
    · rw [z]; exact Nat.le_refl _
  exact I1.fpOk hle (I1.hok.fresh hle)⟩
theorem walk_enT {K : PySem.W.Frag} {a : Addr} {xs : List V} : Walk (ItT K a) xs.length (fun H => SqT K H a xs) (YPair (fun i => some (.int (i : Nat))) (fun i => xs[i]?)) :=
  ⟨fun i H hi q => ⟨xs, xs[i], q, List.getElem?_eq_getElem hi⟩, fun H q => ⟨xs, q, Nat.le_refl _⟩, fun i H x H' hi q y => by
    obtain ⟨T, z, e1, e2, e3, e4⟩ := y
    exact ⟨T, _, z, e1, e2, e3, rfl, e4 xs q⟩⟩
end VL
end
section
/-! VL4: list(enumerate(t)) -/
namespace VL
open PySem PySem.Spec PyProof.Rows L2
theorem enum_no_len : typeLookup (.type "enumerate") "__len__" = pure none := by rw [typeLookup_type, builtinLookup_eq_fast]; kernel_rfl
theorem enum_no_hint : typeLookup (.type "enumerate") "__length_hint__" = pure none := by rw [typeLookup_type, builtinLookup_eq_fast]; kernel_rfl
section
variable {prog : Program} {w : World} {A : Around} {E : Value → Shared → Prop} {s : Shared}
/-- the next pair while the first one still stands -/
theorem next_held {e it T : Addr} {fp : List Addr} {n i : Nat} {P : Nat → Value → Prop} {St : Nat → Heap → Prop} {old : Value} {f : Bool} {oT : Obj} {Q : Option Value → Shared → Prop}
    (D : Draws prog w A.in1 it fp n P St) (he : IsEnumHeld s.heap e it i old T f) (hT : s.heap.get? T = some oT) (hTe : T ≠ e) (hTi : T ≠ it) (hst : St i s.heap) (hlt : i < n) (hne : e ≠ it) (hef : e ∉ fp)
    (hQ : ∀ x h' tk, P i x → IsEnumHeld h' e it ((i : Int) + 1) old T true → St (i + 1) h' → h'.get? s.heap.objs.size = some { cls := .type "tuple", data := .seq #[.int i tk, x] } → h'.objs.size = s.heap.objs.size + 1 →
      (∀ b o, b ≠ e → b ≠ it → s.heap.get? b = some o → h'.get? b = some o) → Q (some (.ref s.heap.objs.size)) { s with heap := h', toks := tk + 1 }) :
    wpAny (model prog w) A (pyNext (.ref e)) Q E s := by
  have hTy : s.TypeIs (.ref e) "enumerate" := ⟨_, he, rfl⟩
  unfold pyNext
  refine wpAny_bind (wpAny_attempt (wpAny_callSpecial?_slot (name := Str.ofString "__next__") hTy PySem.F.slot_enumerate_next (wpAny_call_entry PySem.F.slot_enumerate_next hTy PySem.F.entry_enumerate_next ?_ (PySem.F.args_enumerate_next_1 _))))
  obtain ⟨hp, g, d, tk0, os⟩ := s
  show wpAny _ _ (field (.ref e) 2 >>= _) _ _ _
  refine wpAny_bind (wpAny_field he rfl (x := .ref it) rfl (wpAny_bind (D.item i _ _ _ hlt hst fun x h1 tk hP st1 hs1 => ?_)))
  have he1 : IsEnumHeld h1 e it i old T f := (hs1.2 e hne).trans he
  show wpAny _ _ (field (.ref e) 3 >>= _) _ _ ⟨h1, g, d, tk, os⟩
  refine wpAny_bind (wpAny_field he1 rfl (x := rawInt i) rfl ?_)
  show wpAny _ _ (field (.ref e) 4 >>= _) _ _ ⟨h1, g, d, tk, os⟩
  refine wpAny_bind (wpAny_field he1 rfl (x := .none) rfl ?_)
  show wpAny _ _ (mkInt i >>= _) _ _ ⟨h1, g, d, tk, os⟩
  refine wpAny_bind (wpAny_mkInt ?_)
  show wpAny _ _ (setField (.ref e) 3 (rawInt ((i : Int) + 1)) >>= _) _ _ ⟨h1, g, d, tk + 1, os⟩
  refine wpAny_bind (wpAny_setField_rec he1 (by simp) fun h2 he2 hs2 => ?_)
  have he2 : IsEnumHeld h2 e it ((i : Int) + 1) old T f := he2
  show wpAny _ _ (setField (.ref e) 4 .none >>= _) _ _ ⟨h2, g, d, tk + 1, os⟩
  refine wpAny_bind (wpAny_setField_rec he2 (by simp) fun h3 he3 hs3 => ?_)
  have he3 : IsEnumHeld h3 e it ((i : Int) + 1) old T f := he3
  show wpAny _ _ (newTuple [.int i tk, x] >>= _) _ _ ⟨h3, g, d, tk + 1, os⟩
  refine wpAny_bind (wpAny_newTuple ?_)
  have hsz : h3.objs.size = hp.objs.size := by rw [hs3.1, hs2.1, hs1.1]
  have he4 : IsEnumHeld (h3.push { cls := .type "tuple", data := .seq #[.int i tk, x] }) e it ((i : Int) + 1) old T f := Heap.get?_push_of_some _ he3
  have keep4 : ∀ b o, b ≠ e → b ≠ it → hp.get? b = some o → (h3.push { cls := .type "tuple", data := .seq #[.int i tk, x] }).get? b = some o := fun b o hbe hbi hb =>
    Heap.get?_push_of_some _ (hs3.extBut b o hbe (hs2.extBut b o hbe (hs1.extBut b o hbi hb)))
  have ht4 : (h3.push { cls := .type "tuple", data := .seq #[.int i tk, x] }).get? hp.objs.size = some { cls := .type "tuple", data := .seq #[.int i tk, x] } := by rw [← hsz]; exact Heap.get?_push_size _ rfl
  have st4 : St (i + 1) (h3.push { cls := .type "tuple", data := .seq #[.int i tk, x] }) := D.frame _ _ _ st1 fun b hb o y => by
    have hbe : b ≠ e := fun q => hef (q ▸ hb)
    exact Heap.get?_push_of_some _ (hs3.extBut b o hbe (hs2.extBut b o hbe y))
  have hel : e < hp.objs.size := Heap.lt_size he
  show wpAny _ _ (Builtin.SmallTypes.ownedTupleIsFree (.ref e) >>= _) _ _ ⟨h3.push { cls := .type "tuple", data := .seq #[.int i tk, x] }, g, d, tk + 1, os⟩
  refine wpAny_bind (wpAny_tupleHeld_enum (s := ⟨h3.push { cls := .type "tuple", data := .seq #[.int i tk, x] }, g, d, tk + 1, os⟩) he4 (keep4 T oT hTe hTi hT) fun h5 he5 hs5 => ?_)
  simp only [Bool.false_eq_true, if_false]
  rw [hsz]
  have hs5 : Heap.SameBut e (h3.push { cls := .type "tuple", data := .seq #[.int i tk, x] }) h5 := hs5
  refine wpAny_pure ⟨_, rfl, wpAny_pure (hQ x h5 tk hP he5 (D.frame _ _ _ st4 fun b hb o y => hs5.extBut b o (fun q => hef (q ▸ hb)) y) (hs5.extBut _ _ (Nat.ne_of_gt hel) ht4) ?_ fun b o hbe hbi hb => hs5.extBut b o hbe (keep4 b o hbe hbi hb))⟩
  rw [hs5.1, Heap.size_push, hsz]
end
/-- the list S of the first i pairs -/
structure FarE (S lo : Addr) (items : Array Value) (h0 : Heap) (ch : List Addr) (i : Nat) (h : Heap) (as : List Addr) : Prop where
  ls : ∃ c, h.get? S = some { cls := .type "list", dict := none, data := .seq (as.map Value.ref).toArray c, slots := #[] }
  ln : as.length = i
  pr : ∀ j b, as[j]? = some b → lo ≤ b ∧ ∃ t x, items[j]? = some x ∧ h.get? b = some { cls := .type "tuple", data := .seq #[.int (j : Nat) t, x] }
  nd : as.Nodup
  kp : ∀ b o, b ∉ ch → h0.get? b = some o → h.get? b = some o
structure Far (e it a S lo : Addr) (items : Array Value) (h0 : Heap) (i : Nat) (h : Heap) (as : List Addr) : Prop where
  en : (i = 0 ∧ IsEnum h e it ((i : Nat) : Int) .none) ∨ ∃ old T f oT, IsEnumHeld h e it ((i : Nat) : Int) old T f ∧ h.get? T = some oT ∧ T ≠ e ∧ T ≠ it ∧ T ≠ S
  itr : h.IsTupleIter it a i
  tp : h.IsTuple a items
  e : FarE S lo items h0 [S, e, it] i h as
theorem FarE.end {S lo e it : Addr} {items : Array Value} {h0 h h' : Heap} {i : Nat} {as : List Addr} (F : FarE S lo items h0 [S, e, it] i h as) (eb : Heap.ExtBut it h h') (hSi : S ≠ it) (hil : it < lo) : FarE S lo items h0 [S, e, it] i h' as :=
  ⟨let ⟨c, q⟩ := F.ls; ⟨c, eb S _ hSi q⟩, F.ln, fun j b hb => let ⟨h1, t, x, h3, h4⟩ := F.pr j b hb; ⟨h1, t, x, h3, eb b _ (fun z => by rw [z] at h1; exact absurd hil (Nat.not_lt.mpr h1)) h4⟩, F.nd, fun b o hb q => eb b o (fun z => hb (by simp [z])) (F.kp b o hb q)⟩
/-- one more pair, laid at q -/
theorem Far.step {e it a S lo q : Addr} {items : Array Value} {h0 h h' h'' : Heap} {i : Nat} {as : List Addr} {t : Tok} {x : Value} (F : Far e it a S lo items h0 i h as) (hne : e ≠ it) (hea : e ≠ a) (hai : a ≠ it) (hSe : S ≠ e) (hSi : S ≠ it) (hSa : S ≠ a) (hel : e < lo) (hil : it < lo) (hSl : S < lo) (hx : items[i]? = some x)
    (eq : q = h.objs.size) (hlo : lo ≤ h.objs.size) (he : ∃ old T f oT, IsEnumHeld h' e it ((i + 1 : Nat) : Int) old T f ∧ h'.get? T = some oT ∧ T ≠ e ∧ T ≠ it ∧ T ≠ S) (hit : h'.IsTupleIter it a (i + 1)) (hq : h'.get? q = some { cls := .type "tuple", data := .seq #[.int (i : Nat) t, x] })
    (kp : ∀ b o, b ≠ e → b ≠ it → h.get? b = some o → h'.get? b = some o) (hS : ∃ c, h''.get? S = some { cls := .type "list", dict := none, data := .seq ((as ++ [q]).map Value.ref).toArray c, slots := #[] }) (sb : ∀ b, b ≠ S → h''.get? b = h'.get? b) : Far e it a S lo items h0 (i + 1) h'' (as ++ [q]) := by
  have up : ∀ b o, b ≠ e → b ≠ it → b ≠ S → h.get? b = some o → h''.get? b = some o := fun b o h1 h2 h3 e => by rw [sb b h3]; exact kp b o h1 h2 e
  have low : ∀ {b c : Addr}, lo ≤ b → c < lo → b ≠ c := fun {b c} h1 h2 z => by rw [z] at h1; exact absurd h2 (Nat.not_lt.mpr h1)
  refine ⟨.inr ?_, ?_, ?_, ⟨hS, by rw [List.length_append, F.e.ln]; rfl, fun j b hb => ?_, ?_, fun b o hb q' => ?_⟩⟩
  · obtain ⟨old, T, f, oT, h1, h2, h3, h4, h5⟩ := he
    refine ⟨old, T, f, oT, ?_, by rw [sb T h5]; exact h2, h3, h4, h5⟩
    show h''.get? e = _
    rw [sb e (Ne.symm hSe)]
    exact h1
  · obtain ⟨o, h1, h2⟩ := hit
    exact ⟨o, by rw [sb it (Ne.symm hSi)]; exact h1, h2⟩
  · obtain ⟨o, h1, h2⟩ := F.tp
    exact ⟨o, up a o (Ne.symm hea) hai (Ne.symm hSa) h1, h2⟩
  · by_cases hj : j < as.length
    · rw [List.getElem?_append_left hj] at hb
      obtain ⟨h1, t2, x2, h3, h4⟩ := F.e.pr j b hb
      exact ⟨h1, t2, x2, h3, up b _ (low h1 hel) (low h1 hil) (low h1 hSl) h4⟩
    · have hj2 : j = as.length := by
        have := (List.getElem?_eq_some_iff.mp hb).1
        simp at this
        omega
      subst hj2
      rw [List.getElem?_append_right (Nat.le_refl _), Nat.sub_self] at hb
      cases hb
      rw [F.e.ln]
      refine ⟨by rw [eq]; exact hlo, t, x, hx, ?_⟩
      rw [sb q (low (by rw [eq]; exact hlo) hSl)]
      exact hq
  · refine List.nodup_append.mpr ⟨F.e.nd, by simp, fun b hb c hc => ?_⟩
    rw [List.mem_singleton.mp hc]
    obtain ⟨j, hj⟩ := List.mem_iff_getElem?.mp hb
    intro z
    obtain ⟨_, _, _, _, h4⟩ := F.e.pr j b hj
    have h2 := Heap.lt_size h4
    rw [z, eq] at h2
    exact absurd h2 (Nat.lt_irrefl _)
  · have h1 : b ≠ S := fun z => hb (by simp [z])
    have h2 : b ≠ e := fun z => hb (by simp [z])
    have h3 : b ≠ it := fun z => hb (by simp [z])
    exact up b o h2 h3 h1 (F.e.kp b o hb q')
section
variable {prog : Program} {w : World} {A : Around} {R : Result → Shared → Prop}
theorem far_loop {e it a S lo : Addr} {items : Array Value} {h0 : Heap} (res : Value) (hh : A.handled = none) (hai : a ≠ it) (hne : e ≠ it) (hea : e ≠ a) (hSe : S ≠ e) (hSi : S ≠ it) (hSa : S ≠ a) (hn : items.size ≤ sizeLine) (hSl : S < lo) (hel : e < lo) (hil : it < lo) :
    ∀ (k i : Nat) (s : Shared) (as : List Addr), items.size - i = k → i ≤ items.size → lo ≤ s.heap.objs.size → Far e it a S lo items h0 i s.heap as →
    (∀ (h' : Heap) (tk : Nat) (bs : List Addr), FarE S lo items h0 [S, e, it] items.size h' bs → R (.ok (.ret res)) { s with heap := h', toks := tk }) →
    codeAny (model prog w) A (.builtin "list.extend.loop" ⟨[.ref S, .ref e, res], []⟩) R s := by
  have D := Draws.tuple (prog := prog) (w := w) (A := A.in1.in1) hh it a hai items
  intro k
  induction k with
  | zero =>
    intro i s as hk hi hlo F hR
    have hin : i = items.size := by omega
    subst hin
    refine codeAny_builtin PySem.F.entry_extend_loop ?_
    rw [Around.under_plainId PySem.F.plain_extend_loop _]
    show wpAny _ A.in1 (pyNext (.ref e) >>= _) _ _ s
    have fin : ∀ h' : Heap, Heap.ExtBut it s.heap h' → R (.ok (.ret res)) { s with heap := h' } := fun h' eb => hR h' s.toks as (F.e.end eb hSi hil)
    have hx : items[items.size]? = none := Array.getElem?_eq_none (Nat.le_refl _)
    rcases F.en with ⟨h1, he⟩ | ⟨old, T, f, oT, he, _⟩
    · exact wpAny_bind (enumT_end hh he F.itr F.tp hx fun h' eb => wpAny_pure (fin h' eb))
    · exact wpAny_bind (enumT_end hh he F.itr F.tp hx fun h' eb => wpAny_pure (fin h' eb))
  | succ k ih =>
    intro i s as hk hi hlo F hR
    have hlt : i < items.size := by omega
    refine codeAny_builtin PySem.F.entry_extend_loop ?_
    rw [Around.under_plainId PySem.F.plain_extend_loop _]
    show wpAny _ A.in1 (pyNext (.ref e) >>= _) _ _ s
    have turn : ∀ (x : Value) (h' : Heap) (tk : Nat), items[i]? = some x → (∃ old T f oT, IsEnumHeld h' e it ((i + 1 : Nat) : Int) old T f ∧ h'.get? T = some oT ∧ T ≠ e ∧ T ≠ it ∧ T ≠ S) → h'.IsTupleIter it a (i + 1) → h'.get? s.heap.objs.size = some { cls := .type "tuple", data := .seq #[.int (i : Nat) tk, x] } → h'.objs.size = s.heap.objs.size + 1 →
        (∀ b o, b ≠ e → b ≠ it → s.heap.get? b = some o → h'.get? b = some o) → wpAny (model prog w) A.in1 (do Builtin.List.listUpdate (.ref S) (·.push (.ref s.heap.objs.size)); again (.builtin "list.extend.loop" ⟨[.ref S, .ref e, res], []⟩)) (fun fin s' => match fin with | .done f => R (.ok f) s' | .again c' => c'.quiet = true ∧ codeAny (model prog w) A c' R s') (fun e s' => R (.error e) s') { s with heap := h', toks := tk + 1 } := by
      intro x h' tk hx he hit hq hz kp
      obtain ⟨c, hS⟩ := F.e.ls
      have hS' := kp S _ hSe hSi hS
      show wpAny _ A.in1 (updateSeq S (·.push (.ref s.heap.objs.size)) >>= _) _ _ _
      have hsz : (as.map Value.ref).toArray.size = i := by simp [F.e.ln]
      refine wpAny_bind (wpAny_updateSeq hS' rfl (wpAny_pure ⟨plainId_quiet PySem.F.plain_extend_loop _, ih (i + 1) _ (as ++ [s.heap.objs.size]) (by omega) (by omega) ?_ (F.step (h' := h') hne hea hai hSe hSi hSa hel hil hSl hx rfl hlo he hit hq kp ?_ (fun b hb => Heap.get?_update_other _ _ (Ne.symm hb))) fun h2 tk2 bs F2 => hR h2 tk2 bs F2⟩) (by rw [hsz]; omega) (by show ((as.map Value.ref).toArray.push _).size ≤ _; rw [Array.size_push, hsz]; omega))
      · show lo ≤ (h'.update S _).objs.size
        rw [Heap.size_update, hz]
        exact Nat.le_succ_of_le hlo
      · have q := get?_update_seq (c := "list") hS' (·.push (Value.ref s.heap.objs.size))
        rw [show (as.map Value.ref).toArray.push (Value.ref s.heap.objs.size) = ((as ++ [s.heap.objs.size]).map Value.ref).toArray by simp] at q
        exact ⟨_, q⟩
    have hx : items[i]? = some items[i] := Array.getElem?_eq_getElem hlt
    have out : e ∉ [it, a] := by simp [hne, hea]
    rcases F.en with ⟨h1, he⟩ | ⟨old, T, f, oT, he, hT, hTe, hTi, hTS⟩
    · refine wpAny_bind (wpAny_pyNext_enum_itemC D he ⟨F.itr, F.tp⟩ hlt hne out fun x h' tk hP ho st' hT hsz hk => ?_)
      refine turn x h' tk hP ⟨x, s.heap.objs.size, false, _, by rw [show ((i + 1 : Nat) : Int) = (i : Int) + 1 by omega]; exact ho, hT, ?_, ?_, ?_⟩ st'.1 hT hsz hk
      · exact fun z => absurd hel (Nat.not_lt.mpr (by rw [← z]; exact hlo))
      · exact fun z => absurd hil (Nat.not_lt.mpr (by rw [← z]; exact hlo))
      · exact fun z => absurd hSl (Nat.not_lt.mpr (by rw [← z]; exact hlo))
    · refine wpAny_bind (next_held D he hT hTe hTi ⟨F.itr, F.tp⟩ hlt hne out fun x h' tk hP ho st' hq hsz hk => ?_)
      exact turn x h' tk hP ⟨old, T, true, oT, by rw [show ((i + 1 : Nat) : Int) = (i : Int) + 1 by omega]; exact ho, hk T oT hTe hTi hT, hTe, hTi, hTS⟩ st'.1 hq hsz hk
/-- list(e), e an enumerate that has just been made -/
theorem call_list_enum {E : Value → Shared → Prop} {s : Shared} {e it a : Addr} {items : Array Value} {Q : Value → Shared → Prop} (hh : A.handled = none) (hai : a ≠ it) (hne : e ≠ it) (hea : e ≠ a) (hn : items.size ≤ sizeLine)
    (he : IsEnum s.heap e it 0 .none) (hit : s.heap.IsTupleIter it a 0) (ht : s.heap.IsTuple a items)
    (hQ : ∀ (h' : Heap) (tk : Nat) (bs : List Addr), FarE s.heap.objs.size (s.heap.objs.size + 1) items s.heap [s.heap.objs.size, e, it] items.size h' bs → Q (.ref s.heap.objs.size) { s with heap := h', toks := tk }) :
    wpAny (model prog w) A (call (.type "list") [.ref e]) Q E s := by
  have hel : e < s.heap.objs.size := Heap.lt_size he
  obtain ⟨oi, hoi, ci, di⟩ := id hit
  have hil : it < s.heap.objs.size := Heap.lt_size hoi
  obtain ⟨oa, hoa, ra⟩ := id ht
  have hal : a < s.heap.objs.size := Heap.lt_size hoa
  refine callType_codes (Q₁ := fun obj s₁ => obj = .ref s.heap.objs.size ∧ s₁ = { s with heap := s.heap.push { cls := .type "list", data := .seq #[] } }) PySem.F.called_list (PySem.F.typeCall_list_1 _) PySem.F.entry_list_init (code_list_new _ ⟨rfl, rfl⟩) fun obj s₁ h₁ => ?_
  obtain ⟨rfl, rfl⟩ := h₁
  have kp1 : ∀ b o, s.heap.get? b = some o → (s.heap.push { cls := .type "list", data := .seq #[] }).get? b = some o := fun b o e => Heap.get?_push_of_some _ e
  have hS : (s.heap.push { cls := .type "list", data := .seq #[] }).get? s.heap.objs.size = some { cls := .type "list", data := .seq #[] } := Heap.get?_push_size _ rfl
  refine ⟨⟨_, hS, rfl⟩, PySem.F.args_list_init_2 _ _, ?_⟩
  show wpAny _ A.in1.in1 (do let old ← Builtin.List.listItems (.ref s.heap.objs.size); Builtin.List.listUpdate (.ref s.heap.objs.size) (fun _ => #[]); letGo old.toList.reverse; Builtin.List.listExtendWith (.ref s.heap.objs.size) (.ref e) .none) _ _ _
  refine wpAny_bind ?_
  unfold Builtin.List.listItems
  refine wpAny_bind (wpAny_seqItems hS rfl (wpAny_pure ?_))
  show wpAny _ A.in1.in1 (updateSeq s.heap.objs.size (fun _ => #[]) >>= fun _ => letGo (#[] : Array Value).toList.reverse >>= fun _ => Builtin.List.listExtendWith (.ref s.heap.objs.size) (.ref e) .none) _ _ _
  refine wpAny_bind (wpAny_updateSeq hS rfl (wpAny_bind (wpAny_letGo ?_)))
  have up : ∀ (g : Obj → Obj) (h : Heap), (∀ b o, s.heap.get? b = some o → h.get? b = some o) → ∀ b o, s.heap.get? b = some o → (h.update s.heap.objs.size g).get? b = some o := fun g h k b o e => (Heap.get?_update_other _ _ (Nat.ne_of_gt (Heap.lt_size e))).trans (k b o e)
  have hS2 := Heap.get?_update_self (Obj.mapSeq (fun _ => (#[] : Array Value))) hS rfl
  have kp2 := up (Obj.mapSeq (fun _ => (#[] : Array Value))) _ kp1
  have hz2 : ((s.heap.push { cls := .type "list", data := .seq #[] }).update s.heap.objs.size (Obj.mapSeq (fun _ => (#[] : Array Value)))).objs.size = s.heap.objs.size + 1 := by rw [Heap.size_update, Heap.size_push]
  generalize (s.heap.push { cls := .type "list", data := .seq #[] }).update s.heap.objs.size (Obj.mapSeq (fun _ => (#[] : Array Value))) = h2 at hS2 kp2 hz2 ⊢
  have hT : Shared.TypeIs { s with heap := h2 } (.ref e) "enumerate" := ⟨_, kp2 _ _ he, rfl⟩
  unfold Builtin.List.listExtendWith
  refine wpAny_bind (wpAny_typeOf hT ?_)
  have n1 : Builtin.List.listSameRef (.ref s.heap.objs.size) (.ref e) = false := by simp [Builtin.List.listSameRef, Nat.ne_of_gt hel]
  have n2 : (Value.type "enumerate" == Value.type "list") = false := by decide
  have n3 : (Value.type "enumerate" == Value.type "tuple") = false := by decide
  simp only [n1, n2, n3, Bool.or_false, Bool.false_eq_true, if_false]
  refine wpAny_bind (wpAny_pyIter_enum (kp2 _ _ he) ?_)
  refine wpAny_bind (wpAny_holding ?_)
  unfold Builtin.List.listLengthHint
  refine wpAny_bind (wpAny_specialOf hT enum_no_len ?_)
  show wpAny _ A.in1.in1 (specialOf (Value.ref e) (Str.ofString "__length_hint__") >>= _) _ _ _
  refine wpAny_bind (wpAny_specialOf hT enum_no_hint (wpAny_pure ?_))
  show wpAny _ A.in1.in1 (rule "list.extend.makes-room" >>= fun _ => Builtin.List.listTouch (.ref s.heap.objs.size) >>= fun _ => again (.builtin "list.extend.loop" ⟨[.ref s.heap.objs.size, .ref e, .none], []⟩)) _ _ _
  refine wpAny_bind (wpAny_rule (wpAny_bind ?_))
  show wpAny _ A.in1.in1 (updateSeq s.heap.objs.size (·.push .none) >>= fun _ => updateSeq s.heap.objs.size (·.pop)) _ _ _
  refine wpAny_bind (wpAny_updateSeq hS2 rfl ?_)
  have hS3 := Heap.get?_update_self (Obj.mapSeq (·.push Value.none)) hS2 rfl
  have kp3 := up (Obj.mapSeq (·.push Value.none)) _ kp2
  refine wpAny_updateSeq (hz := by seq_fits) hS3 rfl ?_
  have hS4 := Heap.get?_update_self (Obj.mapSeq (·.pop)) hS3 rfl
  have kp4 := up (Obj.mapSeq (·.pop)) _ kp3
  refine wpAny_pure ⟨plainId_quiet PySem.F.plain_extend_loop _, far_loop (A := A.in1) (lo := s.heap.objs.size + 1) (h0 := s.heap) .none hh hai hne hea (Nat.ne_of_gt hel) (Nat.ne_of_gt hil) (Nat.ne_of_gt hal) hn (Nat.lt_succ_self _) (Nat.lt_succ_of_lt hel) (Nat.lt_succ_of_lt hil) items.size 0 _ [] rfl (Nat.zero_le _) ?_
    ⟨.inl ⟨rfl, kp4 _ _ he⟩, ⟨oi, kp4 _ _ hoi, ci, di⟩, ⟨oa, kp4 _ _ hoa, ra⟩, ⟨⟨_, hS4⟩, rfl, fun j b hb => by simp at hb, List.nodup_nil, fun b o _ q => kp4 b o q⟩⟩ fun h' tk bs F => ⟨rfl, hQ h' tk bs F⟩⟩
  show s.heap.objs.size + 1 ≤ ((h2.update _ _).update _ _).objs.size
  rw [Heap.size_update, Heap.size_update, hz2]
  exact Nat.le_refl _
end
/-! ### as a rule -/
def tLiEn (K : PySem.W.Frag) (ta : TE) : TE := fun σ H Q => ta σ H fun x H1 => ∃ (l : Addr) (xs : List V), x = .ref l ∧ SqT K H1 l xs ∧ ∀ (p : Addr) (as : List Addr) (H2 : Hp), H1 p = none → (∀ b ∈ as, H1 b = none) → p ∉ as → as.Nodup → as.length = xs.length → Same H1 H2 →
  H2 p = some (.lst (as.map V.ref)) → (∀ (j : Nat) (b : Addr) (y : V), as[j]? = some b → xs[j]? = some y → H2 b = some (.tup [.int (j : Nat), y])) → Q (.ref p) H2
theorem pe_liEn {X : Cx} {a : Expr} {ta : TE} {p p2 q pos : Pos} (hg : Gl X "list") (hm : X.mg "list" = none) (hg2 : Gl X "enumerate") (hm2 : X.mg "enumerate" = none) (ha : PE X a ta) (hc : X.calm = true)
    (na : starEach [a] X.env = (false, eval a X.env) :: starEach [] X.env := by rfl) (nb : starEach [Expr.Call (.Name "enumerate" p2) [a] [] q] X.env = (false, eval (Expr.Call (.Name "enumerate" p2) [a] [] q) X.env) :: starEach [] X.env := by rfl) : PE X (.Call (.Name "list" p) [.Call (.Name "enumerate" p2) [a] [] q] [] pos) (tLiEn X.K ta) := ⟨fun pins s σ H Q I h => by
  refine Call_ (ld_blt I hg hm boot_list (PyProof.Rows.callWith_type1 (PyProof.Rows.args_cons ?_ nb) nb rfl))
  refine Call_ (ld_blt I hg2 hm2 boot_enumerate (PyProof.Rows.callWith_type1 (PyProof.Rows.args_cons (thn (ha.run pins s σ H _ I h) fun v s1 ⟨x, H1, I1, r1, l, xs, ex, hq, q1⟩ => PyProof.Rows.args_nil ?_) na) na rfl))
  subst ex
  cases r1
  obtain ⟨its, rv, p', hz⟩ := I1.tuple hq
  refine call_enum1 (begins_tuple l its.toArray) p' fun h' he hit hsz hk => PyProof.Rows.args_nil ?_
  have I2 : Inv X pins σ H1 { s1 with heap := h' } := I1.kept (t' := s1.toks) hk
  have hl : l < s1.heap.objs.size := let ⟨o, ho, _⟩ := p'; Heap.lt_size ho
  have lenv : its.length = xs.length := rv.length.symm
  refine call_list_enum (I1.ok.hd hc) (Nat.ne_of_lt hl) (Nat.succ_ne_self _) (Nat.ne_of_gt (Nat.lt_succ_of_lt hl)) (by rw [List.size_toArray, lenv]; exact hz) he ⟨_, hit, rfl, rfl⟩ (by obtain ⟨o, ho, r⟩ := p'; exact ⟨o, hk _ _ ho, r⟩) fun h2 tk bs F => ?_
  have hsz' : s1.heap.objs.size ≤ h'.objs.size := by rw [hsz]; exact Nat.le_add_right _ _
  have kp : ∀ b o, s1.heap.get? b = some o → h2.get? b = some o := fun b o e => by
    have hb := Heap.lt_size e
    refine F.kp b o (fun z => ?_) (hk b o e)
    rcases (show b = h'.objs.size ∨ b = s1.heap.objs.size + 1 ∨ b = s1.heap.objs.size by simpa using z) with z | z | z
    · rw [z] at hb; exact absurd (Nat.lt_of_le_of_lt hsz' hb) (Nat.lt_irrefl _)
    · rw [z] at hb; exact absurd (Nat.lt_of_succ_lt hb) (Nat.lt_irrefl _)
    · rw [z] at hb; exact absurd hb (Nat.lt_irrefl _)
  have I3 : Inv X pins σ H1 { s1 with heap := h2, toks := tk } := I1.kept kp
  obtain ⟨c, hS⟩ := F.ls
  have hbs : bs.length = xs.length := by rw [F.ln, List.size_toArray, lenv]
  have I4 : Inv X pins σ (upd H1 h'.objs.size (.lst (bs.map V.ref))) { s1 with heap := h2, toks := tk } :=
    I3.take (h' := h2) (t' := tk) (fun b ob _ e => e) (I1.fpOk hsz' (I1.hok.fresh hsz')) (show ObjOk X.prog X.w _ h2 _ (.lst (bs.map V.ref)) from ⟨by rw [List.length_map, hbs]; exact hz, bs.map Value.ref, c, vals_refs bs, hS⟩)
  have geb : ∀ {b : Addr}, b ∈ bs → h'.objs.size + 1 ≤ b := fun {b} hb => by
    obtain ⟨j, hj⟩ := List.mem_iff_getElem?.mp hb
    exact (F.pr j b hj).1
  have neS : ∀ {b : Addr}, b ∈ bs → b ≠ h'.objs.size := fun {b} hb z => by
    have := geb hb
    rw [z] at this
    exact absurd this (Nat.not_le.mpr (Nat.lt_succ_self _))
  have fr : ∀ {b : Addr}, b ∈ bs → H1 b = none := fun {b} hb => I1.hok.fresh (Nat.le_trans hsz' (Nat.le_of_succ_le (geb hb)))
  obtain ⟨H2, I5, up, ts⟩ := L2.DX.takeT (P := fun b vs => ∀ (j : Nat) (y : V), bs[j]? = some b → xs[j]? = some y → vs = [.int (j : Nat), y]) I1 bs _ I4 F.nd fun b hb => by
    refine ⟨Nat.le_trans hsz' (Nat.le_of_succ_le (geb hb)), by rw [upd_ne (neS hb)]; exact fr hb, ?_⟩
    obtain ⟨j, hj⟩ := List.mem_iff_getElem?.mp hb
    obtain ⟨_, t, x, hx, ht⟩ := F.pr j b hj
    have hlt := (List.getElem?_eq_some_iff.mp hj).1
    rw [hbs] at hlt
    obtain ⟨u, hu, ru⟩ := rv.get (List.getElem?_eq_getElem hlt)
    have hx : its[j]? = some x := by rw [← hx]; simp
    rw [hu] at hx
    rw [← Option.some.inj hx] at ht
    refine ⟨[.int (j : Nat), xs[j]], fun j' y hj' hy => ?_, fun H2 => (show ObjOk X.prog X.w H2 h2 b (.tup [.int (j : Nat), xs[j]]) from ⟨by show 2 ≤ sizeLine; decide, [.int (j : Nat) t, u], .cons ⟨_, rfl⟩ (.cons ru .nil), ⟨_, ht, rfl, _, rfl⟩⟩)⟩
    have ej : j' = j := by
      have l1 := (List.getElem?_eq_some_iff.mp hj').1
      exact (List.getElem?_inj l1 F.nd).mp (hj'.trans hj.symm)
    subst ej
    rw [List.getElem?_eq_getElem hlt] at hy
    cases hy
    rfl
  refine ⟨.ref h'.objs.size, H2, I5, rfl, q1 _ bs H2 (I1.hok.fresh hsz') (fun b hb => fr hb) (fun hm => neS hm rfl) F.nd hbs (fun b o e => up b o (by rw [upd_ne (ne_of_none e (I1.hok.fresh hsz'))]; exact e)) (up _ _ upd_same) fun j b y hj hy => ?_⟩
  obtain ⟨vs, hvs, e⟩ := ts b (List.mem_of_getElem? hj)
  rw [e, hvs j y hj hy]⟩
end VL
end
section
/-! VS9: walks over dicts, zip, enumerate; locks -/
namespace VS
open PySem PySem.Spec PyProof.Rows L2
/-! ### a dict that is walked is locked -/
def unB (B : Hp) (d : Addr) (o : HO) : Hp := upd B d o
section
variable {b : Bs} {σ : L2.St} {G H G3 H3 : Hp} {ρ ρ3 : Rho} {μ μ3 : Mem} {σ3 : L2.St} {d : Addr} {ws : List (List Key × V)} {od : Obj}
theorem Rel.lock (R : Rel b σ G H ρ μ) (gd : G d = some (.dT ws)) : Rel { b with B := upd b.B d (.frz od (.dT ws)), G0 := G, lk := d :: b.lk } σ G (upd H d (.frz od (.dT ws))) ρ μ := by
  refine ⟨fun x o q => ?_, fun x o q => ?_, .refl G, fun x q _ => q, R.len, R.dat, fun j c q => ?_, R.dis, R.pin, fun x w q n => ?_⟩
  · have q : upd b.B d (.frz od (.dT ws)) x = some o := q
    by_cases z : x = d
    · subst z; rw [upd_same] at q ⊢; exact q
    · rw [upd_ne z] at q ⊢; exact R.bh x o q
  · by_cases z : x = d
    · subst z
      rw [gd] at q
      cases q
      exact .inr ⟨⟨od, upd_same⟩, ws, rfl⟩
    · rcases R.gh x o q with h | ⟨⟨y, h⟩, w⟩
      · exact .inl (by rw [upd_ne z]; exact h)
      · exact .inr ⟨⟨y, by rw [upd_ne z]; exact h⟩, w⟩
  · obtain ⟨a, s, c1, ga, ba⟩ := R.own j c q
    have z : a ≠ d := fun z => by rw [z, gd] at ga; cases ga
    exact ⟨a, s, c1.up (.refl G) (upd_ne z), ga, by show upd b.B d (.frz od (.dT ws)) a = none; rw [upd_ne z]; exact ba⟩
  · have n : x ∉ d :: b.lk := n
    have z : x ≠ d := fun z => n (by rw [z]; exact List.mem_cons_self)
    rw [upd_ne z]
    exact R.nl x w q fun m => n (List.mem_cons_of_mem _ m)
theorem Rel.unlock (R : Rel b σ G H ρ μ) (gd : G d = some (.dT ws)) (hd : d ∉ b.lk) (R3 : Rel { b with B := upd b.B d (.frz od (.dT ws)), G0 := G, lk := d :: b.lk } σ3 G3 H3 ρ3 μ3) : H3 d = some (.frz od (.dT ws)) ∧ Rel b σ3 G3 (upd H3 d (.dT ws)) ρ3 μ3 := by
  have h3 : H3 d = some (.frz od (.dT ws)) := R3.bh d _ upd_same
  have g3 : G3 d = some (.dT ws) := R3.g0 d _ gd
  refine ⟨h3, ⟨fun x o q => ?_, fun x o q => ?_, R.g0.trans R3.g0, fun x q n => ?_, R3.len, R3.dat, fun j c q => ?_, R3.dis, R3.pin, fun x w q n => ?_⟩⟩
  · by_cases z : x = d
    · subst z
      have e1 := R.bh x o q
      rw [R.nl x ws gd hd] at e1
      rw [upd_same, e1]
    · rw [upd_ne z]
      refine R3.bh x o ?_
      show upd b.B d (.frz od (.dT ws)) x = some o
      rw [upd_ne z]
      exact q
  · by_cases z : x = d
    · subst z
      rw [g3] at q
      cases q
      exact .inl upd_same
    · rw [upd_ne z]
      exact R3.gh x o q
  · have z : x ≠ d := fun z => by
      have := R.sep x q n
      rw [z, gd] at this
      cases this
    refine R3.sep x (R.sep x q n) ?_
    show NT (upd b.B d (.frz od (.dT ws)) x)
    rw [upd_ne z]
    exact n
  · obtain ⟨a, s, c1, ga, ba⟩ := R3.own j c q
    have z : a ≠ d := fun z => by rw [z, g3] at ga; cases ga
    have ba : upd b.B d (.frz od (.dT ws)) a = none := ba
    rw [upd_ne z] at ba
    exact ⟨a, s, c1.up (.refl _) (upd_ne z), ga, ba⟩
  · by_cases z : x = d
    · subst z
      rw [g3] at q
      cases q
      exact upd_same
    · rw [upd_ne z]
      refine R3.nl x w q fun m => ?_
      rcases List.mem_cons.mp m with m | m
      · exact z m
      · exact n m
end
def keysT (ks : KD) : List D := ks.map fun k => D.tup (k.1.map keyD)
theorem RpK.at {G : Hp} : ∀ {ws : List (List Key × V)} {ks : KD} {i : Nat} {k : List Key} {v : V}, RpK G ws ks → ws[i]? = some (k, v) → ∃ d, ks[i]? = some (k, d)
  | [], [], _, _, _, _, e => by simp at e
  | w :: ws, k' :: ks, 0, k, v, h, e => by
    simp at e
    subst e
    exact ⟨k'.2, by simp [Prod.ext_iff]; exact h.1.1.symm⟩
  | w :: ws, k' :: ks, i + 1, k, v, h, e => by
    obtain ⟨d, q⟩ := RpK.at (i := i) h.2 (by simpa using e)
    exact ⟨d, by simpa using q⟩
  | [], _ :: _, _, _, _, h, _ => h.elim
  | _ :: _, [], _, _, _, h, _ => h.elim
/-- the keys of the locked dict -/
theorem so_keysA {b : Bs} {σ : L2.St} {G H : Hp} {ρ : Rho} {μ : Mem} {te : TE} {d : Addr} {ws : List (List Key × V)} {ks : KD} {od : Obj} (R : Rel b σ G H ρ μ) (gd : G d = some (.dT ws)) (hb : b.B d = some (.frz od (.dT ws))) (hz : ks.length ≤ sizeLine) (rk : RpK G ws ks) (hk : ∀ p ∈ ks, Nat.ble p.1.length 16777216 = true)
    (ht : ∀ Q : VK, Q (.ref d) H → te σ H Q) : SoIa (iKeys te) b σ G H ρ (keysT ks) μ := fun Rc k => by
  have hl : (keysT ks).length = ws.length := by unfold keysT; rw [List.length_map, rk.len]
  refine ht _ ⟨d, od, rfl, .inr ⟨ws, R.bh d _ hb, ?_⟩⟩
  refine k (Itkt d od ws) _ _ G H (by unfold keysT; rw [List.length_map]; exact hz) (by rw [hl]; exact walk_keysT) R (.refl G) (fun G' H' s g q => q d od _ hb) fun i H' G' x H'' dd s g q hd y => ?_
  obtain ⟨rfl, k', v, a, e1, rfl, ha⟩ := y
  obtain ⟨dv, e2⟩ := rk.at e1
  have e3 : dd = .tup (k'.map keyD) := by
    unfold keysT at hd
    rw [List.getElem?_map, e2] at hd
    exact (Option.some.inj hd).symm
  subst e3
  obtain ⟨G2, x2, g2⟩ := Ext.take g ha
  refine ⟨G2, x2, a, _, rfl, g2, ?_, rp_keys k'⟩
  rw [List.length_map, sizeLine_eq]
  exact Nat.le_of_ble_eq_true (hk _ (List.mem_of_getElem? e2))
/-- a dict by its value -/
def dctOf (ε : EM) : Rho → Mem → Option (KD × Mem) := fun ρ μ => (ε ρ μ).bind fun p => match p.1 with
  | .dct ks => match ks.all fun k => Nat.ble k.1.length 16777216 with
    | true => some (ks, p.2)
    | false => none
  | _ => none
theorem dctOf_of {ε : EM} {ρ : Rho} {μ μ2 : Mem} {ks : KD} (h : dctOf ε ρ μ = some (ks, μ2)) : ε ρ μ = some (.dct ks, μ2) ∧ ∀ p ∈ ks, Nat.ble p.1.length 16777216 = true := by
  obtain ⟨⟨d, μ3⟩, e1, e2⟩ := bnd h
  cases d with
  | dct ks' =>
    have e2 : (match ks'.all fun k => Nat.ble k.1.length 16777216 with | true => some (ks', μ3) | false => none) = some (ks, μ2) := e2
    split at e2
    · rename_i ha
      cases e2
      exact ⟨e1, fun p hp => List.all_eq_true.mp ha p hp⟩
    · cases e2
  | _ => cases e2
/-- for k in d: d a local that holds data -/
def sForK (i : Nat) (τ : GM) (φ : SM) : SM := fun ρ μ => (dctOf (eVar i) ρ μ).bind fun p => forRun τ φ (keysT p.1) ρ p.2
section
variable {X : Cx} {tg : Expr} {body : List Stmt} {g : TG} {tb : TS} {τ : GM} {φ : SM} {is : List Nat} {pos : Pos} {i : Nat}
theorem so_forK (hg : SoG is g τ) (hb : SoS true tb φ) : SoS false (tLock (tFor (iKeys (tVar i)) g tb)) (sForK i τ φ) := fun b σ G H ρ μ o D hl R e a => by
  obtain ⟨⟨ks, μ2⟩, e1, e2⟩ := bnd e
  obtain ⟨e3, hk⟩ := dctOf_of e1
  obtain ⟨dd, e4, e5⟩ := mpd e3
  cases e5
  obtain ⟨v, s, r⟩ := R.dat i _ e4
  obtain ⟨d, ws, rfl, gd, hz, rk⟩ := r
  have hd : d ∉ b.lk := by rw [hl rfl]; exact List.not_mem_nil
  refine ⟨d, .dT ws, R.nl d ws gd hd, trivial, fun od => ?_⟩
  refine so_forA (b := { b with B := upd b.B d (.frz od (.dT ws)), G0 := G, lk := d :: b.lk }) (so_keysA (R.lock gd) gd upd_same hz rk hk fun Q q => ⟨_, s, q⟩) hg hb (fun z => by cases z) e2 ?_
  cases o with
  | nx ρ2 μ2 => exact fun σ2 G2 H2 R2 => let ⟨h, R3⟩ := R.unlock gd hd R2; ⟨h, a σ2 G2 _ R3⟩
  | rt x μ2 => exact fun v σ2 G2 H2 ρ2 R2 r2 => let ⟨h, R3⟩ := R.unlock gd hd R2; ⟨h, a v σ2 G2 _ ρ2 R3 r2⟩
  | rl x μ2 =>
    intro p vs σ2 G2 H2 ρ2 R2 h2 hz2 r2 g2 b2 n2
    obtain ⟨h, R3⟩ := R.unlock gd hd R2
    have hpd : p ≠ d := fun z => by rw [z, R2.g0 d _ gd] at g2; cases g2
    have b2 : upd b.B d (.frz od (.dT ws)) p = none := b2
    rw [upd_ne hpd] at b2
    exact ⟨h, a p vs σ2 G2 _ ρ2 R3 (by rw [upd_ne hpd]; exact h2) hz2 r2 g2 b2 n2⟩
  | bk ρ2 μ2 => exact fun σ2 G2 H2 R2 => let ⟨h, R3⟩ := R.unlock gd hd R2; ⟨h, a σ2 G2 _ R3⟩
  | ct ρ2 μ2 => exact fun σ2 G2 H2 R2 => let ⟨h, R3⟩ := R.unlock gd hd R2; ⟨h, a σ2 G2 _ R3⟩
theorem ds_forK (i : Nat) {x : Str} {p : Pos} (hp : PassesOwn (model X.prog X.w) X.A X.env X.xe) (hc : X.calm = true) (hg : DG X tg is g τ) (hb : DSs true X body tb φ) (hN : X.N[i]? = some x := by rfl) (hv : Vis X.env.scope x := by first | exact Or.inl rfl | exact Or.inr (Or.inl rfl) | exact Or.inr (Or.inr rfl)) (hd : (x == ("__debug__" : Str)) = false := by decide)
    (hcd : (x == ("__classdict__" : Str)) = false := by decide) (hs : ∀ y, foldedSetIterable (.Name x p) X.env y = pure y := by intro _; rfl) :
    DS false X (.For tg (.Name x p) body [] pos) (tLock (tFor (iKeys (tVar i)) g tb)) (sForK i τ φ) := ⟨ps_lock (ps_for hp hc (pi_keys (pv i hN hv hd hcd)) hg.pg hb.pss hs), so_forK hg.so hb.so⟩
end
/-- [.. for k in d] -/
def lLCK (i : Nat) (τ : GM) (υ : TM) (ε : EM) (vs : List Nat) : AM := fun ρ μ => (dctOf (eVar i) ρ μ).bind fun p => lcM τ υ ε vs (keysT p.1) (wipeR ρ vs) p.2
section
variable {X : Cx} {elt tg : Expr} {ifs : List Expr} {scope : Scope} {own : List (Str × Nat)} {pos : Pos} {g : TG} {tt : TT} {te : TE} {is vs : List Nat} {τ : GM} {υ : TM} {ε : EM} {i : Nat}
theorem so_lcK (hg : SoG is g τ) (ht : SoT true tt υ) (he : SoE true te ε) (hvs : ∀ i ∈ is, i ∈ vs) : SoL false (tLockE (tLc (iKeys (tVar i)) g tt te vs)) (lLCK i τ υ ε vs) := fun b σ G H ρ μ rs μ2 Q hl R e k => by
  obtain ⟨⟨ks, μ3⟩, e1, e2⟩ := bnd e
  obtain ⟨e3, hk⟩ := dctOf_of e1
  obtain ⟨dd, e4, e5⟩ := mpd e3
  cases e5
  obtain ⟨v, s, r⟩ := R.dat i _ e4
  obtain ⟨d, ws, rfl, gd, hz, rk⟩ := r
  have hd : d ∉ b.lk := by rw [hl rfl]; exact List.not_mem_nil
  refine ⟨d, .dT ws, R.nl d ws gd hd, trivial, fun od => ?_⟩
  refine so_lcA (b := { b with B := upd b.B d (.frz od (.dT ws)), G0 := G, lk := d :: b.lk }) (so_keysA (R.lock gd) gd upd_same hz rk hk fun Q q => ⟨_, s, q⟩) hg ht he hvs (fun z => by cases z) e2 fun a vs G2 H2 R2 s2 ha hz2 r2 ga ba hn => ?_
  obtain ⟨h, R3⟩ := R.unlock gd hd R2
  have had : a ≠ d := fun z => by rw [z, R2.g0 d _ gd] at ga; cases ga
  refine ⟨h, k a vs G2 _ R3 s2 (by rw [upd_ne had]; exact ha) hz2 r2 ga ?_ hn⟩
  have ba : upd b.B d (.frz od (.dT ws)) a = none := ba
  rw [upd_ne had] at ba
  exact ba
theorem dl_lcK (i : Nat) {x : Str} {p : Pos} (hc : X.calm = true) (hN0 : X.N.Nodup) (ok : BlkOk X.N X.env.scope scope own) (hvv : ∀ i ∈ is, i ∈ own.map (·.2))
    (hg : ∀ (s : Shared) (H : Hp) (C : Addr) (cl : List (Str × Addr)) (fp : List Addr), DG (X.blk s H scope (compEnvC scope cl C X.env) fp) tg is g τ)
    (ht : ∀ (s : Shared) (H : Hp) (C : Addr) (cl : List (Str × Addr)) (fp : List Addr), DTs true (X.blk s H scope (compEnvC scope cl C X.env) fp) ifs tt υ)
    (he : ∀ (s : Shared) (H : Hp) (C : Addr) (cl : List (Str × Addr)) (fp : List Addr), DE true (X.blk s H scope (compEnvC scope cl C X.env) fp) elt te ε)
    (hN : X.N[i]? = some x := by rfl) (hv : Vis X.env.scope x := by first | exact Or.inl rfl | exact Or.inr (Or.inl rfl) | exact Or.inr (Or.inr rfl)) (hd : (x == ("__debug__" : Str)) = false := by decide)
    (hcd : (x == ("__classdict__" : Str)) = false := by decide) (hs : ∀ y, foldedSetIterable (.Name x p) X.env y = pure y := by intro _; rfl) :
    DL false X (.ListComp elt [⟨tg, .Name x p, ifs, 0⟩] scope pos) (tLockE (tLc (iKeys (tVar i)) g tt te (own.map (·.2)))) (lLCK i τ υ ε (own.map (·.2))) :=
  ⟨pe_lock (pe_lc hc hN0 (pi_keys (pv i hN hv hd hcd)) ok (fun s H C cl fp => (hg s H C cl fp).pg) (fun s H C cl fp => (ht s H C cl fp).pts) (fun s H C cl fp => (he s H C cl fp).pe) hs),
   so_lcK (hg X.s_0 X.H_0 0 [] []).so (ht X.s_0 X.H_0 0 [] []).so (he X.s_0 X.H_0 0 [] []).so hvv⟩
end
/-! ### {k: v for ..} -/
def dcM (τ : GM) (υ : TM) (κ : EM) (ε : EM) (vs : List Nat) : List D → KD → Rho → Mem → Option (KD × Mem)
  | [], acc, _, μ => match freeM μ vs with
    | true => some (acc, μ)
    | false => none
  | d :: ds, acc, ρ, μ => match freeM μ vs with
    | true => (τ d ρ μ).bind fun q => (υ q.1 q.2).bind fun c => match c.1 with
      | true => (κ q.1 c.2).bind fun y => match y.1 with
        | .tup es => (keysOf es).bind fun k => (ε q.1 y.2).bind fun x => dcM τ υ κ ε vs ds (putD acc k x.1) ρ x.2
        | _ => none
      | false => dcM τ υ κ ε vs ds acc ρ c.2
    | false => none
section
variable {τ : GM} {υ : TM} {κ ε : EM} {vs : List Nat} {d : D} {ds : List D} {acc : KD} {ρ : Rho} {μ : Mem} {r : KD × Mem}
theorem dcM_free (h : dcM τ υ κ ε vs ds acc ρ μ = some r) : freeM μ vs = true := by
  cases ds with
  | nil =>
    have h : (match freeM μ vs with | true => some (acc, μ) | false => none) = some r := h
    split at h
    · assumption
    · cases h
  | cons d ds =>
    unfold dcM at h
    split at h
    · assumption
    · cases h
theorem dcM_nil (h : dcM τ υ κ ε vs [] acc ρ μ = some r) : r = (acc, μ) := by
  have h : (match freeM μ vs with | true => some (acc, μ) | false => none) = some r := h
  split at h
  · exact (Option.some.inj h).symm
  · cases h
theorem dcM_cons (h : dcM τ υ κ ε vs (d :: ds) acc ρ μ = some r) :
    ((τ d ρ μ).bind fun q => (υ q.1 q.2).bind fun c => match c.1 with
      | true => (κ q.1 c.2).bind fun y => match y.1 with
        | .tup es => (keysOf es).bind fun k => (ε q.1 y.2).bind fun x => dcM τ υ κ ε vs ds (putD acc k x.1) ρ x.2
        | _ => none
      | false => dcM τ υ κ ε vs ds acc ρ c.2) = some r := by
  unfold dcM at h
  split at h
  · exact h
  · cases h
end
/-- the dict that grows at Da -/
structure GrowK (b : Bs) (σ : L2.St) (G H : Hp) (ρ : Rho) (μ : Mem) (Da : Addr) (acc : KD) : Prop where
  r : Rel b σ G H ρ μ
  h : ∃ ws, H Da = some (.dT ws) ∧ RpK G ws acc
  g : G Da = none
  b : b.B Da = none
  n : ∀ j c, mget μ j = some c → σ[j]? ≠ some (some (.ref Da))
section
variable {b : Bs} {σ σ5 : L2.St} {G H G4 H4 G7 H7 : Hp} {ρ ρ4 : Rho} {μ μ7 : Mem} {Da : Addr} {ws : List (List Key × V)} {acc : KD}
theorem GrowK.guard (Z : GrowK b σ G H ρ μ Da acc) : ∃ ws, H Da = some (.dT ws) ∧ RpK G ws acc ∧ Rel { b with B := upd b.B Da (.dT ws), G0 := G } σ G H ρ μ := by
  obtain ⟨ws, h, r⟩ := Z.h
  exact ⟨ws, h, r, Z.r.guard h Z.g Z.n⟩
theorem GrowK.un (R : Rel { b with B := upd b.B Da (.dT ws), G0 := G4 } σ G7 H7 ρ μ) (bD : b.B Da = none) (g4 : G4 Da = none) (s0 : Same b.G0 G4) (sep : ∀ x, b.G0 x = none → NT (b.B x) → G4 x = none) (r : RpK G4 ws acc) : GrowK b σ G7 H7 ρ μ Da acc := by
  obtain ⟨R9, h9, g9, n9⟩ := Rel.unguard .dT R bD s0 sep
  exact ⟨R9, ⟨ws, h9, RpK.up R.g0 _ _ r⟩, g9 g4, bD, n9⟩
theorem GrowK.ext {G2 H2 : Hp} (Z : GrowK b σ G H ρ μ Da acc) (x : Ext G H G2 H2) : GrowK b σ G2 H2 ρ μ Da acc := by
  obtain ⟨ws, h, r⟩ := Z.h
  exact ⟨Z.r.ext x, ⟨ws, x.hh _ _ h, RpK.up x.gg _ _ r⟩, x.sep Da Z.g (by rw [h]; exact .dT), Z.b, Z.n⟩
theorem GrowK.set {ws2 : List (List Key × V)} {acc2 : KD} (Z : GrowK b σ G H ρ μ Da acc) (r2 : RpK G ws2 acc2) : GrowK b σ G (upd H Da (.dT ws2)) ρ μ Da acc2 := by
  have R9 := Z.r
  refine ⟨⟨fun y u q => ?_, fun y u q => ?_, R9.g0, R9.sep, R9.len, R9.dat, fun j c q => ?_, R9.dis, R9.pin, fun y w q n => ?_⟩, ⟨_, upd_same, r2⟩, Z.g, Z.b, Z.n⟩
  · rw [upd_ne (fun z => by rw [z] at q; exact absurd (q.symm.trans Z.b) (fun z => by cases z))]
    exact R9.bh y u q
  · have hy : y ≠ Da := fun z => by rw [z, Z.g] at q; cases q
    rcases R9.gh y u q with h | ⟨⟨x, h⟩, w⟩
    · exact .inl (by rw [upd_ne hy]; exact h)
    · exact .inr ⟨⟨x, by rw [upd_ne hy]; exact h⟩, w⟩
  · obtain ⟨a, s, c1, ga, ba⟩ := R9.own j c q
    have hne : a ≠ Da := fun z => Z.n j c q (z ▸ s)
    exact ⟨a, s, c1.up (.refl _) (upd_ne hne), ga, ba⟩
  · rw [upd_ne (fun z => by rw [z, Z.g] at q; cases q)]
    exact R9.nl y w q n
theorem GrowK.back (Z : GrowK b σ5 G7 H7 ρ4 μ7 Da acc) {vs : List Nat} (f : ∀ v ∈ vs, mget μ7 v = none) (hw : L2.wipe σ5 vs = L2.wipe σ vs) (hl : ρ.length = σ.length) (hd : ∀ j d, gt (wipeR ρ vs) j = some d → ∃ v, (L2.wipe σ vs)[j]? = some (some v) ∧ Rp G7 v d) : GrowK b (L2.wipe σ vs) G7 H7 (wipeR ρ vs) μ7 Da acc := by
  have R8 := Z.r.wipe f
  rw [hw] at R8
  have out : ∀ j c, mget μ7 j = some c → j ∉ vs := fun j c q z => by rw [f j z] at q; cases q
  refine ⟨⟨R8.bh, R8.gh, R8.g0, R8.sep, ?_, hd, R8.own, R8.dis, R8.pin, R8.nl⟩, Z.h, Z.g, Z.b, fun j c q => ?_⟩
  · rw [wipe_length, ← hl]
    have : ∀ vs : List Nat, (wipeR ρ vs).length = ρ.length := fun vs => by
      induction vs with
      | nil => rfl
      | cons v vs ih => show (put (wipeR ρ vs) v none).length = _; rw [put_len]; exact ih
    exact this vs
  · rw [← hw, wipe_out (out j c q)]
    exact Z.n j c q
end
theorem wipe_dat {b : Bs} {σ : L2.St} {G H G' : Hp} {ρ : Rho} {μ : Mem} (R : Rel b σ G H ρ μ) (s : Same G G') : ∀ (vs : List Nat) (j : Nat) (d : D), gt (wipeR ρ vs) j = some d → ∃ v, (L2.wipe σ vs)[j]? = some (some v) ∧ Rp G' v d
  | [], j, d, q => let ⟨v, ev, rv⟩ := R.dat j d q; ⟨v, ev, Rp.up s _ _ rv⟩
  | v :: vs, j, d, q => by
    have q : gt (put (wipeR ρ vs) v none) j = some d := q
    by_cases hj : j = v
    · subst hj
      obtain ⟨e1, _⟩ := gt_put_same q
      cases e1
    · rw [gt_put_ne hj] at q
      obtain ⟨u, eu, ru⟩ := wipe_dat R s vs j d q
      exact ⟨u, by show ((L2.wipe σ vs).set v none)[j]? = _; rw [List.getElem?_set_ne (Ne.symm hj)]; exact eu, ru⟩
section
variable {l : Bool} {wi : TI} {g : TG} {tt : TT} {tk te : TE} {τ : GM} {υ : TM} {κ ε : EM} {is vs : List Nat}
theorem so_dcA {b : Bs} {σ : L2.St} {G H : Hp} {ρ : Rho} {μ3 μ2 : Mem} {ds : List D} {rs : KD} {Q : VK} (hi : SoIa wi b σ G H ρ ds μ3) (hg : SoG is g τ) (ht : SoT l tt υ) (hk : SoE l tk κ) (he : SoE l te ε) (hvs : ∀ i ∈ is, i ∈ vs) (hl : l = false → b.lk = []) (e2 : dcM τ υ κ ε vs ds [] (wipeR ρ vs) μ3 = some (rs, μ2))
    (k : ∀ a vs G2 H2, Rel b σ G2 H2 ρ μ2 → Same G G2 → H2 a = some (.dT vs) → rs.length ≤ sizeLine → RpK G2 vs rs → G2 a = none → b.B a = none → (∀ j c, mget μ2 j = some c → σ[j]? ≠ some (some (.ref a))) → Q (.ref a) H2) : VL.tDct wi g tt tk te vs σ H Q := by
  refine hi _ fun J Gd Y G2 H2 hz w R2 s2 hG hY Da hD => ?_
  have gD := R2.gnone hD
  have bD := R2.b_none hD
  have hww : L2.wipe (L2.wipe σ vs) vs = L2.wipe σ vs := wipe_eq (wipe_length _ _) fun j hj => wipe_out hj
  let Pv : Nat → Hp → Prop := fun i H3 => ∃ G3 μi acc, GrowK { b with G0 := G2 } (L2.wipe σ vs) G3 H3 (wipeR ρ vs) μi Da acc ∧ dcM τ υ κ ε vs (ds.drop i) acc (wipeR ρ vs) μi = some (rs, μ2) ∧ acc.length ≤ i
  have p0 : Pv 0 (upd H2 Da (.dT [])) := by
    have hfree := freeM_of (dcM_free e2)
    exact ⟨G2, μ3, [], ⟨(R2.rebase.side hD).wipe hfree, ⟨[], upd_same, trivial⟩, gD, bD, (R2.rebase.wipe hfree).unowned hD⟩, e2, Nat.le_refl _⟩
  refine ⟨fun i m H => m = ds.length - i ∧ i ≤ ds.length ∧ Pv i H, ⟨ds.length, by simp, Nat.zero_le _, p0⟩, ?_⟩
  rintro i m H3 ⟨rfl, hi, G3, μi, acc, Z3, e3, l3⟩
  have q : Gd H3 := hG G3 H3 Z3.r.g0 Z3.r.gh (fun a x o q => Z3.r.bh a _ q)
  by_cases hlt : i < ds.length
  · refine .inr ⟨w.goes i H3 hlt q, Pv (i + 1), fun H' p' => ⟨ds.length - (i + 1), by omega, rfl, hlt, p'⟩, fun x H4 y => ?_⟩
    have hy := w.yields i H3 x H4 hlt q y
    rw [List.drop_eq_getElem_cons hlt] at e3
    obtain ⟨⟨ρ4, μ4⟩, e4, e5⟩ := bnd (dcM_cons e3)
    obtain ⟨⟨c5, μ5⟩, e6, e7⟩ := bnd e5
    obtain ⟨G4, x4, r4⟩ := hY i H3 G3 x H4 ds[i] Z3.r.g0 Z3.r.gh (fun a x o q => Z3.r.bh a _ q) (List.getElem?_eq_getElem hlt) hy
    have Z4 := Z3.ext x4
    obtain ⟨ws, h4, ra, R4⟩ := Z4.guard
    refine hg { b with B := upd b.B Da (.dT ws), G0 := G4 } (L2.wipe σ vs) G4 H4 (wipeR ρ vs) μi x ds[i] ρ4 μ4 _ R4 r4 e4 fun σ5 R5 o5 l5 => ?_
    have hwp : L2.wipe σ5 vs = L2.wipe σ vs := (wipe_eq l5 fun j hj => o5 j fun z => hj (hvs j z)).trans hww
    refine ⟨hwp, ?_⟩
    have fin2 : ∀ {G7 H7 : Hp} {μ7 : Mem}, Rel { b with B := upd b.B Da (.dT ws), G0 := G4 } σ5 G7 H7 ρ4 μ7 → (∀ v ∈ vs, mget μ7 v = none) → GrowK { b with G0 := G2 } (L2.wipe σ vs) G7 H7 (wipeR ρ vs) μ7 Da acc := fun {G7 H7 μ7} R7 f7 =>
      GrowK.back (GrowK.un (b := { b with G0 := G2 }) R7 Z4.b Z4.g Z4.r.g0 Z4.r.sep ra) f7 hwp R2.len (wipe_dat R2 (Z4.r.g0.trans R7.g0) vs)
    refine ht { b with B := upd b.B Da (.dT ws), G0 := G4 } σ5 G4 H4 ρ4 μ4 c5 μ5 _ hl R5 e6 fun G6 H6 R6 s6 => ?_
    cases c5 with
    | false =>
      have e7 : dcM τ υ κ ε vs (ds.drop (i + 1)) acc (wipeR ρ vs) μ5 = some (rs, μ2) := e7
      exact iteF ⟨G6, μ5, acc, fin2 R6 (freeM_of (dcM_free e7)), e7, Nat.le_succ_of_le l3⟩
    | true =>
      obtain ⟨⟨yk, μ6⟩, e8, e9⟩ := bnd e7
      refine iteT ?_
      refine hk { b with B := upd b.B Da (.dT ws), G0 := G4 } σ5 G6 H6 ρ4 μ5 yk μ6 _ hl R6 e8 fun vk G8 H8 R8 s8 r8 => ?_
      cases yk with
      | tup es =>
        obtain ⟨kk, e10, e11⟩ := bnd (show ((keysOf es).bind fun k => (ε ρ4 μ6).bind fun x => dcM τ υ κ ε vs (ds.drop (i + 1)) (putD acc k x.1) (wipeR ρ vs) x.2) = some (rs, μ2) from e9)
        obtain ⟨⟨d9, μ9⟩, e12, e13⟩ := bnd e11
        have e13 : dcM τ υ κ ε vs (ds.drop (i + 1)) (putD acc kk d9) (wipeR ρ vs) μ9 = some (rs, μ2) := e13
        refine he { b with B := upd b.B Da (.dT ws), G0 := G4 } σ5 G8 H8 ρ4 μ6 d9 μ9 _ hl R8 e12 fun v9 G9 H9 R9 s9 r9 => ?_
        obtain ⟨a, vs', rfl, ga, _, ras⟩ := r8
        have ea : vs' = kk.map kV := keysOf_rp e10 ras
        have Z9 := fin2 R9 (freeM_of (dcM_free e13))
        have h9 : H9 Da = some (.dT ws) := R9.bh Da _ upd_same
        have hlw : ws.length = acc.length := ra.len
        have ra9 := RpK.up R9.g0 _ _ ra
        refine ⟨ws, kk, a, rfl, by rw [← ea]; exact R9.gh.tup (s9 _ _ ga), h9, by omega, G9, μ9, putD acc kk d9, Z9.set (ra9.put r9), e13, ?_⟩
        have := putD_len acc kk d9
        omega
      | _ => cases e9
  · have e : i = ds.length := by omega
    subst e
    refine .inl ⟨w.stops H3 q, ?_⟩
    rw [List.drop_length] at e3
    have hf := freeM_of (dcM_free e3)
    have e4 := dcM_nil e3
    have er2 : rs = acc := congrArg Prod.fst e4
    have em : μi = μ2 := (congrArg Prod.snd e4).symm
    subst er2 em
    have out : ∀ j c, mget μi j = some c → j ∉ vs := fun j c q z => by rw [hf j z] at q; cases q
    obtain ⟨ws, h3, r3⟩ := Z3.h
    have R3 := Z3.r
    refine k Da ws G3 H3 ?_ (s2.trans R3.g0) h3 (by omega) r3 Z3.g bD fun j c q => by
      have := Z3.n j c q
      rwa [wipe_out (out j c q)] at this
    refine (?_ : Rel { b with G0 := G2 } σ G3 H3 ρ μi).unbase R2.g0 R2.sep
    refine ⟨R3.bh, R3.gh, R3.g0, R3.sep, R2.len, fun j d q => ?_, fun j c q => ?_, fun j k a hj hk q1 q2 => ?_, fun k hk hm => ?_, R3.nl⟩
    · obtain ⟨v, ev, rv⟩ := R2.dat j d q
      exact ⟨v, ev, Rp.up R3.g0 _ _ rv⟩
    · obtain ⟨a, s, r⟩ := R3.own j c q
      rw [wipe_out (out j c q)] at s
      exact ⟨a, s, r⟩
    · have oj : j ∉ vs := fun z => hj (hf j z)
      have ok : k ∉ vs := fun z => hk (hf k z)
      exact R3.dis j k a hj hk (by rw [wipe_out oj]; exact q1) (by rw [wipe_out ok]; exact q2)
    · have o0 : 0 ∉ vs := fun z => hm (hf 0 z)
      have := R3.pin k hk hm
      rwa [wipe_out o0] at this
end
def cDC (ι : AM) (τ : GM) (υ : TM) (κ ε : EM) (vs : List Nat) : Rho → Mem → Option (KD × Mem) := fun ρ μ => (ι ρ μ).bind fun p => dcM τ υ κ ε vs p.1 [] (wipeR ρ vs) p.2
def cDCK (i : Nat) (τ : GM) (υ : TM) (κ ε : EM) (vs : List Nat) : Rho → Mem → Option (KD × Mem) := fun ρ μ => (dctOf (eVar i) ρ μ).bind fun p => dcM τ υ κ ε vs (keysT p.1) [] (wipeR ρ vs) p.2
section
variable {l : Bool} {X : Cx} {kx vx tg iter : Expr} {ifs : List Expr} {scope : Scope} {own : List (Str × Nat)} {pos : Pos} {wi : TI} {g : TG} {tt : TT} {tk te : TE} {ι : AM} {is vs : List Nat} {τ : GM} {υ : TM} {κ ε : EM} {i : Nat}
theorem dc_dc (hu : X.A.units < cLine) (hc : X.calm = true) (hN : X.N.Nodup) (hi : DI l X tg iter wi ι) (ok : BlkOk X.N X.env.scope scope own) (hv : ∀ i ∈ is, i ∈ own.map (·.2))
    (hg : ∀ (s : Shared) (H : Hp) (C : Addr) (cl : List (Str × Addr)) (fp : List Addr), DG (X.blk s H scope (compEnvC scope cl C X.env) fp) tg is g τ)
    (ht : ∀ (s : Shared) (H : Hp) (C : Addr) (cl : List (Str × Addr)) (fp : List Addr), DTs l (X.blk s H scope (compEnvC scope cl C X.env) fp) ifs tt υ)
    (hk : ∀ (s : Shared) (H : Hp) (C : Addr) (cl : List (Str × Addr)) (fp : List Addr), DE l (X.blk s H scope (compEnvC scope cl C X.env) fp) kx tk κ)
    (he : ∀ (s : Shared) (H : Hp) (C : Addr) (cl : List (Str × Addr)) (fp : List Addr), DE l (X.blk s H scope (compEnvC scope cl C X.env) fp) vx te ε)
    (hs : ∀ x, foldedSetIterable iter X.env x = pure x := by intro _; rfl) :
    DC l X (.DictComp kx vx [⟨tg, iter, ifs, 0⟩] scope pos) (VL.tDct wi g tt tk te (own.map (·.2))) (cDC ι τ υ κ ε (own.map (·.2))) :=
  ⟨VL.pe_dct hu hc hN hi.pi ok (fun s H C cl fp => (hg s H C cl fp).pg) (fun s H C cl fp => (ht s H C cl fp).pts) (fun s H C cl fp => (hk s H C cl fp).pe) (fun s H C cl fp => (he s H C cl fp).pe) hs,
   fun b σ G H ρ μ rs μ2 Q hl R e k => by
    obtain ⟨⟨ds, μ3⟩, e1, e2⟩ := bnd e
    exact so_dcA (hi.so b σ G H ρ μ ds μ3 hl R e1) (hg X.s_0 X.H_0 0 [] []).so (ht X.s_0 X.H_0 0 [] []).so (hk X.s_0 X.H_0 0 [] []).so (he X.s_0 X.H_0 0 [] []).so hv hl e2 k⟩
theorem dc_dcK (i : Nat) {x : Str} {p : Pos} (hu : X.A.units < cLine) (hc : X.calm = true) (hN0 : X.N.Nodup) (ok : BlkOk X.N X.env.scope scope own) (hvv : ∀ i ∈ is, i ∈ own.map (·.2))
    (hg : ∀ (s : Shared) (H : Hp) (C : Addr) (cl : List (Str × Addr)) (fp : List Addr), DG (X.blk s H scope (compEnvC scope cl C X.env) fp) tg is g τ)
    (ht : ∀ (s : Shared) (H : Hp) (C : Addr) (cl : List (Str × Addr)) (fp : List Addr), DTs true (X.blk s H scope (compEnvC scope cl C X.env) fp) ifs tt υ)
    (hk : ∀ (s : Shared) (H : Hp) (C : Addr) (cl : List (Str × Addr)) (fp : List Addr), DE true (X.blk s H scope (compEnvC scope cl C X.env) fp) kx tk κ)
    (he : ∀ (s : Shared) (H : Hp) (C : Addr) (cl : List (Str × Addr)) (fp : List Addr), DE true (X.blk s H scope (compEnvC scope cl C X.env) fp) vx te ε)
    (hN : X.N[i]? = some x := by rfl) (hv : Vis X.env.scope x := by first | exact Or.inl rfl | exact Or.inr (Or.inl rfl) | exact Or.inr (Or.inr rfl)) (hd : (x == ("__debug__" : Str)) = false := by decide)
    (hcd : (x == ("__classdict__" : Str)) = false := by decide) (hs : ∀ y, foldedSetIterable (.Name x p) X.env y = pure y := by intro _; rfl) :
    DC false X (.DictComp kx vx [⟨tg, .Name x p, ifs, 0⟩] scope pos) (tLockE (VL.tDct (iKeys (tVar i)) g tt tk te (own.map (·.2)))) (cDCK i τ υ κ ε (own.map (·.2))) :=
  ⟨pe_lock (VL.pe_dct hu hc hN0 (pi_keys (pv i hN hv hd hcd)) ok (fun s H C cl fp => (hg s H C cl fp).pg) (fun s H C cl fp => (ht s H C cl fp).pts) (fun s H C cl fp => (hk s H C cl fp).pe) (fun s H C cl fp => (he s H C cl fp).pe) hs),
   fun b σ G H ρ μ rs μ2 Q hl R e k => by
    obtain ⟨⟨ks, μ3⟩, e1, e2⟩ := bnd e
    obtain ⟨e3, hks⟩ := dctOf_of e1
    obtain ⟨dd, e4, e5⟩ := mpd e3
    cases e5
    obtain ⟨v, s, r⟩ := R.dat i _ e4
    obtain ⟨d, ws, rfl, gd, hz, rk⟩ := r
    have hd : d ∉ b.lk := by rw [hl rfl]; exact List.not_mem_nil
    refine ⟨d, .dT ws, R.nl d ws gd hd, trivial, fun od => ?_⟩
    refine so_dcA (b := { b with B := upd b.B d (.frz od (.dT ws)), G0 := G, lk := d :: b.lk }) (so_keysA (R.lock gd) gd upd_same hz rk hks fun Q q => ⟨_, s, q⟩) (hg X.s_0 X.H_0 0 [] []).so (ht X.s_0 X.H_0 0 [] []).so (hk X.s_0 X.H_0 0 [] []).so (he X.s_0 X.H_0 0 [] []).so hvv (fun z => by cases z) e2 fun a vs G2 H2 R2 s2 ha hz2 r2 ga ba hn => ?_
    obtain ⟨h, R3⟩ := R.unlock gd hd R2
    have had : a ≠ d := fun z => by rw [z, R2.g0 d _ gd] at ga; cases ga
    have ba : upd b.B d (.frz od (.dT ws)) a = none := ba
    rw [upd_ne had] at ba
    exact ⟨h, k a vs G2 _ R3 s2 (by rw [upd_ne had]; exact ha) hz2 r2 ga ba hn⟩⟩
end
/-! ### enumerate, zip -/
def enD (ds : List D) : List D := ds.zipIdx.map fun p => D.tup [.int (p.2 : Nat), p.1]
theorem enD_len (ds : List D) : (enD ds).length = ds.length := by unfold enD; rw [List.length_map, List.length_zipIdx]
theorem enD_get {ds : List D} {i : Nat} {d : D} (h : (enD ds)[i]? = some d) : ∃ x, ds[i]? = some x ∧ d = .tup [.int (i : Nat), x] := by
  unfold enD at h
  rw [List.getElem?_map, List.getElem?_zipIdx] at h
  cases e : ds[i]? with
  | none => rw [e] at h; cases h
  | some x =>
    rw [e] at h
    cases h
    exact ⟨x, rfl, by simp⟩
def zipD : List D → List D → List D
  | x :: xs, y :: ys => .tup [x, y] :: zipD xs ys
  | _, _ => []
theorem zipD_len : ∀ (xs ys : List D), (zipD xs ys).length = min xs.length ys.length
  | [], _ => by simp [zipD]
  | _ :: _, [] => by simp [zipD]
  | x :: xs, y :: ys => by
    show (zipD xs ys).length + 1 = _
    rw [zipD_len xs ys]
    simp
theorem zipD_get : ∀ {xs ys : List D} {i : Nat} {d : D}, (zipD xs ys)[i]? = some d → ∃ x y, xs[i]? = some x ∧ ys[i]? = some y ∧ d = .tup [x, y]
  | [], _, _, _, h => by simp [zipD] at h
  | _ :: _, [], _, _, h => by simp [zipD] at h
  | x :: xs, y :: ys, 0, d, h => by
    cases h
    exact ⟨x, y, rfl, rfl, rfl⟩
  | x :: xs, y :: ys, i + 1, d, h => by
    obtain ⟨a, b, h1, h2, h3⟩ := zipD_get (xs := xs) (ys := ys) (i := i) (d := d) h
    exact ⟨a, b, h1, h2, h3⟩
/-- a new pair is data -/
theorem pair_new {G' H' : Hp} {T : Addr} {x y : V} {dx dy : D} (g : SameR G' H') (hT : H' T = none) (rx : Rp G' x dx) (ry : Rp G' y dy) : ∃ G2, Ext G' H' G2 (upd H' T (.tup [x, y])) ∧ Rp G2 (.ref T) (.tup [dx, dy]) := by
  have x2 := Ext.new (o := .tup [x, y]) g hT
  refine ⟨_, x2, T, _, rfl, upd_same, by show 2 ≤ sizeLine; decide, Rp.up x2.gg _ _ rx, Rp.up x2.gg _ _ ry, trivial⟩
def iEnL (ε : EM) : AM := fun ρ μ => (ε ρ μ).bind fun p => match p.1 with
  | .lst xs => some (enD xs, p.2)
  | _ => none
def iEnTu (ε : EM) : AM := fun ρ μ => (ε ρ μ).bind fun p => match p.1 with
  | .tup xs => some (enD xs, p.2)
  | _ => none
def iZp (φ ψ : EM) : AM := fun ρ μ => (φ ρ μ).bind fun p => (ψ ρ p.2).bind fun q => match p.1, q.1 with
  | .lst xs, .lst ys => some (zipD xs ys, q.2)
  | .tup xs, .tup ys => some (zipD xs ys, q.2)
  | _, _ => none
section
variable {l : Bool} {X : Cx} {e e2 : Expr} {te te2 : TE} {ε ε2 : EM} {p pos tpos : Pos} {elts : List Expr} {kk : Nat}
theorem di_enL (hg : Gl X "enumerate") (hm : X.mg "enumerate" = none) (h : DE l X e te ε) (hs : starEach [e] X.env = [(false, eval e X.env)] := by rfl) (hs1 : starEach (e :: []) X.env = (false, eval e X.env) :: starEach [] X.env := by rfl) :
    DI l X (.Tuple elts kk tpos) (.Call (.Name "enumerate" p) [e] [] pos) (iEnum X.K (tCons te tNil)) (iEnL ε) := ⟨pi_enum hg hm (pa_cons h.pe pa_nil hs1) hs, fun b σ G H ρ μ ds μ2 hl hR e R k => by
  obtain ⟨⟨d, μ3⟩, e1, e2⟩ := bnd e
  cases d with
  | lst xs =>
    cases e2
    refine h.so b σ G H ρ μ _ _ _ hl hR e1 fun v G2 H2 R2 s2 r2 => ?_
    obtain ⟨a, vs, ev, ga, hz, ra⟩ := r2
    refine ⟨a, vs, by rw [ev], SqL.of (R2.gh.lst ga), k _ _ _ G2 H2 (by rw [enD_len]; exact hz) (by rw [enD_len, ← ra.len]; exact walk_enum) R2 s2 (fun G' H' s g _ => SqL.of (g.lst (s _ _ ga))) fun i H' G' x H'' d s g _ hd y => ?_⟩
    obtain ⟨T, x1, y1, rfl, hT, rfl, h1, h2⟩ := y
    obtain ⟨dx, e3, rfl⟩ := enD_get hd
    obtain ⟨w, e4, rw'⟩ := (RpA.up s _ _ ra).get e3
    have h2 : vs[i]? = some y1 := h2
    rw [h2] at e4
    cases e4
    cases h1
    exact pair_new g hT (show Rp G' (.int (i : Nat)) (.int (i : Nat)) from rfl) rw'
  | _ => cases e2⟩
theorem di_enT (hg : Gl X "enumerate") (hm : X.mg "enumerate" = none) (h : DE l X e te ε) (hs : starEach [e] X.env = [(false, eval e X.env)] := by rfl) (hs1 : starEach (e :: []) X.env = (false, eval e X.env) :: starEach [] X.env := by rfl) :
    DI l X (.Tuple elts kk tpos) (.Call (.Name "enumerate" p) [e] [] pos) (VL.iEnT X.K (tCons te tNil)) (iEnTu ε) := ⟨VL.pi_enT hg hm (pa_cons h.pe pa_nil hs1) hs, fun b σ G H ρ μ ds μ2 hl hR e R k => by
  obtain ⟨⟨d, μ3⟩, e1, e2⟩ := bnd e
  cases d with
  | tup xs =>
    cases e2
    refine h.so b σ G H ρ μ _ _ _ hl hR e1 fun v G2 H2 R2 s2 r2 => ?_
    obtain ⟨a, vs, ev, ga, hz, ra⟩ := r2
    refine ⟨a, vs, by rw [ev], SqT.of (R2.gh.tup ga), k _ _ _ G2 H2 (by rw [enD_len]; exact hz) (by rw [enD_len, ← ra.len]; exact VL.walk_enT) R2 s2 (fun G' H' s g _ => SqT.of (g.tup (s _ _ ga))) fun i H' G' x H'' d s g _ hd y => ?_⟩
    obtain ⟨T, x1, y1, rfl, hT, rfl, h1, h2⟩ := y
    obtain ⟨dx, e3, rfl⟩ := enD_get hd
    obtain ⟨w, e4, rw'⟩ := (RpA.up s _ _ ra).get e3
    have h2 : vs[i]? = some y1 := h2
    rw [h2] at e4
    cases e4
    cases h1
    exact pair_new g hT (show Rp G' (.int (i : Nat)) (.int (i : Nat)) from rfl) rw'
  | _ => cases e2⟩
theorem walk_zipT {K : PySem.W.Frag} {a b : Addr} {xs ys : List V} {n : Nat} (hn : n = min xs.length ys.length) : Walk (RZ.ItzT K a b) n (fun H => SqT K H a xs ∧ SqT K H b ys) (YPair (fun i => xs[i]?) (fun i => ys[i]?)) := by
  subst hn
  refine ⟨fun i _ hi q => ?_, fun _ q => ⟨xs, ys, q.1, q.2, by omega⟩, fun i H v H' _ q y => ?_⟩
  · have h1 : i < xs.length := by omega
    have h2 : i < ys.length := by omega
    exact ⟨xs, ys, xs[i], ys[i], q.1, q.2, List.getElem?_eq_getElem h1, List.getElem?_eq_getElem h2⟩
  · obtain ⟨T, x, z, h1, h2, h3, h4, h5⟩ := y
    exact ⟨T, x, z, h1, h2, h3, h4 xs q.1, h5 ys q.2⟩
theorem di_zip (hg : Gl X "zip") (hm : X.mg "zip" = none) (h : DE l X e te ε) (h2 : DE l X e2 te2 ε2) (hs1 : starEach (e2 :: []) X.env = (false, eval e2 X.env) :: starEach [] X.env := by rfl)
    (hs : starEach [e, e2] X.env = (false, eval e X.env) :: starEach [e2] X.env := by rfl) (hpl : (backTo pos (starEach [e2] X.env)).any (·.1) = false := by rfl) :
    DI l X (.Tuple elts kk tpos) (.Call (.Name "zip" p) [e, e2] [] pos) (RZ.iZipA X.K (tCons te (tCons te2 tNil))) (iZp ε ε2) := ⟨RZ.pi_zipA hg hm (pa_cons h.pe (pa_cons h2.pe pa_nil hs1) hs) hs hpl, fun b σ G H ρ μ ds μ2 hl hR e R k => by
  obtain ⟨⟨d, μ3⟩, e1, e2⟩ := bnd e
  obtain ⟨⟨d2, μ4⟩, e3, e4⟩ := bnd e2
  refine h.so b σ G H ρ μ _ _ _ hl hR e1 fun v G2 H2 R2 s2 r2 => ?_
  refine h2.so b σ G2 H2 ρ μ3 _ _ _ hl R2 e3 fun v2 G3 H3 R3 s3 r3 => ?_
  have r2 := Rp.up s3 _ _ r2
  cases d with
  | lst xs =>
    cases d2 with
    | lst ys =>
      cases e4
      obtain ⟨a, vs, ev, ga, hz, ra⟩ := r2
      obtain ⟨a2, vs2, ev2, ga2, hz2, ra2⟩ := r3
      refine ⟨a, a2, vs, vs2, by rw [ev, ev2], .inl ⟨SqL.of (R3.gh.lst ga), SqL.of (R3.gh.lst ga2), k _ _ _ G3 H3 (by rw [zipD_len]; omega) (walk_zip (by rw [zipD_len, ra.len, ra2.len])) R3 (s2.trans s3) (fun G' H' s g _ => ⟨SqL.of (g.lst (s _ _ ga)), SqL.of (g.lst (s _ _ ga2))⟩) fun i H' G' x H'' d s g _ hd y => ?_⟩⟩
      obtain ⟨T, x1, y1, rfl, hT, rfl, h1, h2⟩ := y
      obtain ⟨dx, dy, e5, e6, rfl⟩ := zipD_get hd
      obtain ⟨w, e7, rw1⟩ := (RpA.up s _ _ ra).get e5
      obtain ⟨w2, e8, rw2⟩ := (RpA.up s _ _ ra2).get e6
      have h1 : vs[i]? = some x1 := h1
      have h2 : vs2[i]? = some y1 := h2
      rw [h1] at e7
      rw [h2] at e8
      cases e7
      cases e8
      exact pair_new g hT rw1 rw2
    | _ => cases e4
  | tup xs =>
    cases d2 with
    | tup ys =>
      cases e4
      obtain ⟨a, vs, ev, ga, hz, ra⟩ := r2
      obtain ⟨a2, vs2, ev2, ga2, hz2, ra2⟩ := r3
      refine ⟨a, a2, vs, vs2, by rw [ev, ev2], .inr ⟨SqT.of (R3.gh.tup ga), SqT.of (R3.gh.tup ga2), k _ _ _ G3 H3 (by rw [zipD_len]; omega) (walk_zipT (by rw [zipD_len, ra.len, ra2.len])) R3 (s2.trans s3) (fun G' H' s g _ => ⟨SqT.of (g.tup (s _ _ ga)), SqT.of (g.tup (s _ _ ga2))⟩) fun i H' G' x H'' d s g _ hd y => ?_⟩⟩
      obtain ⟨T, x1, y1, rfl, hT, rfl, h1, h2⟩ := y
      obtain ⟨dx, dy, e5, e6, rfl⟩ := zipD_get hd
      obtain ⟨w, e7, rw1⟩ := (RpA.up s _ _ ra).get e5
      obtain ⟨w2, e8, rw2⟩ := (RpA.up s _ _ ra2).get e6
      have h1 : vs[i]? = some x1 := h1
      have h2 : vs2[i]? = some y1 := h2
      rw [h1] at e7
      rw [h2] at e8
      cases e7
      cases e8
      exact pair_new g hT rw1 rw2
    | _ => cases e4
  | _ => cases e4⟩
end
end VS
end
section
/-! VS10: x[i] op= e, three assigned at once, sorted, dict(d), pop, min of pairs, list(enumerate(t)) -/
namespace VS
open PySem PySem.Spec PyProof.Rows L2
/-! ### x[i] op= e, x an owned list -/
def rGetL : V → V → Hp → VK → Prop := fun o i H Q => ∃ p xs k x, o = .ref p ∧ i = .int k ∧ 0 ≤ k ∧ H p = some (.lst xs) ∧ xs[k.toNat]? = some x ∧ Q x H
theorem pget_list {X : Cx} : PGet X rGetL := by
  intro pins s σ H o i ov iv Q I ro ri h
  obtain ⟨p, xs, k, x, rfl, rfl, h0, hp, hx, q⟩ := h
  cases ro
  obtain ⟨t, rfl⟩ := ri
  obtain ⟨its, r, pl, hz⟩ := I.list (SqL.of hp)
  obtain ⟨u, hu, ru⟩ := r.get hx
  have hlt := (List.getElem?_eq_some_iff.mp hx).1
  have hn := line63
  exact wpAny_getItem_list pl.isList h0 (by omega) (by simpa using hu) ⟨x, H, I, ru, q⟩
def sAugL (i : Nat) (f : Int → Int → Int) (ι ε : EM) : SM := fun ρ μ => (lstAt μ i).bind fun _ => (ι ρ μ).bind fun p => match p.1 with
  | .int j => (lstAt p.2 i).bind fun xs => if j < 0 then none else (xs[j.toNat]?).bind fun a => match a with
    | .int a => (ε ρ p.2).bind fun q => match q.1 with
      | .int c => (lstAt q.2 i).bind fun ys => (ixN ys.length j).map fun k => .nx ρ (mset q.2 i (.lst (ys.set k (.int (f a c)))))
      | _ => none
    | _ => none
  | _ => none
section
variable {l : Bool} {X : Cx} {e j : Expr} {te tj : TE} {ε ι : EM} {pos tpos : Pos} {i : Nat} {x : Str} {f : Int → Int → Int}
theorem so_augL (hj : SoE l tj ι) (h : SoE l te ε) : SoS l (tAugS (tVar i) tj te rGetL (ipI f) rSetL) (sAugL i f ι ε) := fun b σ G H ρ μ o D hl R e a => by
  obtain ⟨xs0, e0, e⟩ := bnd e
  obtain ⟨⟨w, μ2⟩, e1, e⟩ := bnd e
  cases w with
  | int n =>
    obtain ⟨xs, e2, e⟩ := bnd (show ((lstAt μ2 i).bind fun xs => if n < 0 then none else (xs[n.toNat]?).bind fun a => match a with
      | .int a => (ε ρ μ2).bind fun q => match q.1 with
        | .int c => (lstAt q.2 i).bind fun ys => (ixN ys.length n).map fun k => Out.nx ρ (mset q.2 i (.lst (ys.set k (.int (f a c)))))
        | _ => none
      | _ => none) = some o from e)
    split at e
    · cases e
    rename_i hn
    obtain ⟨dv, e3, e⟩ := bnd e
    cases dv with
    | int a0 =>
      obtain ⟨⟨y, μ3⟩, e4, e⟩ := bnd (show ((ε ρ μ2).bind fun q => match q.1 with
        | .int c => (lstAt q.2 i).bind fun ys => (ixN ys.length n).map fun k => Out.nx ρ (mset q.2 i (.lst (ys.set k (.int (f a0 c)))))
        | _ => none) = some o from e)
      cases y with
      | int c0 =>
        obtain ⟨ys, e5, e⟩ := bnd (show ((lstAt μ3 i).bind fun ys => (ixN ys.length n).map fun k => Out.nx ρ (mset μ3 i (.lst (ys.set k (.int (f a0 c0)))))) = some o from e)
        obtain ⟨k, e6, e7⟩ := mpd e
        cases e7
        obtain ⟨p, vs0, s, h0, _⟩ := R.lstO e0
        refine ⟨_, s, ?_⟩
        refine hj b σ G H ρ μ _ μ2 _ hl R e1 fun v G2 H2 R2 s2 r2 => ?_
        have ev : v = .int n := r2
        obtain ⟨p2, vs2, s2', h2, hz2, ra2⟩ := R2.lstO e2
        rw [s] at s2'
        cases s2'
        obtain ⟨x1, hx1, rx1⟩ := ra2.get e3
        have ex1 : x1 = .int a0 := rx1
        refine ⟨p, vs2, n, x1, rfl, ev, by omega, h2, hx1, ?_⟩
        refine h b σ G2 H2 ρ μ2 _ μ3 _ hl R2 e4 fun w G3 H3 R3 s3 r3 => ?_
        have ew : w = .int c0 := r3
        refine ⟨a0, c0, ex1, ew, ?_⟩
        obtain ⟨p3, vs3, s3', h3, hz3, ra3⟩ := R3.lstO e5
        rw [s] at s3'
        cases s3'
        refine ⟨p, vs3, n, k, rfl, ev, h3, by rw [ra3.len]; exact e6, ?_⟩
        exact a σ G3 _ (R3.wrL e5 s (by rw [List.length_set]; exact hz3) (ra3.set (show Rp G3 (.int (f a0 c0)) (.int (f a0 c0)) from rfl) k))
      | _ => cases e
    | _ => cases e
  | _ => cases e
theorem ds_augL (i : Nat) {op : Operator} {npos : Pos} (ho : PIp X op (ipI f)) (hj : DE l X j tj ι) (h : DE l X e te ε) (hN : X.N[i]? = some x := by rfl) (hv : Vis X.env.scope x := by first | exact Or.inl rfl | exact Or.inr (Or.inl rfl) | exact Or.inr (Or.inr rfl)) (hd : (x == ("__debug__" : Str)) = false := by decide) (hcd : (x == ("__classdict__" : Str)) = false := by decide)
    (ha : ∀ ov iv new, augStore j ov iv new = (do holding [new, ov, iv] (setItem ov iv new); release [new, ov, iv] []; pure .next) := by intros; rfl) :
    DS l X (.AugAssign (.Subscript (.Name x npos) j tpos) op e pos) (tAugS (tVar i) tj te rGetL (ipI f) rSetL) (sAugL i f ι ε) := ⟨ps_augS (pv i hN hv hd hcd) hj.pe pget_list h.pe ho set_list ha, so_augL hj.so h.so⟩
end
/-! ### a, b, c = x, y, z, all of them data -/
def sPar3 (i j k : Nat) (ψ : AM) : SM := fun ρ μ => (ψ ρ μ).bind fun p => match p.1 with
  | [u, v, w] => some (.nx (put (put (put ρ i (some u)) j (some v)) k (some w)) (mdel (mdel (mdel p.2 i) j) k))
  | _ => none
section
variable {l : Bool} {X : Cx} {a c d : Expr} {ta : TA} {ψ : AM}
theorem ds_par3 (i j k : Nat) {x y z : Str} {px py pz pt pos : Pos} {kt k2 pt2} (hc : X.calm = true) (hN : X.N.Nodup) (h : DA l X [a, c, d] ta ψ) (hij : i ≠ j := by decide) (hik : i ≠ k := by decide) (hjk : j ≠ k := by decide) (hi : X.N[i]? = some x := by rfl) (hj : X.N[j]? = some y := by rfl) (hk : X.N[k]? = some z := by rfl)
    (hx : X.env.scope.names.lookup x = some .local := by rfl) (hy : X.env.scope.names.lookup y = some .local := by rfl) (hz : X.env.scope.names.lookup z = some .local := by rfl)
    (hw : swappedStores [.Tuple [.Name x px, .Name y py, .Name z pz] kt pt] (.Tuple [a, c, d] k2 pt2) X.env = pure (some [x, y, z]) := by rfl)
    (hs : swapsWithSole [.Tuple [.Name x px, .Name y py, .Name z pz] kt pt] (.Tuple [a, c, d] k2 pt2) pos.line X.env = pure false := by rfl) :
    DS l X (.Assign [.Tuple [.Name x px, .Name y py, .Name z pz] kt pt] (.Tuple [a, c, d] k2 pt2) pos) (tPar3 i j k ta) (sPar3 i j k ψ) :=
  ⟨ps_par3 hc hN hi hj hk hij hik hjk hx hy hz h.pa hw hs, fun b σ G H ρ μ o D hl R e a => by
    obtain ⟨⟨ds, μ2⟩, e1, e2⟩ := bnd e
    match ds, e2 with
    | [u, v, w], e2 =>
      cases e2
      refine h.so b σ G H ρ μ _ _ _ hl R e1 fun vs G2 H2 R2 s2 r2 => ?_
      match vs, r2 with
      | [p, q, r], r2 => exact ⟨p, q, r, rfl, a _ G2 H2 (((R2.setD r2.1).setD r2.2.1).setD r2.2.2.1)⟩⟩
end
/-! ### list(enumerate(t)) -/
def lLiEn (ε : EM) : AM := iEnTu ε
section
variable {l : Bool} {X : Cx} {a : Expr} {te : TE} {ε : EM} {p p2 q pos : Pos}
theorem rp_en {G2 : Hp} {as : List Addr} {vs : List V} {ds : List D} (hl : as.length = vs.length) (r : RpA G2 vs ds) (hp : ∀ (j : Nat) (b : Addr) (y : V), as[j]? = some b → vs[j]? = some y → G2 b = some (.tup [.int (j : Nat), y])) : RpA G2 (as.map V.ref) (enD ds) := by
  have key : ∀ (as : List Addr) (vs : List V) (ds : List D) (n : Nat), as.length = vs.length → RpA G2 vs ds → (∀ (j : Nat) (b : Addr) (y : V), as[j]? = some b → vs[j]? = some y → G2 b = some (.tup [.int ((n + j : Nat) : Int), y])) → RpA G2 (as.map V.ref) ((ds.zipIdx n).map fun p => D.tup [.int (p.2 : Nat), p.1]) := by
    intro as
    induction as with
    | nil =>
      intro vs ds n hl r _
      cases vs with
      | nil => cases ds with
        | nil => trivial
        | cons d ds => exact r.elim
      | cons v vs => cases hl
    | cons b as ih =>
      intro vs ds n hl r hp
      cases vs with
      | nil => cases hl
      | cons v vs =>
        cases ds with
        | nil => exact r.elim
        | cons d ds =>
          rw [List.zipIdx_cons, List.map_cons, List.map_cons]
          have h0 := hp 0 b v rfl rfl
          refine ⟨⟨b, _, rfl, h0, by show 2 ≤ sizeLine; decide, rfl, r.1, trivial⟩, ih vs ds (n + 1) (by simpa using hl) r.2 fun j b' y hb hy => ?_⟩
          have := hp (j + 1) b' y (by simpa using hb) (by simpa using hy)
          rw [show n + 1 + j = n + (j + 1) by omega]
          exact this
  exact key as vs ds 0 hl r fun j b y hb hy => by rw [Nat.zero_add]; exact hp j b y hb hy
theorem dl_liEn (hg : Gl X "list") (hm : X.mg "list" = none) (hg2 : Gl X "enumerate") (hm2 : X.mg "enumerate" = none) (h : DE l X a te ε) (hc : X.calm = true)
    (na : starEach [a] X.env = (false, eval a X.env) :: starEach [] X.env := by rfl) (nb : starEach [Expr.Call (.Name "enumerate" p2) [a] [] q] X.env = (false, eval (Expr.Call (.Name "enumerate" p2) [a] [] q) X.env) :: starEach [] X.env := by rfl) :
    DL l X (.Call (.Name "list" p) [.Call (.Name "enumerate" p2) [a] [] q] [] pos) (VL.tLiEn X.K te) (lLiEn ε) := ⟨VL.pe_liEn hg hm hg2 hm2 h.pe hc na nb, fun b σ G H ρ μ ds μ2 Q hl R e k => by
  obtain ⟨⟨d, μ3⟩, e1, e2⟩ := bnd e
  cases d with
  | tup xs =>
    cases e2
    refine h.so b σ G H ρ μ _ _ _ hl R e1 fun v G2 H2 R2 s2 r2 => ?_
    obtain ⟨t, vs, rfl, ga, hz, ra⟩ := r2
    refine ⟨t, vs, rfl, SqT.of (R2.gh.tup ga), fun p as H3 hp hb hpn hnd hlen sH h3 hts => ?_⟩
    -- the new pairs are data
    let G3 : Hp := fun x => if x ∈ as then H3 x else G2 x
    have gno : ∀ x ∈ as, G2 x = none := fun x hx => none_of_R R2.gh (hb x hx)
    have g3 : Same G2 G3 := fun x o q => by
      show (if x ∈ as then H3 x else G2 x) = some o
      rw [if_neg (fun hm => by rw [gno x hm] at q; cases q)]
      exact q
    have g3as : ∀ x ∈ as, G3 x = H3 x := fun x hx => if_pos hx
    have tupAt : ∀ x ∈ as, ∃ ys, H3 x = some (.tup ys) := fun x hx => by
      obtain ⟨j, hj⟩ := List.mem_iff_getElem?.mp hx
      have hlt := (List.getElem?_eq_some_iff.mp hj).1
      rw [hlen] at hlt
      exact ⟨_, hts j x _ hj (List.getElem?_eq_getElem hlt)⟩
    have x3 : Ext G2 H2 G3 H3 := by
      refine ⟨sH, g3, fun x o q => ?_, fun x q n => ?_, fun x w q n => ?_⟩
      · have q : (if x ∈ as then H3 x else G2 x) = some o := q
        split at q
        · exact .inl q
        · exact R2.gh.up sH x o q
      · show (if x ∈ as then H3 x else G2 x) = none
        rw [if_neg (fun hm => n.1 (hb x hm))]
        exact q
      · have q : (if x ∈ as then H3 x else G2 x) = some (.dT w) := q
        split at q
        · exact q
        · rw [n] at q; cases q
    have R3 := R2.ext x3
    have gp : G3 p = none := by
      show (if p ∈ as then H3 p else G2 p) = none
      rw [if_neg hpn]
      exact none_of_R R2.gh hp
    refine k p _ G3 H3 R3 (s2.trans g3) h3 (by rw [enD_len]; exact hz) (rp_en hlen (RpA.up g3 _ _ ra) fun j b' y hj hy => ?_) gp (R2.b_none hp) (R2.unowned hp)
    rw [g3as b' (List.mem_of_getElem? hj)]
    exact hts j b' y hj hy
  | _ => cases e2⟩
end
end VS
end
section
/-! VS11: sorted, dict(d), d.pop(k), min of pairs -/
namespace VS
open PySem PySem.Spec PyProof.Rows L2
/-! ### calls that give a new list; tuples may be taken -/
def CallX (r : List V → Hp → VK → Prop) (f : List D → Option (List D)) : Prop := ∀ (vs : List V) (ds zs : List D) (G H : Hp) (Q : VK), SameR G H → RpA G vs ds → f ds = some zs → (∀ p ws G2, Ext G H G2 H → H p = none → zs.length ≤ sizeLine → RpA G2 ws zs → Q (.ref p) (upd H p (.lst ws))) → r vs H Q
section
variable {l : Bool} {X : Cx} {x : Str} {p pos : Pos} {e : Expr} {es : List Expr} {t : TA} {id T : String} {r : List V → Hp → VK → Prop} {f : List D → Option (List D)} {ψ : AM}
theorem sl_cx (hd : CallX r f) (ha : SoA l t ψ) : SoL l (tCB r t) (lCB f ψ) := fun b σ G H ρ μ d μ2 Q hl R e k => by
  obtain ⟨⟨xs, μ3⟩, e1, e2⟩ := bnd e
  obtain ⟨z, e3, e4⟩ := mpd e2
  cases e4
  refine ha b σ G H ρ μ xs _ _ hl R e1 fun vs G2 H2 R2 s2 r2 => ?_
  refine hd vs xs _ G2 H2 Q R2.gh r2 e3 fun p ws G3 x3 hp hz r3 => ?_
  have R3 := R2.ext x3
  exact k p ws G3 _ (R3.side hp) (s2.trans x3.gg) upd_same hz r3 (R3.gnone hp) (R3.b_none hp) (R3.unowned hp)
theorem dl_cx (hc : CallR X (.builtin id) r) (hd : CallX r f) (hg : Gl X x) (hm : X.mg x = none) (hv : bootBuiltins x = some (.builtin id)) (h : DA l X (e :: es) t ψ)
    (hn : x ≠ "__name__" := by decide) (hdb : (x == ("__debug__" : Str)) = false := by decide) (he : starEach (e :: es) X.env = (false, eval e X.env) :: starEach es X.env := by rfl) (hpl : (backTo pos (starEach es X.env)).any (·.1) = false := by rfl) :
    DL l X (.Call (.Name x p) (e :: es) [] pos) (tCB r t) (lCB f ψ) := ⟨pe_callB hc hg hm hv h.pa hn hdb he hpl, sl_cx hd h.so⟩
end
/-! ### sorting ints -/
def insI (x : Int) : List Int → List Int
  | [] => [x]
  | y :: ys => match decide (x ≤ y) with
    | true => x :: y :: ys
    | false => y :: insI x ys
def sortI : List Int → List Int
  | [] => []
  | x :: xs => insI x (sortI xs)
theorem insI_perm (x : Int) : ∀ ys, (insI x ys).Perm (x :: ys)
  | [] => .refl _
  | y :: ys => by
    unfold insI
    split
    · exact .refl _
    · exact ((insI_perm x ys).cons y).trans (.swap x y ys)
theorem sortI_perm : ∀ xs, (sortI xs).Perm xs
  | [] => .refl _
  | x :: xs => (insI_perm x (sortI xs)).trans ((sortI_perm xs).cons x)
theorem insI_sorted (x : Int) : ∀ ys, ys.Pairwise (· ≤ ·) → (insI x ys).Pairwise (· ≤ ·)
  | [], _ => List.pairwise_singleton ..
  | y :: ys, h => by
    obtain ⟨h1, h2⟩ := List.pairwise_cons.mp h
    unfold insI
    split
    · rename_i q
      have q := of_decide_eq_true q
      exact List.pairwise_cons.mpr ⟨fun z hz => by rcases List.mem_cons.mp hz with e | hz; exact e ▸ q; exact Int.le_trans q (h1 z hz), h⟩
    · rename_i q
      have q := of_decide_eq_false q
      refine List.pairwise_cons.mpr ⟨fun z hz => ?_, insI_sorted x ys h2⟩
      rcases List.mem_cons.mp ((insI_perm x ys).mem_iff.mp hz) with e | hz
      · rw [e]; omega
      · exact h1 z hz
theorem sortI_sorted : ∀ xs, (sortI xs).Pairwise (· ≤ ·)
  | [] => .nil
  | x :: xs => insI_sorted x _ (sortI_sorted xs)
theorem sorted_one : ∀ {a b : List Int}, a.Perm b → a.Pairwise (· ≤ ·) → b.Pairwise (· ≤ ·) → a = b
  | [], b, h, _, _ => (List.Perm.nil_eq h)
  | x :: a, [], h, _, _ => absurd h.length_eq (by simp)
  | x :: a, y :: b, h, ha, hb => by
    obtain ⟨a1, a2⟩ := List.pairwise_cons.mp ha
    obtain ⟨b1, b2⟩ := List.pairwise_cons.mp hb
    have e1 : x ≤ y := by
      rcases List.mem_cons.mp (h.mem_iff.mpr (List.mem_cons_self (a := y) (l := b))) with e | m
      · omega
      · exact a1 y m
    have e2 : y ≤ x := by
      rcases List.mem_cons.mp (h.mem_iff.mp (List.mem_cons_self (a := x) (l := a))) with e | m
      · omega
      · exact b1 x m
    have e : x = y := by omega
    subst e
    rw [sorted_one h.cons_inv a2 b2]
/-! ### sorting pairs -/
abbrev PI2 := Int × Int
def ltP2 (p q : PI2) : Bool := match decide (p.1 = q.1) with
  | true => decide (p.2 < q.2)
  | false => decide (p.1 < q.1)
theorem ltP2_eq (p q : PI2) : ltP2 p q = SrtO.lexB p q := by
  unfold ltP2 SrtO.lexB
  by_cases h : p.1 = q.1
  · rw [decide_eq_true h, if_pos h]
  · rw [decide_eq_false h, if_neg h]
def insP (x : PI2) : List PI2 → List PI2
  | [] => [x]
  | y :: ys => match ltP2 y x with
    | true => y :: insP x ys
    | false => x :: y :: ys
def sortP : List PI2 → List PI2
  | [] => []
  | x :: xs => insP x (sortP xs)
theorem insP_perm (x : PI2) : ∀ ys, (insP x ys).Perm (x :: ys)
  | [] => .refl _
  | y :: ys => by
    unfold insP
    split
    · exact ((insP_perm x ys).cons y).trans (.swap x y ys)
    · exact .refl _
theorem sortP_perm : ∀ xs, (sortP xs).Perm xs
  | [] => .refl _
  | x :: xs => (insP_perm x (sortP xs)).trans ((sortP_perm xs).cons x)
theorem lt_iff {p q : PI2} : ltP2 p q = true ↔ p.1 < q.1 ∨ (p.1 = q.1 ∧ p.2 < q.2) := by rw [ltP2_eq]; exact SrtO.lexB_iff
theorem lt_no {p q : PI2} : ltP2 p q = false ↔ ¬ (p.1 < q.1 ∨ (p.1 = q.1 ∧ p.2 < q.2)) := by rw [ltP2_eq]; exact SrtO.lexB_no
abbrev LeP (p q : PI2) : Prop := ltP2 q p = false
theorem LeP.trans {p q r : PI2} (h : LeP p q) (h2 : LeP q r) : LeP p r := by
  have a := lt_no.mp h
  have b := lt_no.mp h2
  exact lt_no.mpr (by omega)
theorem LeP.anti {p q : PI2} (h : LeP p q) (h2 : LeP q p) : p = q := by
  have a := lt_no.mp h
  have b := lt_no.mp h2
  exact Prod.ext (by omega) (by omega)
theorem LeP.refl (p : PI2) : LeP p p := lt_no.mpr (by omega)
theorem insP_sorted (x : PI2) : ∀ ys, ys.Pairwise LeP → (insP x ys).Pairwise LeP
  | [], _ => List.pairwise_singleton ..
  | y :: ys, h => by
    obtain ⟨h1, h2⟩ := List.pairwise_cons.mp h
    unfold insP
    split
    · rename_i q
      refine List.pairwise_cons.mpr ⟨fun z hz => ?_, insP_sorted x ys h2⟩
      rcases List.mem_cons.mp ((insP_perm x ys).mem_iff.mp hz) with e | hz
      · rw [e]
        have a := lt_iff.mp q
        exact lt_no.mpr (by omega)
      · exact h1 z hz
    · rename_i q
      exact List.pairwise_cons.mpr ⟨fun z hz => by rcases List.mem_cons.mp hz with e | hz; exact e ▸ q; exact LeP.trans q (h1 z hz), h⟩
theorem sortP_sorted : ∀ xs, (sortP xs).Pairwise LeP
  | [] => .nil
  | x :: xs => insP_sorted x _ (sortP_sorted xs)
theorem sortedP_one : ∀ {a b : List PI2}, a.Perm b → a.Pairwise LeP → b.Pairwise LeP → a = b
  | [], b, h, _, _ => (List.Perm.nil_eq h)
  | x :: a, [], h, _, _ => absurd h.length_eq (by simp)
  | x :: a, y :: b, h, ha, hb => by
    obtain ⟨a1, a2⟩ := List.pairwise_cons.mp ha
    obtain ⟨b1, b2⟩ := List.pairwise_cons.mp hb
    have e1 : LeP x y := by
      rcases List.mem_cons.mp (h.mem_iff.mpr (List.mem_cons_self (a := y) (l := b))) with e | m
      · rw [e]; exact .refl _
      · exact a1 y m
    have e2 : LeP y x := by
      rcases List.mem_cons.mp (h.mem_iff.mp (List.mem_cons_self (a := x) (l := a))) with e | m
      · rw [e]; exact .refl _
      · exact b1 x m
    have e := e1.anti e2
    subst e
    rw [sortedP_one h.cons_inv a2 b2]
def pD (p : PI2) : D := .tup [.int p.1, .int p.2]
def prOf : D → Option PI2
  | .tup [.int i, .int j] => some (i, j)
  | _ => none
def prsOf : List D → Option (List PI2)
  | [] => some []
  | d :: ds => (prOf d).bind fun p => (prsOf ds).map (p :: ·)
theorem prOf_of {d : D} {p : PI2} (h : prOf d = some p) : d = pD p := by
  unfold prOf at h
  split at h
  · cases h; rfl
  · cases h
theorem prsOf_of : ∀ {ds : List D} {ps : List PI2}, prsOf ds = some ps → ds = ps.map pD
  | [], ps, h => by cases h; rfl
  | d :: ds, ps, h => by
    obtain ⟨p, e1, e2⟩ := bnd (show ((prOf d).bind fun p => (prsOf ds).map (p :: ·)) = some ps from h)
    obtain ⟨qs, e3, e4⟩ := mpd e2
    subst e4
    rw [prOf_of e1, prsOf_of e3]
    rfl
/-- pairs that stand are taken as data -/
theorem take_all {H : Hp} : ∀ {ys : List V} {G : Hp}, SameR G H → (∀ y ∈ ys, ∃ t i j, y = .ref t ∧ H t = some (.tup [.int i, .int j])) → ∃ G2, Ext G H G2 H ∧ RpA G2 ys (ys.map fun y => pD (VL.kH H y))
  | [], G, g, _ => ⟨G, .refl g, trivial⟩
  | y :: ys, G, g, h => by
    obtain ⟨t, i, j, rfl, ht⟩ := h y List.mem_cons_self
    obtain ⟨G2, x2, g2⟩ := Ext.take g ht
    obtain ⟨G3, x3, r3⟩ := take_all (ys := ys) x2.gh fun z hz => h z (List.mem_cons_of_mem _ hz)
    refine ⟨G3, x2.trans x3, ?_, r3⟩
    have e : VL.kH H (.ref t) = (i, j) := VL.kH_of ht
    show Rp G3 (.ref t) (pD (VL.kH H (.ref t)))
    rw [e]
    exact ⟨t, _, rfl, x3.gg _ _ g2, by show 2 ≤ sizeLine; decide, rfl, rfl, trivial⟩
/-- sorted(t), t a tuple of ints -/
def sortTF : List D → Option (List D)
  | [.tup xs] => (intsOf xs).map fun ns => (sortI ns).map D.int
  | _ => none
/-- sorted(l), l a list of pairs of ints -/
def sortLF : List D → Option (List D)
  | [.lst xs] => (prsOf xs).map fun ps => (sortP ps).map pD
  | _ => none
def keyP : List Key → Option PI2
  | [.inl i, .inl j] => some (i, j)
  | _ => none
def keysP : KD → Option (List PI2)
  | [] => some []
  | k :: ks => (keyP k.1).bind fun p => (keysP ks).map (p :: ·)
/-- sorted(d), d a dict whose keys are pairs of ints -/
def sortKF : List D → Option (List D)
  | [.dct ks] => (keysP ks).map fun ps => (sortP ps).map pD
  | _ => none
theorem keyP_of {k : List Key} {p : PI2} (h : keyP k = some p) : k = [.inl p.1, .inl p.2] := by
  unfold keyP at h
  split at h
  · cases h; rfl
  · cases h
theorem keysP_of {G : Hp} : ∀ {ks : KD} {ws : List (List Key × V)} {ps : List PI2}, keysP ks = some ps → RpK G ws ks → ws.map (·.1) = ps.map fun p => [Sum.inl p.1, Sum.inl p.2]
  | [], [], ps, h, _ => by cases h; rfl
  | k :: ks, w :: ws, ps, h, r => by
    obtain ⟨p, e1, e2⟩ := bnd (show ((keyP k.1).bind fun p => (keysP ks).map (p :: ·)) = some ps from h)
    obtain ⟨qs, e3, e4⟩ := mpd e2
    subst e4
    rw [List.map_cons, List.map_cons, keysP_of e3 r.2, r.1.1, keyP_of e1]
  | [], _ :: _, _, _, r => r.elim
  | _ :: _, [], _, _, r => r.elim
section
variable {X : Cx}
theorem cx_sortT {K : PySem.W.Frag} : CallX (VL.rSortTup K) sortTF := fun vs ds zs G H Q g r h k => by
  match ds, h with
  | [.tup xs], h =>
    obtain ⟨ns, e1, e2⟩ := mpd (show (intsOf xs).map (fun ns => (sortI ns).map D.int) = some zs from h)
    subst e2
    obtain ⟨v, e, q⟩ := rp1 r
    obtain ⟨a, ws, ev, ga, hz, ra⟩ := q
    subst e
    subst ev
    rw [intsOf_map e1] at ra hz
    have ew := RpA.ints ns ra
    rw [ew] at ga
    refine ⟨a, ns, rfl, SqT.of (g.tup ga), fun ns' p hp hs hn => ?_⟩
    have en : ns' = sortI ns := sorted_one (hp.trans (sortI_perm ns).symm) hs (sortI_sorted ns)
    rw [en]
    refine k p _ G (.refl g) hn ?_ (RpA.ofInts _)
    rw [List.length_map, (sortI_perm ns).length_eq]
    rw [List.length_map] at hz
    exact hz
theorem srtP_le {H : Hp} {ys : List V} (h : SrtO.Srtd (ltP (VL.kH H)) ys) : (ys.map (VL.kH H)).Pairwise LeP := List.pairwise_map.mpr (h.imp fun {x y} q => by
  show ltP2 _ _ = false
  rw [ltP2_eq]
  exact q)
theorem cx_sortL {K : PySem.W.Frag} : CallX (rSortedPO K) sortLF := fun vs ds zs G H Q g r h k => by
  match ds, h with
  | [.lst xs], h =>
    obtain ⟨ps, e1, e2⟩ := mpd (show (prsOf xs).map (fun ps => (sortP ps).map pD) = some zs from h)
    subst e2
    obtain ⟨v, e, q⟩ := rp1 r
    obtain ⟨a, ws, ev, ga, hz, ra⟩ := q
    subst e
    subst ev
    rw [prsOf_of e1] at ra hz
    have at' : ∀ (ps : List PI2) (ws : List V), RpA G ws (ps.map pD) → (∀ x ∈ ws, ∃ t i j, x = .ref t ∧ H t = some (.tup [.int i, .int j])) ∧ ws.map (VL.kH H) = ps := by
      intro ps
      induction ps with
      | nil =>
        intro ws r
        cases ws with
        | nil => exact ⟨fun x hx => (nomatch hx), rfl⟩
        | cons w ws => exact r.elim
      | cons p ps ih =>
        intro ws r
        cases ws with
        | nil => exact r.elim
        | cons w ws =>
          obtain ⟨h1, h2⟩ := ih ws r.2
          obtain ⟨t, us, e1, gt', _, ru⟩ := r.1
          match us, ru with
          | [u1, u2], ru =>
            have f1 : u1 = .int p.1 := ru.1
            have f2 : u2 = .int p.2 := ru.2.1
            subst f1 f2
            have ht := g.tup gt'
            refine ⟨fun x hx => ?_, ?_⟩
            · rcases List.mem_cons.mp hx with e | hx
              · exact ⟨t, p.1, p.2, by rw [e, e1], ht⟩
              · exact h1 x hx
            · rw [List.map_cons, h2, e1, VL.kH_of ht]
    obtain ⟨h1, h2⟩ := at' ps ws ra
    refine ⟨a, ws, VL.kH H, rfl, SqL.of (g.lst ga), fun x hx => ?_, fun ys p hs hb hn => ?_⟩
    · obtain ⟨t, i, j, e, ht⟩ := h1 x hx
      refine ⟨t, e, ?_⟩
      rw [e, VL.kH_of ht]
      exact ht
    · have hp : ys.Perm ws := hb.perm
      obtain ⟨G2, x2, r2⟩ := take_all g fun y hy => h1 y (hp.mem_iff.mp hy)
      have en : ys.map (VL.kH H) = sortP ps := sortedP_one ((hp.map _).trans (by rw [h2]; exact (sortP_perm ps).symm)) (srtP_le hs) (sortP_sorted ps)
      have e3 : ys.map (fun y => pD (VL.kH H y)) = (sortP ps).map pD := by rw [← en, List.map_map]; rfl
      rw [e3] at r2
      refine k p ys G2 x2 hn ?_ r2
      rw [List.length_map, (sortP_perm ps).length_eq]
      rw [List.length_map] at hz
      exact hz
theorem cx_sortK : CallX VL.rSortDT sortKF := fun vs ds zs G H Q g r h k => by
  match ds, h with
  | [.dct ks], h =>
    obtain ⟨ps, e1, e2⟩ := mpd (show (keysP ks).map (fun ps => (sortP ps).map pD) = some zs from h)
    subst e2
    obtain ⟨v, e, q⟩ := rp1 r
    obtain ⟨a, ws, ev, ga, hz, rk⟩ := q
    subst e
    subst ev
    have hk := keysP_of e1 rk
    have hall : ∀ p ∈ ws, ∃ i j : Int, p.1 = [Sum.inl i, Sum.inl j] := fun p hp => by
      have : p.1 ∈ ws.map (·.1) := List.mem_map.mpr ⟨p, hp, rfl⟩
      rw [hk] at this
      obtain ⟨q, _, e⟩ := List.mem_map.mp this
      exact ⟨q.1, q.2, e.symm⟩
    refine ⟨a, ws, rfl, g.dct ga, hall, fun bs hbs ys p hs hp hn => ?_⟩
    have hm := VL.isKeys_mem hbs hall
    have hmem : ∀ y ∈ ys, ∃ t i j, y = V.ref t ∧ H t = some (.tup [.int i, .int j]) := fun y hy => by
      obtain ⟨t, ht, e⟩ := List.mem_map.mp (hp.mem_iff.mp hy)
      obtain ⟨i, j, h⟩ := hm t ht
      exact ⟨t, i, j, e.symm, h⟩
    have keyv : ∀ (ws : List (List Key × V)) (bs : List Addr) (ps : List PI2), IsKeys H ws bs → ws.map (·.1) = ps.map (fun p => [Sum.inl p.1, Sum.inl p.2]) → (bs.map V.ref).map (VL.kH H) = ps := by
      intro ws bs ps h
      unfold IsKeys at h
      induction h generalizing ps with
      | nil => intro e; cases ps with
        | nil => rfl
        | cons p ps => cases e
      | @cons w b ws bs h1 t ih =>
        intro e
        cases ps with
        | nil => cases e
        | cons p ps =>
          rw [List.map_cons, List.map_cons] at e
          injection e with e1 e2
          rw [e1] at h1
          rw [List.map_cons, List.map_cons, ih ps e2, VL.kH_of h1]
    have h2 := keyv ws bs ps hbs hk
    obtain ⟨G2, x2, r2⟩ := take_all g hmem
    have en : ys.map (VL.kH H) = sortP ps := sortedP_one ((hp.map _).trans (by rw [h2]; exact (sortP_perm ps).symm)) (srtP_le hs) (sortP_sorted ps)
    have e3 : ys.map (fun y => pD (VL.kH H y)) = (sortP ps).map pD := by rw [← en, List.map_map]; rfl
    rw [e3] at r2
    refine k p ys G2 x2 hn ?_ r2
    have l1 : ps.length = ks.length := by
      have := congrArg List.length hk
      rw [List.length_map, List.length_map, rk.len] at this
      exact this.symm
    rw [List.length_map, (sortP_perm ps).length_eq, l1]
    exact hz
end
/-! ### dict(d) -/
def small2 : List Key → Bool
  | [.inl (.ofNat i), .inl (.ofNat j)] => match Nat.blt i 8 with
    | true => Nat.blt j 8
    | false => false
  | _ => false
theorem small2_of {k : List Key} (h : small2 k = true) : VL.Small2 k := by
  unfold small2 at h
  split at h
  · rename_i i j
    split at h
    · rename_i q
      exact ⟨i, j, rfl, Nat.lt_of_succ_le (Nat.le_of_ble_eq_true q), Nat.lt_of_succ_le (Nat.le_of_ble_eq_true h)⟩
    · cases h
  · cases h
def cDictOf (ε : EM) : Rho → Mem → Option (KD × Mem) := fun ρ μ => (ε ρ μ).bind fun p => match p.1 with
  | .dct ks => match ks.all fun k => small2 k.1 with
    | true => some (ks, p.2)
    | false => none
  | _ => none
section
variable {l : Bool} {X : Cx} {x : Str} {p pos : Pos} {e : Expr} {te : TE} {ε : EM}
theorem dc_dict (hu : X.A.units + 2 < cLine) (hg : Gl X "dict") (hm : X.mg "dict" = none) (h : DE l X e te ε) (he : starEach (e :: []) X.env = (false, eval e X.env) :: starEach [] X.env := by rfl) (hpl : (backTo pos (starEach [] X.env)).any (·.1) = false := by rfl) :
    DC l X (.Call (.Name "dict" p) [e] [] pos) (tCB VL.rDictT (tCons te tNil)) (cDictOf ε) := ⟨pe_callTy (VL.cr_dictT hu) hg hm (by rfl) (pa_cons h.pe pa_nil he) (by decide) (by decide) he hpl, fun b σ G H ρ μ ds μ2 Q hl R e k => by
  obtain ⟨⟨d, μ3⟩, e1, e2⟩ := bnd e
  cases d with
  | dct ks =>
    have e2 : (match ks.all fun k => small2 k.1 with | true => some (ks, μ3) | false => none) = some (ds, μ2) := e2
    split at e2
    · rename_i ha
      cases e2
      refine h.so b σ G H ρ μ _ _ _ hl R e1 fun v G2 H2 R2 s2 r2 => ?_
      obtain ⟨a, ws, rfl, ga, hz, rk⟩ := r2
      refine ⟨a, ws, rfl, R2.gh.dct ga, fun q hq => ?_, fun c hc => ?_⟩
      · obtain ⟨i, hi⟩ := List.mem_iff_getElem?.mp hq
        obtain ⟨dv, e3⟩ := rk.at (k := q.1) (v := q.2) hi
        exact small2_of (List.all_eq_true.mp ha _ (List.mem_of_getElem? e3))
      · exact k c ws G2 _ (R2.side hc) s2 upd_same hz rk (R2.gnone hc) (R2.b_none hc) (R2.unowned hc)
    · cases e2
  | _ => cases e2⟩
end
/-! ### x.pop(k), x an owned dict -/
def ePopK (i : Nat) (φ : EM) : EM := fun ρ μ => (dctAt μ i).bind fun _ => (φ ρ μ).bind fun p => (dctAt p.2 i).bind fun xs => match p.1 with
  | .tup es => (keysOf es).bind fun k => (valD xs k).map fun y => (y, mset p.2 i (.dct (dropD xs k)))
  | _ => none
section
variable {l : Bool} {X : Cx} {e : Expr} {te : TE} {φ : EM} {pos apos npos : Pos} {x : Str} {i : Nat}
theorem so_popK (h : SoE l te φ) : SoE l (tBM X.K "dict" VL.rPop1 (tVar i) (tCons te tNil)) (ePopK i φ) := fun b σ G H ρ μ d μ2 Q hl R e k => by
  obtain ⟨xs0, e0, e⟩ := bnd e
  obtain ⟨⟨y, μ3⟩, e1, e2⟩ := bnd e
  obtain ⟨xs, e3, e4⟩ := bnd e2
  cases y with
  | tup es =>
    obtain ⟨kk, e5, e6⟩ := bnd (show ((keysOf es).bind fun k => (valD xs k).map fun y => (y, mset μ3 i (.dct (dropD xs k)))) = some (d, μ2) from e4)
    obtain ⟨z, e7, e8⟩ := mpd e6
    cases e8
    obtain ⟨a, vs0, s0, h0, _, _⟩ := R.dctO e0
    refine ⟨_, s0, .inr (.inr (.inl ⟨rfl, .inr ⟨_, h0⟩⟩)), ?_⟩
    refine h b σ G H ρ μ _ _ _ hl R e1 fun v G2 H2 R2 s2 r2 => ?_
    obtain ⟨a2, ws, s1, h1, hz, rk⟩ := R2.dctO e3
    have ea := ref_eq s0 s1
    subst ea
    obtain ⟨t, vs', rfl, gt', _, ras⟩ := r2
    have ev : vs' = kk.map kV := keysOf_rp e5 ras
    rcases rk.val (k := kk) with ⟨n1, n2⟩ | ⟨v1, d1, n1, n2, n3⟩
    · rw [n2] at e7; cases e7
    · rw [n2] at e7
      cases e7
      refine ⟨a, ws, kk, t, v1, rfl, rfl, h1, by rw [← ev]; exact R2.gh.tup gt', n1, ?_⟩
      exact k _ G2 _ (R2.wrD e3 s0 (Nat.le_trans (dropD_len _ _) hz) (rk.drop)) s2 n3
  | _ => cases e4
theorem de_popK (i : Nat) (hu : X.A.units + 1 < cLine) (h : DE l X e te φ) (hN : X.N[i]? = some x := by rfl) (hv : Vis X.env.scope x := by first | exact Or.inl rfl | exact Or.inr (Or.inl rfl) | exact Or.inr (Or.inr rfl))
    (hd : (x == ("__debug__" : Str)) = false := by decide) (hcd : (x == ("__classdict__" : Str)) = false := by decide)
    (hbase : attributeBase (.Name x npos) "pop" X.env (eval (.Name x npos) X.env) = eval (.Name x npos) X.env := by rfl)
    (hfew : ((backTo pos (starEach (e :: []) X.env)).all (fun x => !x.1) && (backToKw pos (keywordEach [] X.env)).all (fun x => x.1.isSome)
      && decide ((e :: ([] : List Expr)).length + ([] : List Keyword).length + (if ([] : List Keyword).isEmpty then 0 else 1) < 30)) = true := by rfl)
    (hline : (apos.endLine == pos.line) = true := by rfl) (hs : starEach (e :: []) X.env = (false, eval e X.env) :: starEach [] X.env := by rfl) (hplain : (backTo pos (starEach [] X.env)).any (·.1) = false := by rfl) :
    DE l X (.Call (.Attribute (.Name x npos) "pop" apos) [e] [] pos) (tBM X.K "dict" VL.rPop1 (tVar i) (tCons te tNil)) (ePopK i φ) :=
  ⟨pe_bm PySem.F.plainAttrs_dict PySem.F.slot_dict_pop PySem.F.type_dict_pop (VL.mt_pop1 hu) (pe_var hN hv hd hcd) (pa_cons h.pe pa_nil hs) hbase hfew hline hs hplain, so_popK h.so⟩
end
end VS
end
section
/-! VS12: min of a list of pairs of ints -/
namespace VL
open PySem PySem.Spec PyProof.Rows L2 PySem.W
abbrev PZ := Int × Int
def dI (p : PZ) : PyData := .tuple [.int p.1, .int p.2]
theorem dataLt_pair (p q : PZ) : PySem.W.dataLt (dI p) (dI q) = SrtO.lexB p q := by
  obtain ⟨a, b⟩ := p
  obtain ⟨c, d⟩ := q
  show lexLt itemOrd [.inl 1, .inl a, .inl 1, .inl b, .inl 0] [.inl 1, .inl c, .inl 1, .inl d, .inl 0] = _
  unfold SrtO.lexB
  rw [lex_self (O := itemOrd)]
  by_cases h : a = c
  · rw [if_pos h, h, lex_self (O := itemOrd), lex_self (O := itemOrd)]
    by_cases h2 : b = d
    · rw [h2, lex_self (O := itemOrd), lex_self (O := itemOrd)]
      exact (decide_eq_false (Int.lt_irrefl d)).symm
    · rw [lex_diff (O := itemOrd) (fun z => h2 (Sum.inl.inj z))]
      rfl
  · rw [if_neg h, lex_diff (O := itemOrd) (fun z => h (Sum.inl.inj z))]
    rfl
/-- the least -/
def minP : PZ → List PZ → PZ
  | p, [] => p
  | p, q :: qs => match VS.ltP2 q p with
    | true => minP q qs
    | false => minP p qs
theorem minD_pairs : ∀ (qs : List PZ) (p : PZ), minD (dI p) (qs.map dI) = dI (minP p qs)
  | [], p => rfl
  | q :: qs, p => by
    show minD (if PySem.W.dataLt (dI q) (dI p) then dI q else dI p) (qs.map dI) = _
    rw [dataLt_pair, ← VS.ltP2_eq]
    unfold minP
    cases VS.ltP2 q p with
    | true => exact minD_pairs qs q
    | false => exact minD_pairs qs p
def rMinP (K : PySem.W.Frag) : List V → Hp → VK → Prop := fun vs H Q => ∃ (a : Addr) (xs : List V) (p : PZ) (ps : List PZ), vs = [V.ref a] ∧ SqL K H a xs ∧ (∀ x ∈ xs, ∃ t, x = V.ref t ∧ H t = some (.tup [.int (kH H x).1, .int (kH H x).2])) ∧ xs.map (kH H) = p :: ps ∧
  ∀ y ∈ xs, kH H y = minP p ps → Q y H
theorem dI_inj {h : Heap} {v : Value} {p q : PZ} {as bs : List Addr} (r1 : Reads h v (dI p) as) (r2 : Reads h v (dI q) bs) : p = q := by
  cases r1 with
  | tuple e1 c1 d1 s1 =>
    cases r2 with
    | tuple e2 c2 d2 s2 =>
      cases e1.symm.trans e2
      cases d1.symm.trans d2
      revert s1 s2
      generalize Array.toList _ = l
      intro s1 s2
      cases s1 with
      | cons a1 t1 =>
        cases t1 with
        | cons a2 t2 =>
          cases s2 with
          | cons b1 u1 =>
            cases u1 with
            | cons b2 u2 =>
              have f1 : p.1 = q.1 := by
                generalize p.1 = x at a1
                generalize q.1 = y at b1
                cases a1
                cases b1
                rfl
              have f2 : p.2 = q.2 := by
                generalize p.2 = x at a2
                generalize q.2 = y at b2
                cases a2
                cases b2
                rfl
              exact Prod.ext f1 f2
section
variable {X : Cx}
theorem cr_minP (hc : X.calm = true) (hu : X.A.units + 8 < cLine) : CallR X (.builtin "min") (rMinP X.K) := by
  intro pins s σ H vs us Q I r h
  obtain ⟨a, xs, p, ps, rfl, hs, hx, hm, q⟩ := h
  obtain ⟨its, rv, hl, hz⟩ := I.list hs
  rw [Vals.ref1 r]
  have reads : ∀ {x : V} {v : Value}, x ∈ xs → RelV x v → Reads s.heap v (dI (kH H x)) [] := fun {x v} m rx => by
    obtain ⟨t, rfl, ht⟩ := hx x m
    obtain rfl : v = Value.ref t := rx
    obtain ⟨_, its2, r2, o, ho, hc, n, hd⟩ := I.hok _ _ ht
    obtain ⟨u1, u2, rfl, ri, rj⟩ := vals2 r2
    obtain ⟨t1, rfl⟩ := ri
    obtain ⟨t2, rfl⟩ := rj
    exact .tuple ho hc hd (.cons (.int _ t1) (.cons (.int _ t2) .nil))
  have readsAll : ∀ (ys : List V) (ws : List Value), (∀ y ∈ ys, y ∈ xs) → Vals ys ws → ReadsAll s.heap ws (ys.map fun y => dI (kH H y)) [] := by
    intro ys
    induction ys with
    | nil => intro ws _ r; cases r; exact .nil
    | cons y ys ih =>
      intro ws hy r
      cases r with
      | cons r1 r2 => exact .cons (as := []) (bs := []) (reads (hy y List.mem_cons_self) r1) (ih _ (fun z hz => hy z (List.mem_cons_of_mem _ hz)) r2)
  have eD : (xs.map fun y => dI (kH H y)) = dI p :: ps.map dI := by
    rw [show (xs.map fun y => dI (kH H y)) = (xs.map (kH H)).map dI by rw [List.map_map]; rfl, hm]
    rfl
  have hr := readsAll xs its (fun y h => h) rv
  rw [eD] at hr
  have alike : AlikeAll (dI p :: ps.map dI) := by
    refine ⟨fun x hx y hy => ?_, fun x hx => ?_⟩
    · have sh : ∀ x ∈ dI p :: ps.map dI, ∃ p, x = dI p := fun x hx => by
        rcases List.mem_cons.mp hx with e | hx
        · exact ⟨p, e⟩
        · obtain ⟨q, _, e⟩ := List.mem_map.mp hx
          exact ⟨q, e.symm⟩
      obtain ⟨p1, rfl⟩ := sh x hx
      obtain ⟨p2, rfl⟩ := sh y hy
      rfl
    · rcases List.mem_cons.mp hx with e | hx
      · rw [e]; exact fun z => nomatch z
      · obtain ⟨q, _, e⟩ := List.mem_map.mp hx
        rw [← e]
        exact fun z => nomatch z
  have depth : PyData.depthAll (dI p :: ps.map dI) ≤ 2 := by
    have d1 : ∀ p, (dI p).depth ≤ 2 := fun p => by
      show PyData.depth (.tuple [.int p.1, .int p.2]) ≤ 2
      simp [PyData.depth, PyData.depthAll]
    have dm : ∀ ps : List PZ, PyData.depthAll (ps.map dI) ≤ 2 := fun ps => by
      induction ps with
      | nil => simp [PyData.depthAll]
      | cons q ps ih =>
        rw [List.map_cons]
        show max (dI q).depth (PyData.depthAll (ps.map dI)) ≤ 2
        exact Nat.max_le.mpr ⟨d1 q, ih⟩
    exact dm (p :: ps)
  refine min_list_data (I.ok.hd hc) (show s.heap.IsList a its.toArray from hl.isList) (by simpa using hr) alike (by omega) fun i v h' tk bs hv hR hk => ?_
  have hv' : its[i]? = some v := by simpa using hv
  obtain ⟨x, ex, rx⟩ : ∃ x, xs[i]? = some x ∧ RelV x v := by
    have hlt : i < xs.length := by rw [rv.length]; exact (List.getElem?_eq_some_iff.mp hv').1
    obtain ⟨u, hu', ru⟩ := rv.get (List.getElem?_eq_getElem hlt)
    rw [hv'] at hu'
    cases hu'
    exact ⟨_, List.getElem?_eq_getElem hlt, ru⟩
  have hmem := List.mem_of_getElem? ex
  have r1 := reads_keeps hk (reads hmem rx)
  rw [minD_pairs] at hR
  exact ⟨x, H, I.kept (t' := tk) hk, rx, q x hmem (dI_inj r1 hR)⟩
end
end VL
namespace VS
open PySem PySem.Spec PyProof.Rows L2
def minPF : List D → Option D
  | [.lst xs] => (prsOf xs).bind fun ps => match ps with
    | p :: qs => some (pD (VL.minP p qs))
    | [] => none
  | _ => none
theorem kH_all {G H : Hp} (g : SameR G H) : ∀ (ps : List PI2) (ws : List V), RpA G ws (ps.map pD) → (∀ x ∈ ws, ∃ t, x = V.ref t ∧ H t = some (.tup [.int (VL.kH H x).1, .int (VL.kH H x).2])) ∧ ws.map (VL.kH H) = ps ∧ ∀ x ∈ ws, Rp G x (pD (VL.kH H x))
  | [], [], _ => ⟨fun x hx => (nomatch hx), rfl, fun x hx => (nomatch hx)⟩
  | [], _ :: _, r => r.elim
  | _ :: _, [], r => r.elim
  | p :: ps, w :: ws, r => by
    obtain ⟨h1, h2, h3⟩ := kH_all g ps ws r.2
    have r1 := r.1
    obtain ⟨t, us, e1, gt', _, ru⟩ := r1
    match us, ru with
    | [u1, u2], ru =>
      have f1 : u1 = .int p.1 := ru.1
      have f2 : u2 = .int p.2 := ru.2.1
      subst f1 f2
      have ht := g.tup gt'
      have ek : VL.kH H w = p := by rw [e1, VL.kH_of ht]
      refine ⟨fun x hx => ?_, by rw [List.map_cons, h2, ek], fun x hx => ?_⟩
      · rcases List.mem_cons.mp hx with e | hx
        · rw [e, ek]; exact ⟨t, e1, ht⟩
        · exact h1 x hx
      · rcases List.mem_cons.mp hx with e | hx
        · rw [e, ek]; exact r.1
        · exact h3 x hx
section
variable {X : Cx}
theorem cd_minP {K : PySem.W.Frag} : CallD (VL.rMinP K) minPF := fun vs ds z G H Q g r h k => by
  match ds, h with
  | [.lst xs], h =>
    obtain ⟨ps, e1, e2⟩ := bnd (show ((prsOf xs).bind fun ps => match ps with | p :: qs => some (pD (VL.minP p qs)) | [] => none) = some z from h)
    obtain ⟨v, e, q⟩ := rp1 r
    obtain ⟨a, ws, ev, ga, hz, ra⟩ := q
    subst e
    subst ev
    rw [prsOf_of e1] at ra
    obtain ⟨h1, h2, h3⟩ := kH_all g ps ws ra
    cases ps with
    | nil => cases e2
    | cons p qs =>
      cases e2
      exact ⟨a, ws, p, qs, rfl, SqL.of (g.lst ga), h1, h2, fun y hy ey => k y G H (.refl g) (by rw [← ey]; exact h3 y hy)⟩
end
end VS
end
section
/-! VS13: dict displays, -x, list(range(..)), defs that give a new list, defs that change their first list -/
namespace VL
open PySem PySem.Spec PyProof.Rows L2
/-- {k: v}, k a tuple -/
def tDisp1 (tk tv : TE) : TE := fun σ H Q => ∀ p, H p = none → tk σ (upd H p (.dT [])) fun x H1 => tv σ H1 fun y H2 => H2 p = some (.dT []) ∧ ∃ k a, x = .ref a ∧ H2 a = some (.tup (k.map kV)) ∧ Q (.ref p) (upd H2 p (.dT [(k, y)]))
theorem pe_disp1 {X : Cx} {k v : Expr} {tk tv : TE} {pos : Pos} (hu : X.A.units < cLine) (hk : PE X k tk) (hv : PE X v tv) : PE X (.Dict [some k] [v] pos) (tDisp1 tk tv) := ⟨fun pins s σ H Q I q => by
  have hn := I.hok.fresh (Nat.le_refl s.heap.objs.size)
  have I1 := I.laid (a := s.heap.objs.size) (o := .dT []) (h' := s.heap.push { cls := .type "dict", data := .dict #[] }) (t' := s.toks) (fun _ _ q => Heap.get?_push_of_some _ q) (Nat.le_refl _) (dt_empty s.heap I.big)
  have len1 : (pairTrees [some k] [v] X.env pos).length = 1 := pairTrees_length [some k] [v] X.env pos rfl rfl
  have h0 : pairTrees [some k] [v] X.env pos ≠ [] := fun z => by rw [z] at len1; cases len1
  rw [arm_eval_Dict, zip_pairTrees [some k] [v] X.env pos rfl rfl, dictDisplay_pairs _ h0 (by rw [len1]; omega)]
  refine wpAny_bind (wpAny_standAt (wpAny_bind (wpAny_subDictH (knd := tupleKind (mixKind X.prog X.w)) hu (by rw [len1]; omega) ?_)))
  refine pairTrees_cons_walk (thn (hk.run pins _ σ _ _ I1 (q _ hn)) fun u s1 ⟨x, H1, I2, rx, q1⟩ => thn (hv.run pins s1 σ H1 _ I2 q1) fun w2 s2 ⟨y, H2, I3, ry, hp, kk, a, ex, ha, q2⟩ => pairTrees_nil_walk ?_)
  subst ex
  obtain rfl : u = Value.ref a := rx
  obtain ⟨z, hd, xs0, r0, dd⟩ := dt_of I3.hok hp
  cases r0
  refine ⟨[(kk, a, w2)], ⟨rfl, rfl, key_of I3.hok ha, trivial⟩, dd, fun h' tk dd' hs => wpAny_pure ⟨.ref s.heap.objs.size, _, ?_, rfl, q2⟩⟩
  obtain ⟨o, es, ep, hq, h2, h3, h4, h5, h6⟩ := dd'
  have rel : KT (upd H2 s.heap.objs.size (.dT [(kk, y)])) [(kk, y)] [(kk, a, w2)] := .cons ⟨rfl, by rw [upd_ne (ne_of ha hp (fun z => nomatch z))]; exact ha, ry⟩ .nil
  exact d_write I3 (by rw [hp]; exact True.intro) hs ⟨o, hq⟩ ⟨by rw [sizeLine_eq, List.length_singleton]; omega, hd, _, rel, o, es, ep, hq, h2, h3, h4, h6⟩⟩
end VL
namespace VS
open PySem PySem.Spec PyProof.Rows L2
/-! ### dict displays -/
def cEmp : Rho → Mem → Option (KD × Mem) := fun _ μ => some ([], μ)
def cOne (φ ψ : EM) : Rho → Mem → Option (KD × Mem) := fun ρ μ => (φ ρ μ).bind fun p => match p.1 with
  | .tup es => (keysOf es).bind fun k => (ψ ρ p.2).map fun q => ([(k, q.1)], q.2)
  | _ => none
section
variable {l : Bool} {X : Cx} {k v a : Expr} {tk tv ta : TE} {φ ψ : EM} {pos : Pos}
theorem dc_emp : DC l X (.Dict [] [] pos) tDNewT cEmp := ⟨pe_dnewT, fun b σ G H ρ μ d μ2 Q hl R e k => by
  cases e
  exact fun p hp => k p [] G _ (R.side hp) (.refl G) upd_same (Nat.zero_le _) trivial (R.gnone hp) (R.b_none hp) (R.unowned hp)⟩
theorem dc_one (hu : X.A.units < cLine) (hk : DE l X k tk φ) (hv : DE l X v tv ψ) : DC l X (.Dict [some k] [v] pos) (VL.tDisp1 tk tv) (cOne φ ψ) := ⟨VL.pe_disp1 hu hk.pe hv.pe, fun b σ G H ρ μ d μ2 Q hl R e kk => by
  obtain ⟨⟨dk, μ3⟩, e1, e2⟩ := bnd e
  cases dk with
  | tup es =>
    obtain ⟨key, e3, e4⟩ := bnd (show ((keysOf es).bind fun k => (ψ ρ μ3).map fun q => ([(k, q.1)], q.2)) = some (d, μ2) from e2)
    obtain ⟨⟨dv, μ4⟩, e5, e6⟩ := mpd e4
    cases e6
    intro p hp
    have gp := R.gnone hp
    have bp := R.b_none hp
    have R1 : Rel { b with B := upd b.B p (.dT []), G0 := G } σ G (upd H p (.dT [])) ρ μ := (R.side hp).guard upd_same gp (R.unowned hp)
    refine hk.so { b with B := upd b.B p (.dT []), G0 := G } σ G _ ρ μ _ _ _ hl R1 e1 fun v1 G2 H2 R2 s2 r2 => ?_
    refine hv.so { b with B := upd b.B p (.dT []), G0 := G } σ G2 H2 ρ μ3 _ _ _ hl R2 e5 fun v2 G3 H3 R3 s3 r3 => ?_
    obtain ⟨t, vs, rfl, ga, _, ra⟩ := r2
    have ev : vs = key.map kV := keysOf_rp e3 ra
    obtain ⟨R4, h4, g4, n4⟩ := Rel.unguard .dT R3 bp R.g0 R.sep
    refine ⟨h4, key, t, rfl, by rw [← ev]; exact R3.gh.tup (s3 _ _ ga), ?_⟩
    have Z : GrowK b σ G3 H3 ρ μ4 p [] := ⟨R4, ⟨[], h4, trivial⟩, g4 gp, bp, n4⟩
    have Z2 := Z.set (ws2 := [(key, v2)]) (acc2 := [(key, dv)]) ⟨⟨rfl, r3⟩, trivial⟩
    obtain ⟨ws, h5, r5⟩ := Z2.h
    rw [upd_same] at h5
    cases h5
    exact kk p _ G3 _ Z2.r (s2.trans s3) upd_same (by show 1 ≤ sizeLine; decide) r5 Z2.g Z2.b Z2.n
  | _ => cases e2⟩
/-! ### -x -/
def eNeg (φ : EM) : EM := fun ρ μ => (φ ρ μ).bind fun p => match p.1 with
  | .int i => some (.int (-i), p.2)
  | _ => none
theorem de_neg (h : DE l X a ta φ) : DE l X (.UnaryOp .USub a pos) (tUn (rU fun i => .int (-i)) ta) (eNeg φ) := ⟨pe_un un_neg h.pe, fun b σ G H ρ μ d μ2 Q hl R e k => by
  obtain ⟨⟨x, μ3⟩, e1, e2⟩ := bnd e
  cases x with
  | int i =>
    cases e2
    refine h.so b σ G H ρ μ _ _ _ hl R e1 fun v G2 H2 R2 s2 r2 => ?_
    have ev : v = .int i := r2
    exact ⟨i, ev, k _ G2 H2 R2 s2 rfl⟩
  | _ => cases e2⟩
end
/-! ### list(range(n)), tuple(range(n)) -/
def rgD (a b : Int) : List D := (List.range (b - a).toNat).map fun i => D.int (a + (i : Nat))
theorem rp_rg (G : Hp) (a b : Int) : RpA G (rgV a b) (rgD a b) := by
  have key : ∀ l : List Nat, RpA G (l.map fun i : Nat => V.int (a + i)) (l.map fun i : Nat => D.int (a + i)) := fun l => by
    induction l with
    | nil => trivial
    | cons i l ih => exact ⟨rfl, ih⟩
  exact key _
def rg1 (φ : EM) : Rho → Mem → Option (Int × Mem) := fun ρ μ => (φ ρ μ).bind fun p => match p.1 with
  | .int n => if n ≤ 1000000 ∧ -1000000 ≤ n then some (n, p.2) else none
  | _ => none
def lRg1 (φ : EM) : AM := fun ρ μ => (rg1 φ ρ μ).map fun p => (rgD 0 p.1, p.2)
def eTupRg1 (φ : EM) : EM := fun ρ μ => (rg1 φ ρ μ).map fun p => (.tup (rgD 0 p.1), p.2)
theorem rgD_len (n : Int) : (rgD 0 n).length = n.toNat := by
  unfold rgD
  rw [List.length_map, List.length_range]
  omega
section
variable {l : Bool} {X : Cx} {a : Expr} {ta : TE} {φ : EM} {p p2 pos pos2 : Pos}
theorem so_rg1 (h : SoE l ta φ) {b : Bs} {σ : L2.St} {G H : Hp} {ρ : Rho} {μ μ2 : Mem} {n : Int} {R : Int → Int → Hp → Prop} (hl : l = false → b.lk = []) (hR : Rel b σ G H ρ μ) (e : rg1 φ ρ μ = some (n, μ2)) (k : ∀ G2 H2, Rel b σ G2 H2 ρ μ2 → Same G G2 → RgOk 0 n → n.toNat ≤ 1000000 → R 0 n H2) : tRg1 ta σ H R := by
  obtain ⟨⟨x, μ3⟩, e1, e2⟩ := bnd e
  cases x with
  | int i =>
    have e2 : (if i ≤ 1000000 ∧ -1000000 ≤ i then some (i, μ3) else none) = some (n, μ2) := e2
    split at e2
    · rename_i hi
      cases e2
      refine h b σ G H ρ μ _ _ _ hl hR e1 fun v G2 H2 R2 s2 r2 => ?_
      exact ⟨_, r2, k G2 H2 R2 s2 ⟨by omega, by omega, by omega, by omega, by omega⟩ (by omega)⟩
    · cases e2
  | _ => cases e2
theorem dl_listRg (hc : X.calm = true) (hg : Gl X "list") (hm : X.mg "list" = none) (hg2 : Gl X "range") (hm2 : X.mg "range" = none) (h : DE l X a ta φ) (na : starEach [a] X.env = (false, eval a X.env) :: starEach [] X.env := by rfl)
    (nb : starEach [Expr.Call (.Name "range" p2) [a] [] pos2] X.env = (false, eval (Expr.Call (.Name "range" p2) [a] [] pos2) X.env) :: starEach [] X.env := by rfl) :
    DL l X (.Call (.Name "list" p) [.Call (.Name "range" p2) [a] [] pos2] [] pos) (tLstRg (tRg1 ta)) (lRg1 φ) := ⟨pe_listRg hc hg hm (prg_1 hg2 hm2 h.pe na) nb, fun b σ G H ρ μ d μ2 Q hl R e k => by
  obtain ⟨⟨n, μ3⟩, e1, e2⟩ := mpd e
  cases e2
  refine so_rg1 h.so hl R e1 fun G2 H2 R2 s2 ok hz => ⟨ok, fun q hq => ?_⟩
  refine k q _ G2 _ (R2.side hq) s2 upd_same ?_ (rp_rg G2 0 n) (R2.gnone hq) (R2.b_none hq) (R2.unowned hq)
  rw [rgD_len, sizeLine_eq]
  omega⟩
theorem de_tupRg (hc : X.calm = true) (hg : Gl X "tuple") (hm : X.mg "tuple" = none) (hg2 : Gl X "range") (hm2 : X.mg "range" = none) (h : DE l X a ta φ) (na : starEach [a] X.env = (false, eval a X.env) :: starEach [] X.env := by rfl)
    (nb : starEach [Expr.Call (.Name "range" p2) [a] [] pos2] X.env = (false, eval (Expr.Call (.Name "range" p2) [a] [] pos2) X.env) :: starEach [] X.env := by rfl) :
    DE l X (.Call (.Name "tuple" p) [.Call (.Name "range" p2) [a] [] pos2] [] pos) (tTupRg (tRg1 ta)) (eTupRg1 φ) := ⟨pe_tupRg hc hg hm (prg_1 hg2 hm2 h.pe na) nb, fun b σ G H ρ μ d μ2 Q hl R e k => by
  obtain ⟨⟨n, μ3⟩, e1, e2⟩ := mpd e
  cases e2
  refine so_rg1 h.so hl R e1 fun G2 H2 R2 s2 ok hz => ⟨ok, fun q hq => ?_⟩
  obtain ⟨R3, s3, r3⟩ := R2.tup (vs := rgV 0 n) hq (by rw [rgD_len, sizeLine_eq]; omega) (rp_rg G2 0 n)
  exact k _ _ _ R3 (s2.trans s3) r3⟩
end
/-! ### defs that give a new list -/
def spL (n : Nat) (m : List D → Option (List D)) : Sp := fun vs H Q _ => vs.length = n ∧ ∃ (G : Hp) (ds xs : List D), SameR G H ∧ (∀ a ws, G a = some (.dT ws) → H a = some (.dT ws)) ∧ RpA G vs ds ∧ m ds = some xs ∧
  ∀ a ws G2 H2, Ext G H G2 H2 → H2 a = some (.lst ws) → xs.length ≤ sizeLine → RpA G2 ws xs → G2 a = none → H a = none → Q (.ref a) H2
def runL (N : Nat) (φ : SM) : List D → Option (List D) := fun ds => (φ (ds.map some ++ List.replicate (N - ds.length) none) []).bind fun o => match o with
  | .rl xs _ => some xs
  | _ => none
section
variable {P : Program} {w : World} {K : PySem.W.Frag} {mg : Str → Option Value} {base : Heap}
theorem fn_okL {x qual : Str} {st : Stmt} {f : Addr} {fd : FuncData} {ps : List Str} {k : Nat} (N : List Str) (φ : SM) (n : Nat) (F : FunD K x qual (defArgs st) (defBody st) (defScope st) [] [] f fd) (S : FnScope N ps (defScope st)) (hn : ps.length = n)
    (hb : ∀ (cdv : Value) (A : Around) (outer : List Env) (s : Shared) (H : Hp) (E : XK), Room k (A.deeper (envOfC qual (defScope st) s.heap.objs.size f cdv)) → ∃ t, DSs false (cxOf CX0 P w K mg base N qual (defScope st) f cdv A outer s H E).nox (defBody st) t φ) :
    FnOk P w K mg base CX0 (k + 1) f fd ps (spL n (runL N.length φ)) := by
  refine F.ok S (fun vs H Q E h => ?_) fun cdv A outer s H vs Q E hr h => ?_
  · rw [h.1, hn]
  · obtain ⟨t, ht⟩ := hb cdv A outer s H E hr
    refine ⟨t, PSs.nox ht.pss, ?_⟩
    obtain ⟨hlen, G, ds, xs, sg, nl, r, e, q⟩ := h
    obtain ⟨o, e1, e2⟩ := bnd e
    refine ht.so _ _ G H _ _ o _ (fun _ => rfl) (rel_start (N := N) sg nl r) e1 ?_
    have ex : ∀ {σ : L2.St} {G2 H2 : Hp} {ρ : Rho} {μ : Mem}, Rel ⟨H, G, none, []⟩ σ G2 H2 ρ μ → Ext G H G2 H2 := fun R => ⟨R.bh, R.g0, R.gh, fun x gx hx => R.sep x gx hx, fun a ws ga _ => R.nl a ws ga List.not_mem_nil⟩
    cases o with
    | rl ys μ2 =>
      cases e2
      exact fun a ws σ2 G2 H2 ρ2 R2 h2 hz r2 g2 b2 n2 => q a ws G2 H2 (ex R2) h2 hz r2 g2 b2
    | rt x μ2 => cases e2
    | nx ρ2 μ2 => cases e2
    | bk ρ2 μ2 => cases e2
    | ct ρ2 μ2 => cases e2
def HasL (P : Program) (w : World) (K : PySem.W.Frag) (mg : Str → Option Value) (base : Heap) (k : Nat) (x : Str) (n : Nat) (m : List D → Option (List D)) : Prop :=
  ∃ (f : Addr) (fd : FuncData) (ps : List Str), FnOk P w K mg base CX0 k f fd ps (spL n m) ∧ mg x = some (.ref f) ∧ PySem.W.keepIn K (.ref f) = true ∧ Binds K fd ps []
theorem hasL_mk {x : Str} {f : Addr} {fd : FuncData} {ps : List Str} {k n : Nat} {m : List D → Option (List D)} {a : Arguments} {bd : List Stmt} {sc : Scope} (F : FunD K x x a bd sc [] [] f fd) (ok : FnOk P w K mg base CX0 k f fd ps (spL n m)) (g : mg x = some (.ref f)) (b : Binds K fd ps []) : HasL P w K mg base k x n m := ⟨f, fd, ps, ok, g, F.kp, b⟩
end
section
variable {X : Cx} {k k2 n : Nat} {m : List D → Option (List D)} {x : Str} {p pos : Pos} {e : Expr} {es : List Expr} {t : TA} {ψ : AM}
theorem so_callL (ha : SoA false t ψ) (hn : ∀ ρ μ ds μ2, ψ ρ μ = some (ds, μ2) → ds.length = n) : SoL false (tCall (spL n m) [] E0 t) (lCB m ψ) := fun b σ G H ρ μ d μ2 Q hl R e k => by
  obtain ⟨⟨xs, μ3⟩, e1, e2⟩ := bnd e
  obtain ⟨z, e3, e4⟩ := mpd e2
  cases e4
  refine ha b σ G H ρ μ xs _ _ hl R e1 fun vs G2 H2 R2 s2 r2 => ?_
  show spL n m (vs ++ []) H2 Q E0
  rw [List.append_nil]
  refine ⟨by rw [r2.len]; exact hn _ _ _ _ e1, G2, xs, _, R2.gh, fun a ws ga => R2.nl a ws ga (by rw [hl rfl]; exact List.not_mem_nil), r2, e3, fun a ws G3 H3 x3 h3 hz r3 g3 hn3 => ?_⟩
  exact k a ws G3 H3 (R2.ext x3) (s2.trans x3.gg) h3 hz r3 g3 (R2.b_none hn3) (R2.unowned hn3)
theorem dl_hasL (h : HasL X.prog X.w X.K X.mg X.base k x n m) (hr : Room k2 X.A) (hg : Gl X x) (ha : DA false X (e :: es) t ψ) (hl : ALen ψ n) (hk : Nat.ble k k2 = true := by rfl) (hdb : (x == ("__debug__" : Str)) = false := by decide)
    (he : starEach (e :: es) X.env = (false, eval e X.env) :: starEach es X.env := by rfl) (hpl : (backTo pos (starEach es X.env)).any (·.1) = false := by rfl) :
    DL false X (.Call (.Name x p) (e :: es) [] pos) (tCall (spL n m) [] E0 t) (lCB m ψ) := by
  obtain ⟨f, fd, ps, ok, g, kp, b⟩ := h
  exact ⟨pe_call ok (hr.mono (Nat.le_of_ble_eq_true hk)) hg g kp b .nil pass0 ha.pa hdb he hpl, so_callL ha.so hl.len⟩
end
end VS
end
section
/-! VS14: defs that change their first argument, a list -/
namespace VS
open PySem PySem.Spec PyProof.Rows L2
def spO (n : Nat) (m : List D → List D → Option (D × List D)) : Sp := fun vs H Q _ => ∃ (a : Addr) (us ws : List V) (G : Hp) (ds xs : List D) (d : D) (xs2 : List D), vs = .ref a :: us ∧ us.length = n ∧ SameR G H ∧ (∀ x w, G x = some (.dT w) → H x = some (.dT w)) ∧ RpA G us ds ∧
  H a = some (.lst ws) ∧ xs.length ≤ sizeLine ∧ RpA G ws xs ∧ G a = none ∧ m xs ds = some (d, xs2) ∧
  ∀ (v : V) (G2 H2 : Hp) (ws2 : List V), (∀ x o, x ≠ a → H x = some o → H2 x = some o) → Same G G2 → SameR G2 H2 → (∀ x, x ≠ a → G x = none → NT (H x) → G2 x = none) → (∀ x w, G2 x = some (.dT w) → H2 x = some (.dT w)) → H2 a = some (.lst ws2) → xs2.length ≤ sizeLine → RpA G2 ws2 xs2 → G2 a = none → Rp G2 v d → Q v H2
def runO (N : Nat) (φ : SM) : List D → List D → Option (D × List D) := fun xs ds => (φ (none :: (ds.map some ++ List.replicate (N - (ds.length + 1)) none)) [(0, .lst xs)]).bind fun o => match o with
  | .rt d μ => (lstAt μ 0).map fun ys => (d, ys)
  | _ => none
def offB (H : Hp) (a : Addr) : Hp := fun x => if x = a then none else H x
section
variable {P : Program} {w : World} {K : PySem.W.Frag} {mg : Str → Option Value} {base : Heap}
theorem rel_startO {G H : Hp} {N : List Str} {a : Addr} {us ws : List V} {ds xs : List D} (s : SameR G H) (nl : ∀ x w, G x = some (.dT w) → H x = some (.dT w)) (r : RpA G us ds) (ha : H a = some (.lst ws)) (hz : xs.length ≤ sizeLine) (rx : RpA G ws xs) (ga : G a = none) :
    Rel ⟨offB H a, G, some a, []⟩ (start N (.ref a :: us)) G H (none :: (ds.map some ++ List.replicate (N.length - (ds.length + 1)) none)) [(0, .lst xs)] := by
  have e0 : ∀ i c, mget [(0, Cell.lst xs)] i = some c → i = 0 ∧ c = .lst xs := fun i c e => by
    cases i with
    | zero => exact ⟨rfl, (Option.some.inj e).symm⟩
    | succ i => exact (nomatch e)
  have st : start N (.ref a :: us) = some (.ref a) :: (us.map some ++ List.replicate (N.length - (us.length + 1)) none) := rfl
  refine ⟨fun x o e => ?_, s, .refl G, fun x e _ => e, ?_, fun i d e => ?_, fun i c e => ?_, fun i j y hi hj e1 e2 => ?_, fun k e _ => ?_, fun x w e _ => nl x w e⟩
  · have e : (if x = a then none else H x) = some o := e
    split at e
    · cases e
    · exact e
  · rw [st]
    simp [r.len]
  · rw [st]
    cases i with
    | zero => cases e
    | succ i =>
      have e : gt (ds.map some ++ List.replicate (N.length - (ds.length + 1)) none) i = some d := e
      rw [r.len]
      exact gt_start r e
  · obtain ⟨rfl, rfl⟩ := e0 i c e
    exact ⟨a, rfl, ⟨ws, ha, hz, rx⟩, ga, if_pos rfl⟩
  · have h1 : i = 0 := by
      cases q : mget [(0, Cell.lst xs)] i with
      | none => exact absurd q hi
      | some c => exact (e0 i c q).1
    have h2 : j = 0 := by
      cases q : mget [(0, Cell.lst xs)] j with
      | none => exact absurd q hj
      | some c => exact (e0 j c q).1
    rw [h1, h2]
  · cases e
    rfl
theorem fn_okO {x qual : Str} {st : Stmt} {f : Addr} {fd : FuncData} {ps : List Str} {k : Nat} (N : List Str) (φ : SM) (n : Nat) (F : FunD K x qual (defArgs st) (defBody st) (defScope st) [] [] f fd) (S : FnScope N ps (defScope st)) (hn : ps.length = n + 1)
    (hb : ∀ (cdv : Value) (A : Around) (outer : List Env) (s : Shared) (H : Hp) (E : XK), Room k (A.deeper (envOfC qual (defScope st) s.heap.objs.size f cdv)) → ∃ t, DSs false (cxOf CX0 P w K mg base N qual (defScope st) f cdv A outer s H E).nox (defBody st) t φ) :
    FnOk P w K mg base CX0 (k + 1) f fd ps (spO n (runO N.length φ)) := by
  refine F.ok S (fun vs H Q E h => ?_) fun cdv A outer s H vs Q E hr h => ?_
  · obtain ⟨a, us, ws, G, ds, xs, d, xs2, rfl, hl, _⟩ := h
    rw [hn, List.length_cons, hl]
  · obtain ⟨t, ht⟩ := hb cdv A outer s H E hr
    refine ⟨t, PSs.nox ht.pss, ?_⟩
    obtain ⟨a, us, ws, G, ds, xs, d, xs2, rfl, hlen, sg, nl, r, ha, hz, rx, ga, e, q⟩ := h
    obtain ⟨o, e1, e2⟩ := bnd e
    refine ht.so _ _ G H _ _ o _ (fun _ => rfl) (rel_startO (N := N) sg nl r ha hz rx ga) e1 ?_
    cases o with
    | rt x μ2 =>
      obtain ⟨ys, e3, e4⟩ := mpd e2
      cases e4
      intro v σ2 G2 H2 ρ2 R2 r2
      obtain ⟨a2, ws2, s2, h2, hz2, rx2⟩ := R2.lstO e3
      have e5 := lstAt_some e3
      have p0 := R2.pin a rfl (by rw [e5]; exact fun z => by cases z)
      rw [s2] at p0
      cases p0
      obtain ⟨a3, s3, _, g3, _⟩ := R2.own 0 _ e5
      rw [s2] at s3
      cases s3
      refine q v G2 H2 ws2 (fun y o hy ho => ?_) R2.g0 R2.gh (fun y hy gy nt => ?_) (fun y w gy => R2.nl y w gy List.not_mem_nil) h2 hz2 rx2 g3 r2
      · refine R2.bh y o ?_
        show (if y = a then none else H y) = some o
        rw [if_neg hy]
        exact ho
      · refine R2.sep y gy ?_
        show NT (if y = a then none else H y)
        rw [if_neg hy]
        exact nt
    | rl ys μ2 => cases e2
    | nx ρ2 μ2 => cases e2
    | bk ρ2 μ2 => cases e2
    | ct ρ2 μ2 => cases e2
def HasO (P : Program) (w : World) (K : PySem.W.Frag) (mg : Str → Option Value) (base : Heap) (k : Nat) (x : Str) (n : Nat) (m : List D → List D → Option (D × List D)) : Prop :=
  ∃ (f : Addr) (fd : FuncData) (ps : List Str), FnOk P w K mg base CX0 k f fd ps (spO n m) ∧ mg x = some (.ref f) ∧ PySem.W.keepIn K (.ref f) = true ∧ Binds K fd ps []
theorem hasO_mk {x : Str} {f : Addr} {fd : FuncData} {ps : List Str} {k n : Nat} {m : List D → List D → Option (D × List D)} {a : Arguments} {bd : List Stmt} {sc : Scope} (F : FunD K x x a bd sc [] [] f fd) (ok : FnOk P w K mg base CX0 k f fd ps (spO n m)) (g : mg x = some (.ref f)) (b : Binds K fd ps []) : HasO P w K mg base k x n m := ⟨f, fd, ps, ok, g, F.kp, b⟩
end
/-- f(x, ..), x an owned list that f may change -/
def eCallO (i : Nat) (m : List D → List D → Option (D × List D)) (ψ : AM) : EM := fun ρ μ => (lstAt μ i).bind fun _ => (ψ ρ μ).bind fun p => (lstAt p.2 i).bind fun xs => (m xs p.1).map fun r => (r.1, mset p.2 i (.lst r.2))
section
variable {X : Cx} {k k2 n : Nat} {m : List D → List D → Option (D × List D)} {x y : Str} {p py pos : Pos} {es : List Expr} {t : TA} {ψ : AM} {i : Nat}
theorem so_callO (ha : SoA false t ψ) (hn : ∀ ρ μ ds μ2, ψ ρ μ = some (ds, μ2) → ds.length = n) : SoE false (tCall (spO n m) [] E0 (tCons (tVar i) t)) (eCallO i m ψ) := fun b σ G H ρ μ d μ2 Q hl R e k => by
  obtain ⟨xs0, e0, e⟩ := bnd e
  obtain ⟨⟨ds, μ3⟩, e1, e⟩ := bnd e
  obtain ⟨xs, e2, e⟩ := bnd e
  obtain ⟨⟨d2, ys⟩, e3, e4⟩ := mpd e
  cases e4
  obtain ⟨a, ws0, s, _⟩ := R.lstO e0
  refine ⟨_, s, ?_⟩
  refine ha b σ G H ρ μ ds _ _ hl R e1 fun vs G2 H2 R2 s2 r2 => ?_
  show spO n m (.ref a :: vs ++ []) H2 Q E0
  rw [List.append_nil]
  obtain ⟨a2, ws, s3, h3, hz, rx⟩ := R2.lstO e2
  rw [s] at s3
  cases s3
  have e5 := lstAt_some e2
  obtain ⟨a4, s4, c4, g4, b4⟩ := R2.own i _ e5
  rw [s] at s4
  cases s4
  refine ⟨a, vs, ws, G2, ds, xs, d2, ys, rfl, by rw [r2.len]; exact hn _ _ _ _ e1, R2.gh, fun y w gy => R2.nl y w gy (by rw [hl rfl]; exact List.not_mem_nil), r2, h3, hz, rx, g4, e3, fun v G3 H3 ws2 hh gg gh sep nl h6 hz6 rx6 g6 r6 => ?_⟩
  refine k v G3 H3 ?_ (s2.trans gg) r6
  refine ⟨fun y o q => ?_, gh, R2.g0.trans gg, fun y q nt => ?_, R2.len, fun j dd q => ?_, fun j c q => ?_, fun j l z hj hk e1 e2 => ?_, fun k hk hm => ?_, fun y w q _ => nl y w q⟩
  · exact hh y o (fun z => by rw [z, b4] at q; cases q) (R2.bh y o q)
  · exact sep y (fun z => by rw [z] at nt; exact nt.1 b4) (R2.sep y q nt) (nt.up R2.bh)
  · obtain ⟨u, eu, ru⟩ := R2.dat j dd q
    exact ⟨u, eu, Rp.up gg _ _ ru⟩
  · by_cases hj : j = i
    · subst hj
      rw [mget_set_same] at q
      cases q
      exact ⟨a, s, ⟨ws2, h6, hz6, rx6⟩, g6, b4⟩
    · rw [mget_set_ne hj] at q
      obtain ⟨a7, s7, c7, g7, b7⟩ := R2.own j c q
      have hne : a7 ≠ a := fun z => hj (R2.dis j i a7 (by rw [q]; exact fun z => by cases z) (by rw [e5]; exact fun z => by cases z) s7 (z ▸ s))
      have h7 : H3 a7 = H2 a7 := by
        cases q7 : H2 a7 with
        | none => exact absurd q7 c7.ne
        | some o => exact hh a7 o hne q7
      exact ⟨a7, s7, c7.up gg h7, sep a7 hne g7 c7.nt, b7⟩
  · refine R2.dis j l z ?_ ?_ e1 e2
    · by_cases hji : j = i
      · rw [hji, e5]; exact fun z => by cases z
      · rw [mget_set_ne hji] at hj; exact hj
    · by_cases hki : l = i
      · rw [hki, e5]; exact fun z => by cases z
      · rw [mget_set_ne hki] at hk; exact hk
  · refine R2.pin k hk ?_
    by_cases h0 : 0 = i
    · rw [h0, e5]; exact fun z => by cases z
    · rw [mget_set_ne h0] at hm; exact hm
theorem de_hasO (i : Nat) (h : HasO X.prog X.w X.K X.mg X.base k x n m) (hr : Room k2 X.A) (hg : Gl X x) (ha : DA false X es t ψ) (hl : ALen ψ n) (hk : Nat.ble k k2 = true := by rfl) (hdb : (x == ("__debug__" : Str)) = false := by decide)
    (hN : X.N[i]? = some y := by rfl) (hv : Vis X.env.scope y := by first | exact Or.inl rfl | exact Or.inr (Or.inl rfl) | exact Or.inr (Or.inr rfl)) (hd : (y == ("__debug__" : Str)) = false := by decide) (hcd : (y == ("__classdict__" : Str)) = false := by decide)
    (he : starEach (.Name y py :: es) X.env = (false, eval (.Name y py) X.env) :: starEach es X.env := by rfl) (hpl : (backTo pos (starEach es X.env)).any (·.1) = false := by rfl) :
    DE false X (.Call (.Name x p) (.Name y py :: es) [] pos) (tCall (spO n m) [] E0 (tCons (tVar i) t)) (eCallO i m ψ) := by
  obtain ⟨f, fd, ps, ok, g, kp, b⟩ := h
  exact ⟨pe_call ok (hr.mono (Nat.le_of_ble_eq_true hk)) hg g kp b .nil pass0 (pa_cons (pe_var hN hv hd hcd) ha.pa he) hdb he hpl, so_callO ha.so hl.len⟩
end
end VS
end
section
/-! VS15: sum of a tuple, sorted of a tuple of pairs; room -/
namespace VL
open PySem PySem.Spec PyProof.Rows L2 SrtO
section
variable {X : Cx}
def rSumT (K : PySem.W.Frag) : List V → Hp → VK → Prop := fun vs H Q => ∃ (a : Addr) (ns : List Int), vs = [V.ref a] ∧ SqT K H a (ns.map V.int) ∧ Q (.int ns.sum) H
theorem preSum_list (ns : List Int) : preSum (fun i => ns.getD i 0) ns.length = ns.sum := by
  have key : ∀ n, n ≤ ns.length → preSum (fun i => ns.getD i 0) n = (ns.take n).sum := by
    intro n
    induction n with
    | zero => intro _; simp [preSum]
    | succ n ih =>
      intro h
      have h2 : n < ns.length := h
      rw [show preSum (fun i => ns.getD i 0) (n + 1) = preSum (fun i => ns.getD i 0) n + ns.getD n 0 from rfl, ih (by omega), List.take_add_one, List.getElem?_eq_getElem h2, List.sum_append]
      simp [h2]
  rw [key _ (Nat.le_refl _), List.take_length]
theorem cr_sumT (hc : X.calm = true) : CallR X (.builtin "sum") (rSumT X.K) := by
  intro pins s σ H vs us Q I r h
  obtain ⟨a, ns, rfl, hs, q⟩ := h
  obtain ⟨its, rv, p, hz⟩ := I.tuple hs
  rw [Vals.ref1 r]
  have hi := rv.ints
  have hl : its.length = ns.length := by rw [← rv.length, List.length_map]
  refine call_sum_walkAnyS (PySem.W.iter_tupleW (vs := its.toArray) (I.ok.hd hc) p fun s₂ e W st hfp hw hk => ?_)
  refine ⟨_, _, _, _, _, _, _, fun i => ns.getD i 0, rfl, W, st, hfp, fun i v hv => ?_, fun s' t' m => ?_⟩
  · have hv' : its[i]? = some v := by simpa using hv
    have hlt := (List.getElem?_eq_some_iff.mp hv').1
    have hlt2 : i < ns.length := by omega
    obtain ⟨u, hu, ru⟩ := rv.get (i := i) (x := V.int ns[i]) (by rw [List.getElem?_map, List.getElem?_eq_getElem hlt2]; rfl)
    rw [hv'] at hu
    cases hu
    obtain ⟨t, rfl⟩ := ru
    exact ⟨t, by simp [hlt2]⟩
  · obtain ⟨h', tk, rfl, hk'⟩ := PySem.W.moved_old e rfl m
    rw [List.size_toArray, hl, preSum_list]
    exact ⟨.int ns.sum, H, I.kept (t' := tk) hk', ⟨t', rfl⟩, q⟩
/-- sorted(t), a tuple of pairs of ints -/
def rSortTP (K : PySem.W.Frag) : List V → Hp → VK → Prop := fun vs H Q => ∃ (a : Addr) (xs : List V), vs = [V.ref a] ∧ SqT K H a xs ∧ (∀ x ∈ xs, ∃ t, x = V.ref t ∧ H t = some (.tup [.int (kH H x).1, .int (kH H x).2])) ∧
  ∀ ys p, Srtd (ltP (kH H)) ys → ys.Perm xs → H p = none → Q (.ref p) (upd H p (.lst ys))
theorem cr_sortTP : CallR X (.builtin "sorted") (rSortTP X.K) := by
  intro pins s σ H vs us Q I r h
  obtain ⟨a, xs, rfl, hs, hx, q⟩ := h
  obtain ⟨its, rv, p, hz⟩ := I.tuple hs
  rw [Vals.ref1 r]
  have hz' : its.length ≤ sizeLine := by rw [← rv.length]; exact hz
  obtain ⟨o, ho, hc, n, hd⟩ := id p
  obtain ⟨e1, e2⟩ := refs_back rv fun x m => let ⟨t, e, _⟩ := hx x m; ⟨t, e⟩
  have pair : ∀ v ∈ its, Srt.IsPair s.heap v (kH H (backV v)).1 (kH H (backV v)).2 := fun v hv => by
    obtain ⟨t, rfl⟩ := e2 v hv
    have hm : V.ref t ∈ xs := by rw [e1]; exact List.mem_map.mpr ⟨_, hv, rfl⟩
    obtain ⟨t', e, ht⟩ := hx _ hm
    cases e
    obtain ⟨_, its2, r2, o, ho, hc, n, hd⟩ := I.hok _ _ ht
    obtain ⟨u1, u2, rfl, ri, rj⟩ := vals2 r2
    obtain ⟨t1, rfl⟩ := ri
    obtain ⟨t2, rfl⟩ := rj
    exact ⟨t, o, t1, t2, n, rfl, ho, hc, hd⟩
  refine sorted_gen (swo_lex fun u => kH H (backV u)) (fun vs => vs = its) (fun R hR => ?_) (fun vs e => by rw [e]; exact hz') (fun vs h₁ tk a' e h2 ha kk => ?_) fun vs out h' h2 tk d e h1 hb hk hdd hk2 ⟨n2, hn⟩ => ?_
  · exact wpAny_collect_seq a (.inr rfl) ho hc hd (fun h' hk => by
      rw [show its.toArray.toList = its by simp]
      exact hR h' s.toks its hk rfl) (by simpa using hz')
  · subst e
    refine pairs_sortableO (s := { s with heap := h₁, toks := tk }) (by omega) (fun v hm => (pair v hm).keeps fun b o e _ => (kk b o e).2) fun o e => ?_
    have e' : some o = some (seqObj "list" vs.toArray 0) := e.symm.trans ha
    cases e'
    intro c
    exact absurd (Value.type.inj c) (by decide)
  · subst e
    have h3 : ∀ u ∈ out, ∃ a, u = Value.ref a := fun u hu => e2 u (hb.perm.mem_iff.mp hu)
    have hp : (out.map backV).Perm xs := by rw [e1]; exact hb.perm.map backV
    have I1 : Inv X pins σ H { s with heap := h', toks := tk } := I.kept hk
    refine ⟨.ref d, upd H d (.lst (out.map backV)), I1.laid (t' := tk) hk2 hdd ⟨?_, out, n2, vals_back h3, hn⟩, rfl, q _ d (srtd_map h1) hp (I1.hok.fresh hdd)⟩
    rw [hp.length_eq]
    exact hz
end
end VL
namespace VS
open PySem PySem.Spec PyProof.Rows L2
def sumTF : List D → Option D
  | [.tup xs] => (intsOf xs).map fun ns => .int ns.sum
  | _ => none
def sortTPF : List D → Option (List D)
  | [.tup xs] => (prsOf xs).map fun ps => (sortP ps).map pD
  | _ => none
section
variable {X : Cx}
theorem cd_sumT {K : PySem.W.Frag} : CallD (VL.rSumT K) sumTF := fun vs ds z G H Q g r h k => by
  match ds, h with
  | [.tup xs], h =>
    obtain ⟨ns, e1, e2⟩ := mpd (show (intsOf xs).map (fun ns => D.int ns.sum) = some z from h)
    subst e2
    obtain ⟨v, e, q⟩ := rp1 r
    obtain ⟨a, ws, ev, ga, hz, ra⟩ := q
    subst e
    subst ev
    rw [intsOf_map e1] at ra
    rw [RpA.ints ns ra] at ga
    exact ⟨a, ns, rfl, SqT.of (g.tup ga), k _ G H (.refl g) rfl⟩
theorem cx_sortTP {K : PySem.W.Frag} : CallX (VL.rSortTP K) sortTPF := fun vs ds zs G H Q g r h k => by
  match ds, h with
  | [.tup xs], h =>
    obtain ⟨ps, e1, e2⟩ := mpd (show (prsOf xs).map (fun ps => (sortP ps).map pD) = some zs from h)
    subst e2
    obtain ⟨v, e, q⟩ := rp1 r
    obtain ⟨a, ws, ev, ga, hz, ra⟩ := q
    subst e
    subst ev
    rw [prsOf_of e1] at ra hz
    obtain ⟨h1, h2, h3⟩ := kH_all g ps ws ra
    refine ⟨a, ws, rfl, SqT.of (g.tup ga), h1, fun ys p hs hp hn => ?_⟩
    obtain ⟨G2, x2, r2⟩ := take_all g fun y hy => by
      obtain ⟨t, e, ht⟩ := h1 y (hp.mem_iff.mp hy)
      exact ⟨t, _, _, e, ht⟩
    have en : ys.map (VL.kH H) = sortP ps := sortedP_one ((hp.map _).trans (by rw [h2]; exact (sortP_perm ps).symm)) (srtP_le hs) (sortP_sorted ps)
    have e3 : ys.map (fun y => pD (VL.kH H y)) = (sortP ps).map pD := by rw [← en, List.map_map]; rfl
    rw [e3] at r2
    refine k p ys G2 x2 hn ?_ r2
    rw [List.length_map, (sortP_perm ps).length_eq]
    rw [List.length_map] at hz
    exact hz
end
section
variable {k : Nat} {A : Around}
theorem ru0 (r : Room k A) : A.units < cLine := by have := r.un; omega
theorem ru1 (r : Room k A) : A.units + 1 < cLine := by have := r.un; omega
theorem ru2 (r : Room k A) : A.units + 2 < cLine := by have := r.un; omega
theorem ru8 (r : Room k A) : A.units + 8 < cLine := by have := r.un; omega
theorem ru64 (r : Room k A) : A.units + 64 < cLine := by have := r.un; omega
end
end VS
end
section
/-! VS16: [x] * n as a new list, sorted of a list of ints -/
namespace VS
open PySem PySem.Spec PyProof.Rows L2
def addI (d e : D) : Option D := match d, e with
  | .int i, .int j => some (.int (i + j))
  | _, _ => none
theorem opd_addI : OpD (ipI fun i j => i + j) addI := opd_ipAdd
def lRep (φ ψ : EM) : AM := fun ρ μ => (φ ρ μ).bind fun p => (ψ ρ p.2).bind fun q => match p.1, q.1 with
  | .lst xs, .int k => (repF xs k).map fun ys => (ys, q.2)
  | _, _ => none
section
variable {l : Bool} {X : Cx} {a b : Expr} {ta tb : TE} {φ ψ : EM} {pos : Pos}
theorem dl_rep (ha : DE l X a ta φ) (hb : DE l X b tb ψ) : DL l X (.BinOp a .Mult b pos) (tOp rMUL ta tb) (lRep φ ψ) := ⟨pe_op op_MUL ha.pe hb.pe, fun b σ G H ρ μ d μ2 Q hl R e k => by
  obtain ⟨⟨d1, μ3⟩, e1, e2⟩ := bnd e
  obtain ⟨⟨d2, μ4⟩, e3, e4⟩ := bnd e2
  refine ha.so b σ G H ρ μ d1 μ3 _ hl R e1 fun v1 G2 H2 R2 s2 r2 => ?_
  refine hb.so b σ G2 H2 ρ μ3 d2 μ4 _ hl R2 e3 fun v2 G3 H3 R3 s3 r3 => ?_
  cases d1 with
  | lst xs =>
    cases d2 with
    | int n =>
      obtain ⟨zs, e5, e6⟩ := mpd (show (repF xs n).map (fun ys => (ys, μ4)) = some (d, μ2) from e4)
      cases e6
      unfold repF at e5
      split at e5
      · rename_i c
        cases e5
        obtain ⟨t, vs, ex, ga, _, ra⟩ := Rp.up s3 _ _ r2
        refine .inr ⟨t, n, vs, ex, r3, R3.gh.lst ga, by omega, by omega, by rw [ra.len]; exact c.2.2, fun p hp => ?_⟩
        exact k p _ G3 _ (R3.side hp) (s2.trans s3) upd_same (by rw [rep_len]; exact c.2.2) (rep_flat ra _) (R3.gnone hp) (R3.b_none hp) (R3.unowned hp)
      · cases e5
    | _ => cases e4
  | _ => cases e4⟩
end
def sortLIF : List D → Option (List D)
  | [.lst xs] => (intsOf xs).map fun ns => (sortI ns).map D.int
  | _ => none
section
variable {X : Cx}
theorem cx_sortLI {K : PySem.W.Frag} : CallX (rSortedI K) sortLIF := fun vs ds zs G H Q g r h k => by
  match ds, h with
  | [.lst xs], h =>
    obtain ⟨ns, e1, e2⟩ := mpd (show (intsOf xs).map (fun ns => (sortI ns).map D.int) = some zs from h)
    subst e2
    obtain ⟨v, e, q⟩ := rp1 r
    obtain ⟨a, ws, ev, ga, hz, ra⟩ := q
    subst e
    subst ev
    rw [intsOf_map e1] at ra hz
    rw [RpA.ints ns ra] at ga
    refine ⟨a, ns, rfl, SqL.of (g.lst ga), fun ns' p hp hs hn => ?_⟩
    have en : ns' = sortI ns := sorted_one (hp.trans (sortI_perm ns).symm) hs (sortI_sorted ns)
    rw [en]
    refine k p _ G (.refl g) hn ?_ (RpA.ofInts _)
    rw [List.length_map, (sortI_perm ns).length_eq]
    rw [List.length_map] at hz
    exact hz
end
end VS
end
section
/-! VS17: y = {k: v for ..} on one line -/
namespace VS
open PySem PySem.Spec PyProof.Rows L2
section
variable {l : Bool} {X : Cx} {kx vx tg iter : Expr} {ifs : List Expr} {scope : Scope} {own : List (Str × Nat)} {pos : Pos} {wi : TI} {g : TG} {tt : TT} {tk te : TE} {ι : AM} {is vs : List Nat} {τ : GM} {υ : TM} {κ ε : EM}
theorem ds_setDcK (i : Nat) (bs : List Nat) (j : Nat) {x y : Str} {p py spos : Pos} (hu : X.A.units < cLine) (hc : X.calm = true) (hN0 : X.N.Nodup) (ok : BlkOk X.N X.env.scope scope own) (hvv : ∀ i ∈ is, i ∈ own.map (·.2))
    (hg : ∀ (s : Shared) (H : Hp) (C : Addr) (cl : List (Str × Addr)) (fp : List Addr), DG (X.blk s H scope (compEnvC scope cl C X.env) fp) tg is g τ)
    (ht : ∀ (s : Shared) (H : Hp) (C : Addr) (cl : List (Str × Addr)) (fp : List Addr), DTs true (X.blk s H scope (compEnvC scope cl C X.env) fp) ifs tt υ)
    (hk : ∀ (s : Shared) (H : Hp) (C : Addr) (cl : List (Str × Addr)) (fp : List Addr), DE true (X.blk s H scope (compEnvC scope cl C X.env) fp) kx tk κ)
    (he : ∀ (s : Shared) (H : Hp) (C : Addr) (cl : List (Str × Addr)) (fp : List Addr), DE true (X.blk s H scope (compEnvC scope cl C X.env) fp) vx te ε)
    (hN : X.N[j]? = some x := by rfl) (hv : Vis X.env.scope x := by first | exact Or.inl rfl | exact Or.inr (Or.inl rfl) | exact Or.inr (Or.inr rfl)) (hd : (x == ("__debug__" : Str)) = false := by decide)
    (hcd : (x == ("__classdict__" : Str)) = false := by decide) (hs : ∀ y, foldedSetIterable (.Name x p) X.env y = pure y := by intro _; rfl)
    (hy : X.N[i]? = some y := by rfl) (hyl : X.env.scope.names.lookup y = some .local := by rfl)
    (hsw : swapsWith (.DictComp kx vx [⟨tg, .Name x p, ifs, 0⟩] scope pos) (some (.Name y py)) spos.line X.env = pure true := by exact VL.swd_true rfl rfl rfl rfl) :
    DS false X (.Assign [.Name y py] (.DictComp kx vx [⟨tg, .Name x p, ifs, 0⟩] scope pos) spos) (tLock (tAsg (VL.tDct (iKeys (tVar j)) g tt tk te (own.map (·.2))) (gName i))) (sSetC i (cBor bs (cDCK j τ υ κ ε (own.map (·.2))))) :=
  ⟨ps_lock (VL.ps_setDct hu hc hN0 (pi_keys (pv j hN hv hd hcd)) ok (fun s H C cl fp => (hg s H C cl fp).pg) (fun s H C cl fp => (ht s H C cl fp).pts) (fun s H C cl fp => (hk s H C cl fp).pe) (fun s H C cl fp => (he s H C cl fp).pe) hy hyl hsw hs),
   so_setC (te := tLockE (VL.tDct (iKeys (tVar j)) g tt tk te (own.map (·.2)))) (dc_bor bs (dc_dcK (pos := pos) (p := p) j hu hc hN0 ok hvv hg ht hk he hN hv hd hcd hs)).so⟩
theorem ds_setDc (i : Nat) (bs : List Nat) {y : Str} {py spos : Pos} (hu : X.A.units < cLine) (hc : X.calm = true) (hN : X.N.Nodup) (hi : DI l X tg iter wi ι) (ok : BlkOk X.N X.env.scope scope own) (hv : ∀ i ∈ is, i ∈ own.map (·.2))
    (hg : ∀ (s : Shared) (H : Hp) (C : Addr) (cl : List (Str × Addr)) (fp : List Addr), DG (X.blk s H scope (compEnvC scope cl C X.env) fp) tg is g τ)
    (ht : ∀ (s : Shared) (H : Hp) (C : Addr) (cl : List (Str × Addr)) (fp : List Addr), DTs l (X.blk s H scope (compEnvC scope cl C X.env) fp) ifs tt υ)
    (hk : ∀ (s : Shared) (H : Hp) (C : Addr) (cl : List (Str × Addr)) (fp : List Addr), DE l (X.blk s H scope (compEnvC scope cl C X.env) fp) kx tk κ)
    (he : ∀ (s : Shared) (H : Hp) (C : Addr) (cl : List (Str × Addr)) (fp : List Addr), DE l (X.blk s H scope (compEnvC scope cl C X.env) fp) vx te ε)
    (hs : ∀ x, foldedSetIterable iter X.env x = pure x := by intro _; rfl)
    (hy : X.N[i]? = some y := by rfl) (hyl : X.env.scope.names.lookup y = some .local := by rfl)
    (hsw : swapsWith (.DictComp kx vx [⟨tg, iter, ifs, 0⟩] scope pos) (some (.Name y py)) spos.line X.env = pure true := by exact VL.swd_true rfl rfl rfl rfl) :
    DS l X (.Assign [.Name y py] (.DictComp kx vx [⟨tg, iter, ifs, 0⟩] scope pos) spos) (tAsg (VL.tDct wi g tt tk te (own.map (·.2))) (gName i)) (sSetC i (cBor bs (cDC ι τ υ κ ε (own.map (·.2))))) :=
  ⟨VL.ps_setDct hu hc hN hi.pi ok (fun s H C cl fp => (hg s H C cl fp).pg) (fun s H C cl fp => (ht s H C cl fp).pts) (fun s H C cl fp => (hk s H C cl fp).pe) (fun s H C cl fp => (he s H C cl fp).pe) hy hyl hsw hs,
   so_setC (dc_bor bs (dc_dc (pos := pos) hu hc hN hi ok hv hg ht hk he hs)).so⟩
end
end VS
end
section
/-! VR: running denotations step by step -/
namespace VS
open PySem PySem.Spec PyProof.Rows L2
section
variable {φ ψ : EM} {σ τ' : SM} {τ υ : TM} {χ : AM} {ρ ρ2 : Rho} {μ μ2 μ3 : Mem} {d e z : D} {b : Bool} {f : D → D → Option D} {ds : List D} {i : Nat} {o : Out}
theorem sIf_t (h : τ ρ μ = some (true, μ2)) : sIf τ σ τ' ρ μ = σ ρ μ2 := by
  unfold sIf
  rw [h]
  rfl
theorem sIf_f (h : τ ρ μ = some (false, μ2)) : sIf τ σ τ' ρ μ = τ' ρ μ2 := by
  unfold sIf
  rw [h]
  rfl
theorem sSeq_nx (h : σ ρ μ = some (.nx ρ2 μ2)) : sSeq σ τ' ρ μ = τ' ρ2 μ2 := by
  unfold sSeq
  rw [h]
  rfl
theorem sSeq_rt (h : σ ρ μ = some (.rt d μ2)) : sSeq σ τ' ρ μ = some (.rt d μ2) := by
  unfold sSeq
  rw [h]
  rfl
theorem sSeq_rl (h : σ ρ μ = some (.rl ds μ2)) : sSeq σ τ' ρ μ = some (.rl ds μ2) := by
  unfold sSeq
  rw [h]
  rfl
theorem sSet_eq (h : φ ρ μ = some (d, μ2)) : sSet i φ ρ μ = some (.nx (put ρ i (some d)) (mdel μ2 i)) := by
  unfold sSet
  rw [h]
  rfl
theorem sRet_eq (h : φ ρ μ = some (d, μ2)) : sRet φ ρ μ = some (.rt d μ2) := by
  unfold sRet
  rw [h]
  rfl
theorem sSetL_eq (hi : ¬ (i = 0 ∨ ρ.length ≤ i)) (h : χ ρ μ = some (ds, μ2)) : sSetL i χ ρ μ = some (.nx (put ρ i none) (mset μ2 i (.lst ds))) := by
  unfold sSetL
  rw [if_neg hi, h]
  rfl
theorem eOp_eq (h1 : φ ρ μ = some (d, μ2)) (h2 : ψ ρ μ2 = some (e, μ3)) (h3 : f d e = some z) : eOp f φ ψ ρ μ = some (z, μ3) := by
  unfold eOp
  rw [h1]
  show (ψ ρ μ2).bind _ = _
  rw [h2]
  show (f d e).map _ = _
  rw [h3]
  rfl
theorem eBor_eq {is : List Nat} (h1 : borR is ρ μ = some ρ2) (h2 : φ ρ2 [] = some (d, μ2)) (h3 : clean (borK isLst is μ) (borK (fun c => !isLst c) is μ) d = true) : eBor is φ ρ μ = some (d, μ) := by
  unfold eBor
  rw [h1]
  show (φ ρ2 []).bind _ = _
  rw [h2]
  show (match clean (borK isLst is μ) (borK (fun c => !isLst c) is μ) d with | true => some (d, μ) | false => none) = _
  rw [h3]
theorem mBor_eq {is : List Nat} (h1 : borR is ρ μ = some ρ2) (h2 : τ ρ2 [] = some (b, μ2)) : mBor is τ ρ μ = some (b, μ) := by
  unfold mBor
  rw [h1]
  show (τ ρ2 []).map _ = _
  rw [h2]
  rfl
theorem tst_eq (h : φ ρ μ = some (.bl b, μ2)) : tstM φ ρ μ = some (b, μ2) := by
  unfold tstM
  rw [h]
theorem mNot_eq (h : τ ρ μ = some (b, μ2)) : mNot τ ρ μ = some (!b, μ2) := by
  unfold mNot
  rw [h]
  rfl
theorem mOr_f (h : τ ρ μ = some (false, μ2)) : mOr τ υ ρ μ = υ ρ μ2 := by
  unfold mOr
  rw [h]
  rfl
theorem mOr_t (h : τ ρ μ = some (true, μ2)) : mOr τ υ ρ μ = some (true, μ2) := by
  unfold mOr
  rw [h]
  rfl
theorem eCB_eq {g : List D → Option D} (h : χ ρ μ = some (ds, μ2)) (h2 : g ds = some d) : eCB g χ ρ μ = some (d, μ2) := by
  unfold eCB
  rw [h]
  show (g ds).map _ = _
  rw [h2]
  rfl
theorem lCB_eq {g : List D → Option (List D)} {xs : List D} (h : χ ρ μ = some (ds, μ2)) (h2 : g ds = some xs) : lCB g χ ρ μ = some (xs, μ2) := by
  unfold lCB
  rw [h]
  show (g ds).map _ = _
  rw [h2]
  rfl
theorem eCallO_eq {m : List D → List D → Option (D × List D)} {xs ys zs : List D} (h0 : lstAt μ i = some zs) (h : χ ρ μ = some (ds, μ2)) (h1 : lstAt μ2 i = some xs) (h2 : m xs ds = some (d, ys)) : eCallO i m χ ρ μ = some (d, mset μ2 i (.lst ys)) := by
  unfold eCallO
  rw [h0]
  show (χ ρ μ).bind _ = _
  rw [h]
  show (lstAt μ2 i).bind _ = _
  rw [h1]
  show (m xs ds).map _ = _
  rw [h2]
  rfl
theorem aCons_eq {ψ : AM} (h1 : φ ρ μ = some (d, μ2)) (h2 : ψ ρ μ2 = some (ds, μ3)) : aCons φ ψ ρ μ = some (d :: ds, μ3) := by
  unfold aCons
  rw [h1]
  show (ψ ρ μ2).map _ = _
  rw [h2]
  rfl
end
theorem powF_ok {i : Int} {k : Nat} (hi : i.natAbs < 2 ^ 64) (hk : k ≤ 1000000) : powF (.int i) (.int k) = some (.int (i ^ k)) := by
  unfold powF
  show (if _ then _ else _) = _
  rw [if_pos ⟨Int.ofNat_nonneg k, by omega, hi⟩]
  rfl
theorem cutD_int (ns : List Int) (lo hi : Option Int) : ∃ cs : List Int, cutD (ns.map D.int) lo hi = cs.map D.int ∧ cs ⊆ ns := by
  unfold cutD
  rw [← List.map_drop, ← List.map_take]
  exact ⟨_, rfl, fun x hx => List.mem_of_mem_drop (List.mem_of_mem_take hx)⟩
/-- a for loop that keeps an invariant to the end -/
theorem for_inv {ι : AM} {τ : GM} {φ : SM} {ρ : Rho} {μ : Mem} {cs : List Int} (J : Rho → Mem → Prop) (hi : ι ρ μ = some (cs.map D.int, μ)) (h0 : J ρ μ)
    (hs : ∀ c ∈ cs, ∀ ρ μ, J ρ μ → ∃ ρ1 μ1 ρ2 μ2, τ (.int c) ρ μ = some (ρ1, μ1) ∧ φ ρ1 μ1 = some (.nx ρ2 μ2) ∧ J ρ2 μ2) : ∃ ρ2 μ2, sFor ι τ φ ρ μ = some (.nx ρ2 μ2) ∧ J ρ2 μ2 := by
  unfold sFor
  rw [hi]
  show ∃ ρ2 μ2, forRun τ φ (cs.map D.int) ρ μ = some (.nx ρ2 μ2) ∧ J ρ2 μ2
  clear hi
  induction cs generalizing ρ μ with
  | nil => exact ⟨ρ, μ, rfl, h0⟩
  | cons c cs ih =>
    obtain ⟨ρ1, μ1, ρ2, μ2, e1, e2, j2⟩ := hs c (List.mem_cons_self ..) ρ μ h0
    obtain ⟨ρ3, μ3, e3, j3⟩ := ih j2 fun c hc => hs c (List.mem_cons_of_mem _ hc)
    refine ⟨ρ3, μ3, ?_, j3⟩
    show (τ (.int c) ρ μ).bind _ = _
    rw [e1]
    show (φ ρ1 μ1).bind _ = _
    rw [e2]
    exact e3
end VS
end
section
/-! VS18: the law's own loop: for cell in ([0] + script)[:n], the script a frozen list -/
namespace VS
open PySem PySem.Spec PyProof.Rows L2
/-! ### a part of the kept objects: no lists, no tuples -/
def isSeqD : Data → Bool
  | .seq _ _ => true
  | _ => false
def plainK (K : PySem.W.Frag) : PySem.W.Frag := K.filter fun p => match K.lookup p.1 with
  | some o => !isSeqD o.data
  | none => true
theorem lookup_filter {α β : Type} [BEq α] [LawfulBEq α] (q : α → Bool) : ∀ (K : List (α × β)) (a : α), (K.filter fun p => q p.1).lookup a = if q a = true then K.lookup a else none
  | [], a => by
    show none = _
    split <;> rfl
  | (b, o) :: r, a => by
    have ih := lookup_filter q r a
    by_cases hb : q b = true
    · rw [List.filter_cons_of_pos (by exact hb)]
      by_cases e : a = b
      · subst e
        rw [List.lookup_cons_self, if_pos hb, List.lookup_cons_self]
      · have e2 : (a == b) = false := beq_eq_false_iff_ne.mpr e
        rw [List.lookup_cons, e2, List.lookup_cons, e2]
        exact ih
    · rw [List.filter_cons_of_neg (by exact hb), ih]
      by_cases e : a = b
      · subst e
        rw [if_neg hb, if_neg hb]
      · have e2 : (a == b) = false := beq_eq_false_iff_ne.mpr e
        rw [List.lookup_cons, e2]
theorem plainK_lookup (K : PySem.W.Frag) (a : Addr) : (plainK K).lookup a = match K.lookup a with
  | some o => if isSeqD o.data = true then none else some o
  | none => none := by
  unfold plainK
  rw [lookup_filter (fun a => match K.lookup a with | some o => !isSeqD o.data | none => true) K a]
  cases h : K.lookup a with
  | none => rfl
  | some o =>
    show (if (!isSeqD o.data) = true then some o else none) = if isSeqD o.data = true then none else some o
    cases isSeqD o.data <;> rfl
theorem plainK_of {K : PySem.W.Frag} {a : Addr} {o : Obj} (h : K.lookup a = some o) (n : isSeqD o.data = false) : (plainK K).lookup a = some o := by
  rw [plainK_lookup, h]
  show (if isSeqD o.data = true then none else some o) = some o
  rw [n]
  rfl
theorem plainK_some {K : PySem.W.Frag} {a : Addr} {o : Obj} (h : (plainK K).lookup a = some o) : K.lookup a = some o ∧ isSeqD o.data = false := by
  rw [plainK_lookup] at h
  cases e : K.lookup a with
  | none => rw [e] at h; cases h
  | some p =>
    rw [e] at h
    have h : (if isSeqD p.data = true then none else some p) = some o := h
    cases hp : isSeqD p.data with
    | true => rw [hp] at h; cases h
    | false =>
      rw [hp] at h
      cases h
      exact ⟨rfl, hp⟩
theorem plainK_in {K : PySem.W.Frag} {h : Heap} (x : K.In h) : (plainK K).In h := fun a o e => x a o (plainK_some e).1
theorem plainK_fun {K : PySem.W.Frag} {x qual : Str} {a : Arguments} {bd : List Stmt} {sc : Scope} {f : Addr} {fd : FuncData} (F : FunD K x qual a bd sc [] [] f fd) : FunD (plainK K) x qual a bd sc [] [] f fd := by
  obtain ⟨oc, od, dV, kV, doc, pm, an, cdv, ct, osl, e1, lk, hc, hd, _⟩ := F.ex
  have lk2 : (plainK K).lookup f = some ⟨oc, od, .func fd, osl⟩ := plainK_of lk rfl
  refine ⟨⟨oc, od, dV, kV, doc, pm, an, cdv, ct, osl, e1, lk2, ?_, ?_, .inl rfl⟩, ?_⟩
  · unfold PySem.W.codeIn at hc ⊢
    cases cdv with
    | ref c =>
      have hc : (match K.lookup c with | some ⟨_, _, .fields vs, _⟩ => (match vs.toList with | _ :: .str n _ :: _ => n == qual | _ => false) | _ => false) = true := hc
      cases e : K.lookup c with
      | none => rw [e] at hc; cases hc
      | some o =>
        obtain ⟨c1, c2, c3, c4⟩ := o
        rw [e] at hc
        cases c3 with
        | fields vs =>
          have := plainK_of e rfl
          show (match (plainK K).lookup c with | some ⟨_, _, .fields vs, _⟩ => (match vs.toList with | _ :: .str n _ :: _ => n == qual | _ => false) | _ => false) = true
          rw [this]
          exact hc
        | _ => cases hc
    | _ => exact hc
  · rcases hd with h | ⟨h, _⟩
    · exact .inl h
    · exact absurd rfl h
  · unfold PySem.W.keepIn
    show (match (plainK K).lookup f with | some ⟨_, _, .func _, _⟩ => true | some ⟨_, _, .cls _, _⟩ => _ | _ => false) = true
    rw [lk2]
/-! ### [0] + script -/
def rCatR : R2 := fun x y H Q => ∃ l b xs zs, x = .ref l ∧ y = .ref b ∧ H l = some (.lst xs) ∧ Rd H b (.lst zs) ∧ xs.length + zs.length ≤ sizeLine ∧ ∀ p, H p = none → Q (.ref p) (upd H p (.lst (xs ++ zs)))
section
variable {X : Cx}
theorem op_catR : OpR X (binaryOp .Add) rCatR := by
  intro pins s σ H x y v u Q I rx ry h
  obtain ⟨l, b, xs, zs, rfl, rfl, hH, hB, hz, q⟩ := h
  cases rx
  cases ry
  obtain ⟨z, its, n, r, hl, e⟩ := I.lstM hH
  obtain ⟨z2, its2, n2, r2, e2⟩ := hB.ok I.hok
  have hl2 := r2.length
  refine PySem.P.add_list e e2 ?_ (by rw [List.size_toArray, List.size_toArray]; omega)
  have ea : its.toArray ++ its2.toArray = (its ++ its2).toArray := by simp
  rw [ea]
  exact ⟨.ref _, _, I.lnew (t' := s.toks) (r.append r2) (by rw [List.length_append]; omega), rfl, q _ I.fresh⟩
end
def iScr (K : PySem.W.Frag) (n : Int) : TI := iList K (tSl (rSL K) (tOp rCatR (tLst (tCons (tC (.int 0)) tNil)) (tVar 0)) tNoPart (tPart (tC (.int n))))
theorem so_scr {K : PySem.W.Frag} {b : Bs} {σ : L2.St} {G H : Hp} {ρ : Rho} {μ : Mem} {a : Addr} {ns : List Int} {n : Int} (R : Rel b σ G H ρ μ) (h0 : σ[0]? = some (some (.ref a))) (hS : Rd H a (.lst (ns.map V.int))) (hl : ns.length ≤ 63) :
    SoIa (iScr K n) b σ G H ρ (cutD ((0 :: ns).map D.int) none (some n)) μ := fun R' k => by
  have z0 : ([D.int 0] : List D).length ≤ sizeLine := by decide
  have zz : ((0 :: ns).map D.int).length ≤ sizeLine := by
    rw [PySem.sizeLine_eq, List.length_map, List.length_cons]
    omega
  refine ⟨by decide, fun p hp => ⟨_, h0, ?_⟩⟩
  have hpa : a ≠ p := fun e => by
    subst e
    rcases hS with h | ⟨o, h⟩ <;> · rw [hp] at h; cases h
  have hS1 : Rd (upd H p (.lst [.int 0])) a (.lst (ns.map V.int)) := by
    rcases hS with h | ⟨o, h⟩
    · exact .inl (by rw [upd_ne hpa]; exact h)
    · exact .inr ⟨o, by rw [upd_ne hpa]; exact h⟩
  refine ⟨p, a, [.int 0], ns.map V.int, rfl, rfl, upd_same, hS1, by rw [PySem.sizeLine_eq, List.length_map]; show 1 + ns.length ≤ _; omega, fun q hq => ?_⟩
  obtain ⟨R1, s1, _⟩ := R.lst (vs := [.int 0]) (ds := [.int 0]) hp z0 ⟨rfl, trivial⟩
  obtain ⟨R2, s2, r2⟩ := R1.lst (vs := [.int 0] ++ ns.map V.int) (ds := (0 :: ns).map D.int) hq zz (RpA.ofInts (0 :: ns))
  refine ⟨n, rfl, .inl ⟨q, _, rfl, SqL.of upd_same, fun t ht => ?_⟩⟩
  have zc := Nat.le_trans (cutD_len ((0 :: ns).map D.int) none (some n)) zz
  obtain ⟨R3, s3, r3⟩ := R2.lst ht zc (cut_rp (RpA.ofInts (0 :: ns)) none (some n))
  obtain ⟨a3, vs, ev, ga, hz, ra⟩ := r3
  refine ⟨a3, ev, ⟨vs, SqL.of (R3.gh.lst ga)⟩, k _ _ _ _ _ hz (by rw [← ra.len]; exact walk_list (K := K) (a := a3)) R3 ((s1.trans s2).trans s3) (fun G' H' s g _ => SqL.of (g.lst (s _ _ ga))) fun i H' G' x H'' d s g _ hd y => ?_⟩
  obtain ⟨rfl, hy⟩ := y
  obtain ⟨w, e3, r3⟩ := (RpA.up s _ _ ra).get hd
  rw [hy] at e3
  cases e3
  exact ⟨G', .refl g, r3⟩
/-- what the law promises: True, for every script that may be given -/
def spScr : Sp := fun vs H Q _ => ∃ (a : Addr) (ns : List Int), vs = [.ref a] ∧ ns.length ≤ 63 ∧ Rd H a (.lst (ns.map V.int)) ∧ ∀ H', Q (.bl true) H'
theorem rel_scr {H : Hp} {N : List Str} {a : Addr} (m : Nat) (hm : N.length = m + 1) : Rel ⟨H, fun _ => none, none, []⟩ (start N [.ref a]) (fun _ => none) H (none :: List.replicate m none) [] := by
  refine ⟨fun _ _ e => e, fun _ _ e => (nomatch e), .refl _, fun x e _ => e, ?_, fun i d e => ?_, fun i c e => (nomatch e), fun i j a h => absurd rfl h, fun k e => (nomatch e), fun a ws e _ => (nomatch e)⟩
  · unfold L2.start
    rw [hm]
    simp
  · exfalso
    have hn : ∀ (m i : Nat), gt (List.replicate m (none : Option D)) i = none := fun m => by
      induction m with
      | zero => intro i; cases i <;> rfl
      | succ m ih =>
        intro i
        cases i with
        | zero => rfl
        | succ i => exact ih i
    have e : gt (List.replicate (m + 1) (none : Option D)) i = some d := e
    rw [hn] at e
    cases e
section
variable {P : Program} {w : World} {K : PySem.W.Frag} {mg : Str → Option Value} {base : Heap}
/-- the law's walk: the loop, then return True -/
theorem fn_scr {qual : Str} {st : Stmt} {f : Addr} {fd : FuncData} {k : Nat} (N : List Str) (m : Nat) (hm : N.length = m + 1) (n : Int) {is : List Nat} {τ : GM} {φ : SM} (F : FunD K qual qual (defArgs st) (defBody st) (defScope st) [] [] f fd) (S : FnScope N ["script"] (defScope st))
    (hl : ∀ ns : List Int, ∃ ρ2 μ2, forRun τ φ (cutD ((0 :: ns).map D.int) none (some n)) (none :: List.replicate m none) [] = some (.nx ρ2 μ2))
    (hb : ∀ (cdv : Value) (A : Around) (outer : List Env) (s : Shared) (H : Hp) (E : XK), Room k (A.deeper (envOfC qual (defScope st) s.heap.objs.size f cdv)) → ∃ g tb, PSs (cxOf CX0 P w K mg base N qual (defScope st) f cdv A outer s H E).nox (defBody st) (tSeq (tFor (iScr K n) g tb) (tRet (tC (.bl true)))) ∧ SoG is g τ ∧ SoS false tb φ) :
    FnOk P w K mg base CX0 (k + 1) f fd ["script"] spScr := by
  refine F.ok S (fun vs H Q E h => ?_) fun cdv A outer s H vs Q E hr h => ?_
  · obtain ⟨a, ns, rfl, _⟩ := h
    rfl
  · obtain ⟨a, ns, rfl, hn, hS, hQ⟩ := h
    obtain ⟨g, tb, ht, hg, hs⟩ := hb cdv A outer s H E hr
    refine ⟨_, PSs.nox ht, ?_⟩
    obtain ⟨ρ2, μ2, e⟩ := hl ns
    have h0 : (start N [.ref a])[0]? = some (some (V.ref a)) := rfl
    exact so_forA (so_scr (rel_scr m hm) h0 hS hn) hg hs (fun _ => rfl) e fun σ2 G2 H2 _ => hQ H2
/-- the derivation of that body -/
theorem scr_body {X : Cx} {tg : Expr} {body : List Stmt} {pos p1 p2 p3 p4 p5 p6 p7 p8 : Pos} {j1 j2 j3} {n : Int} {is : List Nat} {g : TG} {τ : GM} {tb : TS} {φ : SM} (hp : PassesOwn (model X.prog X.w) X.A X.env X.xe) (hc : X.calm = true) (hN : X.N[0]? = some ("script" : Str)) (hv : Vis X.env.scope ("script" : Str))
    (hg : DG X tg is g τ) (hb : DSs false X body tb φ) (hs : ∀ x, foldedSetIterable (.Subscript (.BinOp (.List [.Constant (.int 0) j1 p1] p2) .Add (.Name "script" p3) p4) (.Slice none (some (.Constant (.int n) j2 p5)) none p6) p7) X.env x = pure x := by intro _; rfl) :
    ∃ g2 tb2, PSs X [.For tg (.Subscript (.BinOp (.List [.Constant (.int 0) j1 p1] p2) .Add (.Name "script" p3) p4) (.Slice none (some (.Constant (.int n) j2 p5)) none p6) p7) body [] pos, .Return (some (.Constant (.bool true) j3 p8)) pos2] (tSeq (tFor (iScr X.K n) g2 tb2) (tRet (tC (.bl true)))) ∧ SoG is g2 τ ∧ SoS false tb2 φ :=
  ⟨g, tb, pss_cons (ps_for hp hc (pi_list (pe_slice (sl_list.or sl_tupA) (pe_op op_catR (pe_lst (pa_cons pe_int pa_nil)) (pv 0 hN hv)) po_none (po_some pe_int))) hg.pg hb.pss hs) (pss_one (ps_ret pe_bl)), hg.so, hb.so⟩
end
end VS
end
section
namespace FP
open PySem PySem.Spec PyProof.Rows L2 VS
def top (i : Nat) : Stmt := PySem.Challenge.pw_freshpairs_k13_whole_small_floors_by_wor.main.body.getD i (.Pass ⟨0, 0, 0, 0⟩)
structure Bi (mg : Str → Option Value) : Prop where
  b_all : mg "all" = none
  b_any : mg "any" = none
  b_bool : mg "bool" = none
  b_dict : mg "dict" = none
  b_enumerate : mg "enumerate" = none
  b_int : mg "int" = none
  b_isinstance : mg "isinstance" = none
  b_len : mg "len" = none
  b_list : mg "list" = none
  b_max : mg "max" = none
  b_min : mg "min" = none
  b_range : mg "range" = none
  b_sorted : mg "sorted" = none
  b_sum : mg "sum" = none
  b_tuple : mg "tuple" = none
  b_zip : mg "zip" = none
structure Gi (mg : Str → Option Value) : Prop where
  i_MOST_DANCES : ∃ t, mg "MOST_DANCES" = some (.int 60 t)
  i_MOST_MEMORY : ∃ t, mg "MOST_MEMORY" = some (.int 6 t)
  i_MOST_SIZE : ∃ t, mg "MOST_SIZE" = some (.int 6 t)
section
variable {P : Program} {w : World} {K : PySem.W.Frag} {mg : Str → Option Value} {base : Heap}
/-! is_from -/
def f_is_from : SM := (sRet (eAnd (eCB isiF (aCons (eVar 0) (aCons (eC (.opq (.ty "int"))) aNil))) (eAnd (eNot (eCB isiF (aCons (eVar 0) (aCons (eC (.opq (.ty "bool"))) aNil)))) (eChain (ltI fun i j => decide (i ≤ j)) (ltI fun i j => decide (i ≤ j)) (eVar 1) (eVar 0) (eVar 2)))))
def m_is_from : List D → Option D := runB 3 f_is_from
theorem sc_is_from : FnScope ["thing", "low", "high"] ["thing", "low", "high"] (defScope (top 10)) := ⟨rfl, rfl, rfl, by decide +kernel, rfl, by decide +kernel, by decide +kernel⟩
theorem ok_is_from {f : Addr} {fd : FuncData} (F : FunD K "is_from" "is_from" (defArgs (top 10)) (defBody (top 10)) (defScope (top 10)) [] [] f fd) (g : mg "is_from" = some (.ref f)) (B : Bi mg) (I : Gi mg)  : Has P w K mg base 1 "is_from" 3 m_is_from :=
  has_mk F (fn_ok (k := 0) ["thing", "low", "high"] f_is_from 3 F sc_is_from rfl fun cdv A outer s H E hr => ⟨_, (dss_one (ds_ret (de_and (de_cb call_isi cd_isi (by rfl) B.b_isinstance (by rfl) (da_cons (dv 0) (da_cons (de_ty (by rfl) B.b_int (by rfl)) da_nil))) (de_and (de_not (de_cb call_isi cd_isi (by rfl) B.b_isinstance (by rfl) (da_cons (dv 0) (da_cons (de_ty (by rfl) B.b_bool (by rfl)) da_nil)))) (de_one (de_chain op_le opd_ltI op_le opd_ltI (dv 1) (dv 0) (dv 2)))))))⟩) g (F.bindsN fun _ _ _ _ _ _ us hl => match us, hl with | [_, _, _], _ => rfl)
/-! is_rising -/
def f_is_rising : SM := (sRet (eCB allF (aCons (eL (lLC (iZp (eVar 0) (eCut (eVar 0) (oSome (eC (.int 1))) oNone)) (mTup 2 (mCons (mName 1) (mCons (mName 2) mNil))) mYes (eOp ltF (eVar 1) (eVar 2)) [1, 2])) aNil)))
def m_is_rising : List D → Option D := runB 3 f_is_rising
theorem sc_is_rising : FnScope ["things", "one", "other"] ["things"] (defScope (top 11)) := ⟨rfl, rfl, rfl, by decide +kernel, rfl, by decide +kernel, by decide +kernel⟩
theorem ok_is_rising {f : Addr} {fd : FuncData} (F : FunD K "is_rising" "is_rising" (defArgs (top 11)) (defBody (top 11)) (defScope (top 11)) [] [] f fd) (g : mg "is_rising" = some (.ref f)) (B : Bi mg) (I : Gi mg)  : Has P w K mg base 1 "is_rising" 1 m_is_rising :=
  has_mk F (fn_ok (k := 0) ["things", "one", "other"] f_is_rising 1 F sc_is_rising rfl fun cdv A outer s H E hr => ⟨_, (dss_one (ds_ret (de_cb (cr_all rfl) cd_all (by rfl) B.b_all (by rfl) (da_cons (DL.de (dl_lc (own := [("one", 1), ("other", 2)]) (is := [1, 2]) (g := (gTup K 2 (gCons (gName 1) (gCons (gName 2) gNil)))) (tt := tYes) (te := (tOp (rLT K) (tVar 1) (tVar 2))) rfl sc_is_rising.nd (di_zip (by rfl) B.b_zip (dv 0) (de_cut (dv 0) (do_some de_int) do_none)) (blkOk_by (by kernel_rfl)) (by decide) (fun _ _ _ _ _ => (dg_tup rfl (dgs_cons (dg_name 1 sc_is_rising.nd) (dgs_cons (dg_name 2 sc_is_rising.nd) dgs_nil)))) (fun _ _ _ _ _ => dts_nil) (fun _ _ _ _ _ => (de_cmp (op_LT hr) opd_lt (dv 1) (dv 2))))) da_nil))))⟩) g (F.bindsN fun _ _ _ _ _ _ us hl => match us, hl with | [_], _ => rfl)
/-! is_two -/
def f_is_two : SM := (sSeq (sIf (mOr (mNot (tstM (eCB isiF (aCons (eVar 1) (aCons (eC (.opq (.ty "tuple"))) aNil))))) (tstM (eOp neF (eCB lenF (aCons (eVar 1) aNil)) (eC (.int 2))))) (sRet (eC (.bl false))) sNil)
  (sRet (eAnd (eCB m_is_from (aCons (eOp ixF (eVar 1) (eC (.int 0))) (aCons (eC (.int 0)) (aCons (eOp subF (eVar 0) (eC (.int 1))) aNil)))) (eCB m_is_from (aCons (eOp ixF (eVar 1) (eC (.int 1))) (aCons (eC (.int 0)) (aCons (eOp subF (eVar 0) (eC (.int 1))) aNil)))))))
def m_is_two : List D → Option D := runB 2 f_is_two
theorem sc_is_two : FnScope ["size", "thing"] ["size", "thing"] (defScope (top 12)) := ⟨rfl, rfl, rfl, by decide +kernel, rfl, by decide +kernel, by decide +kernel⟩
theorem ok_is_two {f : Addr} {fd : FuncData} (F : FunD K "is_two" "is_two" (defArgs (top 12)) (defBody (top 12)) (defScope (top 12)) [] [] f fd) (g : mg "is_two" = some (.ref f)) (B : Bi mg) (I : Gi mg) (h_is_from : Has P w K mg base 1 "is_from" 3 m_is_from) : Has P w K mg base 2 "is_two" 2 m_is_two :=
  has_mk F (fn_ok (k := 1) ["size", "thing"] f_is_two 2 F sc_is_two rfl fun cdv A outer s H E hr => ⟨_, (dss_cons (ds_if (DW.dt (dw_or (dt_not (dt_val (de_cb call_isi cd_isi (by rfl) B.b_isinstance (by rfl) (da_cons (dv 1) (da_cons (de_ty (by rfl) B.b_tuple (by rfl)) da_nil))))) (dw_or1 (dt_cmp (op_neD (ru64 hr)) opd_ne (de_cb call_len_seq cd_len (by rfl) B.b_len (by rfl) (da_cons (dv 1) da_nil)) de_int)))) (dss_one (ds_ret de_bl)) dss_nil)
  (dss_one (ds_ret (de_and (de_has h_is_from hr (by rfl) (da_cons (de_ix (dv 1) de_int) (da_cons de_int (da_cons (de_op op_sub opd_sub (dv 0) de_int) da_nil))) (al_cons (al_cons (al_cons al_nil)))) (de_one (de_has h_is_from hr (by rfl) (da_cons (de_ix (dv 1) de_int) (da_cons de_int (da_cons (de_op op_sub opd_sub (dv 0) de_int) da_nil))) (al_cons (al_cons (al_cons al_nil)))))))))⟩) g (F.bindsN fun _ _ _ _ _ _ us hl => match us, hl with | [_, _], _ => rfl)
/-! is_floor -/
def f_is_floor : SM := (sSeq (sIf (mOr (mNot (tstM (eCB isiF (aCons (eVar 0) (aCons (eC (.opq (.ty "tuple"))) aNil))))) (mOr (tstM (eOp neF (eCB lenF (aCons (eVar 0) aNil)) (eC (.int 2)))) (mNot (tstM (eCB m_is_from (aCons (eOp ixF (eVar 0) (eC (.int 0))) (aCons (eC (.int 1)) (aCons (eC (.int 6)) aNil)))))))) (sRet (eC (.bl false))) sNil)
  (sSeq (sIf (mOr (mNot (tstM (eCB isiF (aCons (eOp ixF (eVar 0) (eC (.int 1))) (aCons (eC (.opq (.ty "tuple"))) aNil))))) (mNot (tstM (eCB allF (aCons (eL (lLC (iT (eOp ixF (eVar 0) (eC (.int 1)))) (mName 1) mYes (eCB m_is_two (aCons (eOp ixF (eVar 0) (eC (.int 0))) (aCons (eVar 1) aNil))) [1])) aNil))))) (sRet (eC (.bl false))) sNil)
  (sRet (eCB m_is_rising (aCons (eOp ixF (eVar 0) (eC (.int 1))) aNil)))))
def m_is_floor : List D → Option D := runB 2 f_is_floor
theorem sc_is_floor : FnScope ["thing", "pair"] ["thing"] (defScope (top 13)) := ⟨rfl, rfl, rfl, by decide +kernel, rfl, by decide +kernel, by decide +kernel⟩
theorem ok_is_floor {f : Addr} {fd : FuncData} (F : FunD K "is_floor" "is_floor" (defArgs (top 13)) (defBody (top 13)) (defScope (top 13)) [] [] f fd) (g : mg "is_floor" = some (.ref f)) (B : Bi mg) (I : Gi mg) (h_is_from : Has P w K mg base 1 "is_from" 3 m_is_from) (h_is_rising : Has P w K mg base 1 "is_rising" 1 m_is_rising) (h_is_two : Has P w K mg base 2 "is_two" 2 m_is_two) : Has P w K mg base 3 "is_floor" 1 m_is_floor :=
  has_mk F (fn_ok (k := 2) ["thing", "pair"] f_is_floor 1 F sc_is_floor rfl fun cdv A outer s H E hr => ⟨_, (dss_cons (ds_if (DW.dt (dw_or (dt_not (dt_val (de_cb call_isi cd_isi (by rfl) B.b_isinstance (by rfl) (da_cons (dv 0) (da_cons (de_ty (by rfl) B.b_tuple (by rfl)) da_nil))))) (dw_or (dt_cmp (op_neD (ru64 hr)) opd_ne (de_cb call_len_seq cd_len (by rfl) B.b_len (by rfl) (da_cons (dv 0) da_nil)) de_int) (dw_or1 (dt_not (dt_val (de_has h_is_from hr (by rfl) (da_cons (de_ix (dv 0) de_int) (da_cons de_int (da_cons (de_gint (by rfl) I.i_MOST_SIZE) da_nil))) (al_cons (al_cons (al_cons al_nil)))))))))) (dss_one (ds_ret de_bl)) dss_nil)
  (dss_cons (ds_if (DW.dt (dw_or (dt_not (dt_val (de_cb call_isi cd_isi (by rfl) B.b_isinstance (by rfl) (da_cons (de_ix (dv 0) de_int) (da_cons (de_ty (by rfl) B.b_tuple (by rfl)) da_nil))))) (dw_or1 (dt_not (dt_val (de_cb (cr_all rfl) cd_all (by rfl) B.b_all (by rfl) (da_cons (DL.de (dl_lc (own := [("pair", 1)]) (is := [1]) (g := (gName 1)) (tt := tYes) (te := (tCall (spP 2 m_is_two) [] E0 (tCons (tOp (rIX K) (tVar 0) (tC (.int 0))) (tCons (tVar 1) tNil)))) rfl sc_is_floor.nd (di_tup (de_ix (dv 0) de_int)) (blkOk_by (by kernel_rfl)) (by decide) (fun _ _ _ _ _ => (dg_name 1 sc_is_floor.nd)) (fun _ _ _ _ _ => dts_nil) (fun _ _ _ _ _ => (de_has h_is_two hr (by rfl) (da_cons (de_ix (dv 0) de_int) (da_cons (dv 1) da_nil)) (al_cons (al_cons al_nil)))))) da_nil))))))) (dss_one (ds_ret de_bl)) dss_nil)
  (dss_one (ds_ret (de_has h_is_rising hr (by rfl) (da_cons (de_ix (dv 0) de_int) da_nil) (al_cons al_nil))))))⟩) g (F.bindsN fun _ _ _ _ _ _ us hl => match us, hl with | [_], _ => rfl)
/-! are_followers -/
def f_are_followers : SM := (sSeq (sIf (mOr (mNot (tstM (eCB isiF (aCons (eVar 1) (aCons (eC (.opq (.ty "tuple"))) aNil))))) (tstM (eOp neF (eCB lenF (aCons (eVar 1) aNil)) (eVar 0)))) (sRet (eC (.bl false))) sNil)
  (sSeq (sIf (mNot (tstM (eCB allF (aCons (eL (lLC (iT (eVar 1)) (mName 2) mYes (eCB m_is_from (aCons (eVar 2) (aCons (eC (.int 0)) (aCons (eOp subF (eVar 0) (eC (.int 1))) aNil)))) [2])) aNil)))) (sRet (eC (.bl false))) sNil)
  (sRet (eOp eqF (eL (lCB sortTF (aCons (eVar 1) aNil))) (eL (lRg1 (eVar 0)))))))
def m_are_followers : List D → Option D := runB 3 f_are_followers
theorem sc_are_followers : FnScope ["size", "thing", "one"] ["size", "thing"] (defScope (top 14)) := ⟨rfl, rfl, rfl, by decide +kernel, rfl, by decide +kernel, by decide +kernel⟩
theorem ok_are_followers {f : Addr} {fd : FuncData} (F : FunD K "are_followers" "are_followers" (defArgs (top 14)) (defBody (top 14)) (defScope (top 14)) [] [] f fd) (g : mg "are_followers" = some (.ref f)) (B : Bi mg) (I : Gi mg) (h_is_from : Has P w K mg base 1 "is_from" 3 m_is_from) : Has P w K mg base 2 "are_followers" 2 m_are_followers :=
  has_mk F (fn_ok (k := 1) ["size", "thing", "one"] f_are_followers 2 F sc_are_followers rfl fun cdv A outer s H E hr => ⟨_, (dss_cons (ds_if (DW.dt (dw_or (dt_not (dt_val (de_cb call_isi cd_isi (by rfl) B.b_isinstance (by rfl) (da_cons (dv 1) (da_cons (de_ty (by rfl) B.b_tuple (by rfl)) da_nil))))) (dw_or1 (dt_cmp (op_neD (ru64 hr)) opd_ne (de_cb call_len_seq cd_len (by rfl) B.b_len (by rfl) (da_cons (dv 1) da_nil)) (dv 0))))) (dss_one (ds_ret de_bl)) dss_nil)
  (dss_cons (ds_if (dt_not (dt_val (de_cb (cr_all rfl) cd_all (by rfl) B.b_all (by rfl) (da_cons (DL.de (dl_lc (own := [("one", 2)]) (is := [2]) (g := (gName 2)) (tt := tYes) (te := (tCall (spP 3 m_is_from) [] E0 (tCons (tVar 2) (tCons (tC (.int 0)) (tCons (tOp (rI0 fun i j => .int (i - j)) (tVar 0) (tC (.int 1))) tNil))))) rfl sc_are_followers.nd (di_tup (dv 1)) (blkOk_by (by kernel_rfl)) (by decide) (fun _ _ _ _ _ => (dg_name 2 sc_are_followers.nd)) (fun _ _ _ _ _ => dts_nil) (fun _ _ _ _ _ => (de_has h_is_from hr (by rfl) (da_cons (dv 2) (da_cons de_int (da_cons (de_op op_sub opd_sub (dv 0) de_int) da_nil))) (al_cons (al_cons (al_cons al_nil))))))) da_nil)))) (dss_one (ds_ret de_bl)) dss_nil)
  (dss_one (ds_ret (de_cmp (op_eqD (ru64 hr)) opd_eq (DL.de (dl_cx VL.cr_sortTup cx_sortT (by rfl) B.b_sorted (by rfl) (da_cons (dv 1) da_nil))) (DL.de (dl_listRg rfl (by rfl) B.b_list (by rfl) B.b_range (dv 0))))))))⟩) g (F.bindsN fun _ _ _ _ _ _ us hl => match us, hl with | [_, _], _ => rfl)
/-! pairs_of -/
def f_pairs_of : SM := (sRet (eL (lLiEn (eVar 0))))
def m_pairs_of : List D → Option D := runB 1 f_pairs_of
theorem sc_pairs_of : FnScope ["dance"] ["dance"] (defScope (top 15)) := ⟨rfl, rfl, rfl, by decide +kernel, rfl, by decide +kernel, by decide +kernel⟩
theorem ok_pairs_of {f : Addr} {fd : FuncData} (F : FunD K "pairs_of" "pairs_of" (defArgs (top 15)) (defBody (top 15)) (defScope (top 15)) [] [] f fd) (g : mg "pairs_of" = some (.ref f)) (B : Bi mg) (I : Gi mg)  : Has P w K mg base 1 "pairs_of" 1 m_pairs_of :=
  has_mk F (fn_ok (k := 0) ["dance"] f_pairs_of 1 F sc_pairs_of rfl fun cdv A outer s H E hr => ⟨_, (dss_one (ds_ret (DL.de (dl_liEn (by rfl) B.b_list (by rfl) B.b_enumerate (dv 0) rfl))))⟩) g (F.bindsN fun _ _ _ _ _ _ us hl => match us, hl with | [_], _ => rfl)
/-! is_dancing -/
def f_is_dancing : SM := (sRet (eAnd (eCB m_are_followers (aCons (eOp ixF (eVar 0) (eC (.int 0))) (aCons (eVar 1) aNil))) (eCB allF (aCons (eL (lLC (iL (eCB m_pairs_of (aCons (eVar 1) aNil))) (mName 2) mYes (eOp inF (eVar 2) (eOp ixF (eVar 0) (eC (.int 1)))) [2])) aNil))))
def m_is_dancing : List D → Option D := runB 3 f_is_dancing
theorem sc_is_dancing : FnScope ["floor", "thing", "pair"] ["floor", "thing"] (defScope (top 16)) := ⟨rfl, rfl, rfl, by decide +kernel, rfl, by decide +kernel, by decide +kernel⟩
theorem ok_is_dancing {f : Addr} {fd : FuncData} (F : FunD K "is_dancing" "is_dancing" (defArgs (top 16)) (defBody (top 16)) (defScope (top 16)) [] [] f fd) (g : mg "is_dancing" = some (.ref f)) (B : Bi mg) (I : Gi mg) (h_are_followers : Has P w K mg base 2 "are_followers" 2 m_are_followers) (h_pairs_of : Has P w K mg base 1 "pairs_of" 1 m_pairs_of) : Has P w K mg base 3 "is_dancing" 2 m_is_dancing :=
  has_mk F (fn_ok (k := 2) ["floor", "thing", "pair"] f_is_dancing 2 F sc_is_dancing rfl fun cdv A outer s H E hr => ⟨_, (dss_one (ds_ret (de_and (de_has h_are_followers hr (by rfl) (da_cons (de_ix (dv 0) de_int) (da_cons (dv 1) da_nil)) (al_cons (al_cons al_nil))) (de_one (de_cb (cr_all rfl) cd_all (by rfl) B.b_all (by rfl) (da_cons (DL.de (dl_lc (own := [("pair", 2)]) (is := [2]) (g := (gName 2)) (tt := tYes) (te := (tOp (rIN K) (tVar 2) (tOp (rIX K) (tVar 0) (tC (.int 1))))) rfl sc_is_dancing.nd (di_list (de_has h_pairs_of hr (by rfl) (da_cons (dv 1) da_nil) (al_cons al_nil))) (blkOk_by (by kernel_rfl)) (by decide) (fun _ _ _ _ _ => (dg_name 2 sc_is_dancing.nd)) (fun _ _ _ _ _ => dts_nil) (fun _ _ _ _ _ => (de_cmp (op_IN hr) opd_in (dv 2) (de_ix (dv 0) de_int))))) da_nil))))))⟩) g (F.bindsN fun _ _ _ _ _ _ us hl => match us, hl with | [_, _], _ => rfl)
/-! are_dances -/
def f_are_dances : SM := (sRet (eAnd (eCB isiF (aCons (eVar 1) (aCons (eC (.opq (.ty "list"))) aNil))) (eAnd (eOp (ltI fun i j => decide (i ≤ j)) (eCB lenF (aCons (eVar 1) aNil)) (eC (.int 60))) (eCB allF (aCons (eL (lLC (iL (eVar 1)) (mName 2) mYes (eCB m_is_dancing (aCons (eVar 0) (aCons (eVar 2) aNil))) [2])) aNil)))))
def m_are_dances : List D → Option D := runB 3 f_are_dances
theorem sc_are_dances : FnScope ["floor", "thing", "one"] ["floor", "thing"] (defScope (top 17)) := ⟨rfl, rfl, rfl, by decide +kernel, rfl, by decide +kernel, by decide +kernel⟩
theorem ok_are_dances {f : Addr} {fd : FuncData} (F : FunD K "are_dances" "are_dances" (defArgs (top 17)) (defBody (top 17)) (defScope (top 17)) [] [] f fd) (g : mg "are_dances" = some (.ref f)) (B : Bi mg) (I : Gi mg) (h_is_dancing : Has P w K mg base 3 "is_dancing" 2 m_is_dancing) : Has P w K mg base 4 "are_dances" 2 m_are_dances :=
  has_mk F (fn_ok (k := 3) ["floor", "thing", "one"] f_are_dances 2 F sc_are_dances rfl fun cdv A outer s H E hr => ⟨_, (dss_one (ds_ret (de_and (de_cb call_isi cd_isi (by rfl) B.b_isinstance (by rfl) (da_cons (dv 1) (da_cons (de_ty (by rfl) B.b_list (by rfl)) da_nil))) (de_and (de_cmp op_le opd_ltI (de_cb call_len_seq cd_len (by rfl) B.b_len (by rfl) (da_cons (dv 1) da_nil)) (de_gint (by rfl) I.i_MOST_DANCES)) (de_one (de_cb (cr_all rfl) cd_all (by rfl) B.b_all (by rfl) (da_cons (DL.de (dl_lc (own := [("one", 2)]) (is := [2]) (g := (gName 2)) (tt := tYes) (te := (tCall (spP 2 m_is_dancing) [] E0 (tCons (tVar 0) (tCons (tVar 2) tNil)))) rfl sc_are_dances.nd (di_list (dv 1)) (blkOk_by (by kernel_rfl)) (by decide) (fun _ _ _ _ _ => (dg_name 2 sc_are_dances.nd)) (fun _ _ _ _ _ => dts_nil) (fun _ _ _ _ _ => (de_has h_is_dancing hr (by rfl) (da_cons (dv 0) (da_cons (dv 2) da_nil)) (al_cons (al_cons al_nil)))))) da_nil)))))))⟩) g (F.bindsN fun _ _ _ _ _ _ us hl => match us, hl with | [_, _], _ => rfl)
/-! are_apart -/
def f_are_apart : SM := (sRet (eCB allF (aCons (eL (lLC (iZp (eVar 0) (eVar 1)) (mTup 2 (mCons (mName 2) (mCons (mName 3) mNil))) mYes (eOp neF (eVar 2) (eVar 3)) [2, 3])) aNil)))
def m_are_apart : List D → Option D := runB 4 f_are_apart
theorem sc_are_apart : FnScope ["one", "other", "a", "b"] ["one", "other"] (defScope (top 18)) := ⟨rfl, rfl, rfl, by decide +kernel, rfl, by decide +kernel, by decide +kernel⟩
theorem ok_are_apart {f : Addr} {fd : FuncData} (F : FunD K "are_apart" "are_apart" (defArgs (top 18)) (defBody (top 18)) (defScope (top 18)) [] [] f fd) (g : mg "are_apart" = some (.ref f)) (B : Bi mg) (I : Gi mg)  : Has P w K mg base 1 "are_apart" 2 m_are_apart :=
  has_mk F (fn_ok (k := 0) ["one", "other", "a", "b"] f_are_apart 2 F sc_are_apart rfl fun cdv A outer s H E hr => ⟨_, (dss_one (ds_ret (de_cb (cr_all rfl) cd_all (by rfl) B.b_all (by rfl) (da_cons (DL.de (dl_lc (own := [("a", 2), ("b", 3)]) (is := [2, 3]) (g := (gTup K 2 (gCons (gName 2) (gCons (gName 3) gNil)))) (tt := tYes) (te := (tOp (rNeD K) (tVar 2) (tVar 3))) rfl sc_are_apart.nd (di_zip (by rfl) B.b_zip (dv 0) (dv 1)) (blkOk_by (by kernel_rfl)) (by decide) (fun _ _ _ _ _ => (dg_tup rfl (dgs_cons (dg_name 2 sc_are_apart.nd) (dgs_cons (dg_name 3 sc_are_apart.nd) dgs_nil)))) (fun _ _ _ _ _ => dts_nil) (fun _ _ _ _ _ => (de_cmp (op_neD (ru64 hr)) opd_ne (dv 2) (dv 3))))) da_nil))))⟩) g (F.bindsN fun _ _ _ _ _ _ us hl => match us, hl with | [_, _], _ => rfl)
/-! is_by -/
def f_is_by : SM := (sSeq (sFor (iEnL (eVar 0)) (mTup 2 (mCons (mName 2) (mCons (mName 3) mNil))) (sIf (mNot (tstM (eCB allF (aCons (eL (lLC (iL (eCut (eVar 0) (oSome (eCB maxF (aCons (eC (.int 0)) (aCons (eOp subF (eVar 2) (eVar 1)) aNil)))) (oSome (eVar 2)))) (mName 4) mYes (eCB m_are_apart (aCons (eVar 3) (aCons (eVar 4) aNil))) [4])) aNil)))) (sRet (eC (.bl false))) sNil))
  (sRet (eC (.bl true))))
def m_is_by : List D → Option D := runB 5 f_is_by
theorem sc_is_by : FnScope ["dances", "memory", "at", "dance", "other"] ["dances", "memory"] (defScope (top 19)) := ⟨rfl, rfl, rfl, by decide +kernel, rfl, by decide +kernel, by decide +kernel⟩
theorem ok_is_by {f : Addr} {fd : FuncData} (F : FunD K "is_by" "is_by" (defArgs (top 19)) (defBody (top 19)) (defScope (top 19)) [] [] f fd) (g : mg "is_by" = some (.ref f)) (B : Bi mg) (I : Gi mg) (h_are_apart : Has P w K mg base 1 "are_apart" 2 m_are_apart) : Has P w K mg base 2 "is_by" 2 m_is_by :=
  has_mk F (fn_ok (k := 1) ["dances", "memory", "at", "dance", "other"] f_is_by 2 F sc_is_by rfl fun cdv A outer s H E hr => ⟨_, (dss_cons (ds_for .never rfl (di_enL (by rfl) B.b_enumerate (dv 0)) (dg_tup rfl (dgs_cons (dg_name 2 sc_is_by.nd) (dgs_cons (dg_name 3 sc_is_by.nd) dgs_nil))) (dss_one (ds_if (dt_not (dt_val (de_cb (cr_all rfl) cd_all (by rfl) B.b_all (by rfl) (da_cons (DL.de (dl_lc (own := [("other", 4)]) (is := [4]) (g := (gName 4)) (tt := tYes) (te := (tCall (spP 2 m_are_apart) [] E0 (tCons (tVar 3) (tCons (tVar 4) tNil)))) rfl sc_is_by.nd (di_list (de_cut (dv 0) (do_some (de_cb (cr_MAX rfl) cd_max (by rfl) B.b_max (by rfl) (da_cons de_int (da_cons (de_op op_sub opd_sub (dv 2) (dv 1)) da_nil)))) (do_some (dv 2)))) (blkOk_by (by kernel_rfl)) (by decide) (fun _ _ _ _ _ => (dg_name 4 sc_is_by.nd)) (fun _ _ _ _ _ => dts_nil) (fun _ _ _ _ _ => (de_has h_are_apart hr (by rfl) (da_cons (dv 3) (da_cons (dv 4) da_nil)) (al_cons (al_cons al_nil)))))) da_nil)))) (dss_one (ds_ret de_bl)) dss_nil)))
  (dss_one (ds_ret de_bl)))⟩) g (F.bindsN fun _ _ _ _ _ _ us hl => match us, hl with | [_, _], _ => rfl)
/-! need_floor -/
def f_need_floor : SM := (sIf (mNot (tstM (eCB m_is_floor (aCons (eVar 0) aNil)))) sStuck sNil)
def m_need_floor : List D → Option D := runB 1 f_need_floor
theorem sc_need_floor : FnScope ["floor"] ["floor"] (defScope (top 20)) := ⟨rfl, rfl, rfl, by decide +kernel, rfl, by decide +kernel, by decide +kernel⟩
theorem ok_need_floor {f : Addr} {fd : FuncData} (F : FunD K "need_floor" "need_floor" (defArgs (top 20)) (defBody (top 20)) (defScope (top 20)) [] [] f fd) (g : mg "need_floor" = some (.ref f)) (B : Bi mg) (I : Gi mg) (h_is_floor : Has P w K mg base 3 "is_floor" 1 m_is_floor) : Has P w K mg base 4 "need_floor" 1 m_need_floor :=
  has_mk F (fn_ok (k := 3) ["floor"] f_need_floor 1 F sc_need_floor rfl fun cdv A outer s H E hr => ⟨_, (dss_one (ds_if (dt_not (dt_val (de_has h_is_floor hr (by rfl) (da_cons (dv 0) da_nil) (al_cons al_nil)))) (dss_one ds_stuck) dss_nil))⟩) g (F.bindsN fun _ _ _ _ _ _ us hl => match us, hl with | [_], _ => rfl)
/-! need_memory -/
def f_need_memory : SM := (sIf (mNot (tstM (eCB m_is_from (aCons (eVar 0) (aCons (eC (.int 0)) (aCons (eC (.int 6)) aNil)))))) sStuck sNil)
def m_need_memory : List D → Option D := runB 1 f_need_memory
theorem sc_need_memory : FnScope ["memory"] ["memory"] (defScope (top 21)) := ⟨rfl, rfl, rfl, by decide +kernel, rfl, by decide +kernel, by decide +kernel⟩
theorem ok_need_memory {f : Addr} {fd : FuncData} (F : FunD K "need_memory" "need_memory" (defArgs (top 21)) (defBody (top 21)) (defScope (top 21)) [] [] f fd) (g : mg "need_memory" = some (.ref f)) (B : Bi mg) (I : Gi mg) (h_is_from : Has P w K mg base 1 "is_from" 3 m_is_from) : Has P w K mg base 2 "need_memory" 1 m_need_memory :=
  has_mk F (fn_ok (k := 1) ["memory"] f_need_memory 1 F sc_need_memory rfl fun cdv A outer s H E hr => ⟨_, (dss_one (ds_if (dt_not (dt_val (de_has h_is_from hr (by rfl) (da_cons (dv 0) (da_cons de_int (da_cons (de_gint (by rfl) I.i_MOST_MEMORY) da_nil))) (al_cons (al_cons (al_cons al_nil)))))) (dss_one ds_stuck) dss_nil))⟩) g (F.bindsN fun _ _ _ _ _ _ us hl => match us, hl with | [_], _ => rfl)
/-! need_row -/
def f_need_row : SM := (sSeq (sExpr (eCB m_need_floor (aCons (eVar 0) aNil)))
  (sSeq (sExpr (eCB m_need_memory (aCons (eVar 1) aNil)))
  (sIf (mOr (mNot (tstM (eCB m_are_dances (aCons (eVar 0) (aCons (eVar 2) aNil))))) (mNot (tstM (eCB m_is_by (aCons (eVar 2) (aCons (eVar 1) aNil)))))) sStuck sNil)))
def m_need_row : List D → Option D := runB 3 f_need_row
theorem sc_need_row : FnScope ["floor", "memory", "row"] ["floor", "memory", "row"] (defScope (top 22)) := ⟨rfl, rfl, rfl, by decide +kernel, rfl, by decide +kernel, by decide +kernel⟩
theorem ok_need_row {f : Addr} {fd : FuncData} (F : FunD K "need_row" "need_row" (defArgs (top 22)) (defBody (top 22)) (defScope (top 22)) [] [] f fd) (g : mg "need_row" = some (.ref f)) (B : Bi mg) (I : Gi mg) (h_are_dances : Has P w K mg base 4 "are_dances" 2 m_are_dances) (h_is_by : Has P w K mg base 2 "is_by" 2 m_is_by) (h_need_floor : Has P w K mg base 4 "need_floor" 1 m_need_floor) (h_need_memory : Has P w K mg base 2 "need_memory" 1 m_need_memory) : Has P w K mg base 5 "need_row" 3 m_need_row :=
  has_mk F (fn_ok (k := 4) ["floor", "memory", "row"] f_need_row 3 F sc_need_row rfl fun cdv A outer s H E hr => ⟨_, (dss_cons (ds_expr (de_has h_need_floor hr (by rfl) (da_cons (dv 0) da_nil) (al_cons al_nil)))
  (dss_cons (ds_expr (de_has h_need_memory hr (by rfl) (da_cons (dv 1) da_nil) (al_cons al_nil)))
  (dss_one (ds_if (DW.dt (dw_or (dt_not (dt_val (de_has h_are_dances hr (by rfl) (da_cons (dv 0) (da_cons (dv 2) da_nil)) (al_cons (al_cons al_nil))))) (dw_or1 (dt_not (dt_val (de_has h_is_by hr (by rfl) (da_cons (dv 2) (da_cons (dv 1) da_nil)) (al_cons (al_cons al_nil)))))))) (dss_one ds_stuck) dss_nil))))⟩) g (F.bindsN fun _ _ _ _ _ _ us hl => match us, hl with | [_, _, _], _ => rfl)
/-! late_of -/
def f_late_of : SM := (sRet (eCut (eVar 1) (oSome (eCB maxF (aCons (eC (.int 0)) (aCons (eOp subF (eCB lenF (aCons (eVar 1) aNil)) (eVar 0)) aNil)))) oNone))
def m_late_of : List D → Option D := runB 2 f_late_of
theorem sc_late_of : FnScope ["memory", "row"] ["memory", "row"] (defScope (top 23)) := ⟨rfl, rfl, rfl, by decide +kernel, rfl, by decide +kernel, by decide +kernel⟩
theorem ok_late_of {f : Addr} {fd : FuncData} (F : FunD K "late_of" "late_of" (defArgs (top 23)) (defBody (top 23)) (defScope (top 23)) [] [] f fd) (g : mg "late_of" = some (.ref f)) (B : Bi mg) (I : Gi mg)  : Has P w K mg base 1 "late_of" 2 m_late_of :=
  has_mk F (fn_ok (k := 0) ["memory", "row"] f_late_of 2 F sc_late_of rfl fun cdv A outer s H E hr => ⟨_, (dss_one (ds_ret (de_cut (dv 1) (do_some (de_cb (cr_MAX rfl) cd_max (by rfl) B.b_max (by rfl) (da_cons de_int (da_cons (de_op op_sub opd_sub (de_cb call_len_seq cd_len (by rfl) B.b_len (by rfl) (da_cons (dv 1) da_nil)) (dv 0)) da_nil)))) do_none)))⟩) g (F.bindsN fun _ _ _ _ _ _ us hl => match us, hl with | [_, _], _ => rfl)
/-! late_pairs -/
def f_late_pairs : SM := (sRet (eL (lLC2 (iL (eCB m_late_of (aCons (eVar 0) (aCons (eVar 1) aNil)))) (mName 2) mYes (iL (eCB m_pairs_of (aCons (eVar 2) aNil))) (mName 3) mYes (eVar 3) [2, 3] [3])))
def m_late_pairs : List D → Option D := runB 4 f_late_pairs
theorem sc_late_pairs : FnScope ["memory", "row", "dance", "pair"] ["memory", "row"] (defScope (top 24)) := ⟨rfl, rfl, rfl, by decide +kernel, rfl, by decide +kernel, by decide +kernel⟩
theorem ok_late_pairs {f : Addr} {fd : FuncData} (F : FunD K "late_pairs" "late_pairs" (defArgs (top 24)) (defBody (top 24)) (defScope (top 24)) [] [] f fd) (g : mg "late_pairs" = some (.ref f)) (B : Bi mg) (I : Gi mg) (h_pairs_of : Has P w K mg base 1 "pairs_of" 1 m_pairs_of) (h_late_of : Has P w K mg base 1 "late_of" 2 m_late_of) : Has P w K mg base 2 "late_pairs" 2 m_late_pairs :=
  has_mk F (fn_ok (k := 1) ["memory", "row", "dance", "pair"] f_late_pairs 2 F sc_late_pairs rfl fun cdv A outer s H E hr => ⟨_, (dss_one (ds_ret (DL.de (dl_lc2 (own := [("dance", 2), ("pair", 3)]) (is := [2]) (is1 := [3]) (vs1 := [3]) (g := (gName 2)) (tt := tYes) (wi1 := (iList K (tCall (spP 1 m_pairs_of) [] E0 (tCons (tVar 2) tNil)))) (g1 := (gName 3)) (tt1 := tYes) (te := (tVar 3)) rfl sc_late_pairs.nd (di_list (de_has h_late_of hr (by rfl) (da_cons (dv 0) (da_cons (dv 1) da_nil)) (al_cons (al_cons al_nil)))) (blkOk_by (by kernel_rfl)) (by decide) (by decide) (by decide) (fun _ _ _ _ _ => (dg_name 2 sc_late_pairs.nd)) (fun _ _ _ _ _ => dts_nil) (fun _ _ _ _ _ => (di_list (de_has h_pairs_of hr (by rfl) (da_cons (dv 2) da_nil) (al_cons al_nil)))) (fun _ _ _ _ _ => (dg_name 3 sc_late_pairs.nd)) (fun _ _ _ _ _ => dts_nil) (fun _ _ _ _ _ => (dv 3))))))⟩) g (F.bindsN fun _ _ _ _ _ _ us hl => match us, hl with | [_, _], _ => rfl)
/-! fresh_of -/
def f_fresh_of : SM := (sSeq (sSet 3 (eCB m_late_pairs (aCons (eVar 1) (aCons (eVar 2) aNil))))
  (sRet (eL (lLC (iT (eVar 0)) (mName 4) (tstM (eOp niF (eVar 4) (eVar 3))) (eVar 4) [4]))))
def m_fresh_of : List D → Option D := runB 5 f_fresh_of
theorem sc_fresh_of : FnScope ["pairs", "memory", "row", "late", "pair"] ["pairs", "memory", "row"] (defScope (top 25)) := ⟨rfl, rfl, rfl, by decide +kernel, rfl, by decide +kernel, by decide +kernel⟩
theorem ok_fresh_of {f : Addr} {fd : FuncData} (F : FunD K "fresh_of" "fresh_of" (defArgs (top 25)) (defBody (top 25)) (defScope (top 25)) [] [] f fd) (g : mg "fresh_of" = some (.ref f)) (B : Bi mg) (I : Gi mg) (h_late_pairs : Has P w K mg base 2 "late_pairs" 2 m_late_pairs) : Has P w K mg base 3 "fresh_of" 3 m_fresh_of :=
  has_mk F (fn_ok (k := 2) ["pairs", "memory", "row", "late", "pair"] f_fresh_of 3 F sc_fresh_of rfl fun cdv A outer s H E hr => ⟨_, (dss_cons (ds_set 3 sc_fresh_of.nd (de_has h_late_pairs hr (by rfl) (da_cons (dv 1) (da_cons (dv 2) da_nil)) (al_cons (al_cons al_nil))))
  (dss_one (ds_ret (DL.de (dl_lc (own := [("pair", 4)]) (is := [4]) (g := (gName 4)) (tt := (tTest (tOp (rNI K) (tVar 4) (tVar 3)))) (te := (tVar 4)) rfl sc_fresh_of.nd (di_tup (dv 0)) (blkOk_by (by kernel_rfl)) (by decide) (fun _ _ _ _ _ => (dg_name 4 sc_fresh_of.nd)) (fun _ _ _ _ _ => (dts_one (dt_cmp (op_NI hr) opd_ni (dv 4) (dv 3)))) (fun _ _ _ _ _ => (dv 4)))))))⟩) g (F.bindsN fun _ _ _ _ _ _ us hl => match us, hl with | [_, _, _], _ => rfl)
/-! wants_of -/
def f_wants_of : SM := (sRet (eOp subF (eOp addF (eVar 0) (eC (.int 1))) (eCB lenF (aCons (eCB m_late_of (aCons (eVar 0) (aCons (eVar 1) aNil))) aNil))))
def m_wants_of : List D → Option D := runB 2 f_wants_of
theorem sc_wants_of : FnScope ["memory", "row"] ["memory", "row"] (defScope (top 26)) := ⟨rfl, rfl, rfl, by decide +kernel, rfl, by decide +kernel, by decide +kernel⟩
theorem ok_wants_of {f : Addr} {fd : FuncData} (F : FunD K "wants_of" "wants_of" (defArgs (top 26)) (defBody (top 26)) (defScope (top 26)) [] [] f fd) (g : mg "wants_of" = some (.ref f)) (B : Bi mg) (I : Gi mg) (h_late_of : Has P w K mg base 1 "late_of" 2 m_late_of) : Has P w K mg base 2 "wants_of" 2 m_wants_of :=
  has_mk F (fn_ok (k := 1) ["memory", "row"] f_wants_of 2 F sc_wants_of rfl fun cdv A outer s H E hr => ⟨_, (dss_one (ds_ret (de_op op_sub opd_sub (de_op op_ADD opd_add (dv 0) de_int) (de_cb call_len_seq cd_len (by rfl) B.b_len (by rfl) (da_cons (de_has h_late_of hr (by rfl) (da_cons (dv 0) (da_cons (dv 1) da_nil)) (al_cons (al_cons al_nil))) da_nil)))))⟩) g (F.bindsN fun _ _ _ _ _ _ us hl => match us, hl with | [_, _], _ => rfl)
/-! way_on -/
def f_way_on : SM := (sSeq (sSetC 5 (cOne (eTup (aCons (eC (.str "l")) (aCons (eVar 4) aNil))) (eC .non)))
  (sSeq (sSetL 6 (lLst (aCons (eTup (aCons (eC (.str "l")) (aCons (eVar 4) aNil))) aNil)))
  (sSeq (sSet 7 (eC (.int 0)))
  (sSeq (sWhile 100000 (mBor [6] (tstM (eOp ltF (eVar 7) (eCB lenF (aCons (eVar 6) aNil))))) (sSeq (sAsg (eBor [6] (eOp ixF (eVar 6) (eVar 7))) (mTup 2 (mCons (mName 8) (mCons (mName 9) mNil))))
  (sSeq (sFor (iL (eVar 0)) (mTup 2 (mCons (mName 10) (mCons (mName 11) mNil))) (sSeq (sSet 12 (eC .non))
  (sSeq (sIf (mAnd (tstM (eOp eqF (eVar 8) (eC (.str "l")))) (mAnd (tstM (eOp eqF (eVar 10) (eVar 9))) (tstM (eOp dniF (eTup (aCons (eVar 10) (aCons (eVar 11) aNil))) (eVar 1))))) (sSet 12 (eTup (aCons (eC (.str "f")) (aCons (eVar 11) aNil)))) sNil)
  (sSeq (sIf (mAnd (tstM (eOp eqF (eVar 8) (eC (.str "f")))) (mAnd (tstM (eOp eqF (eVar 11) (eVar 9))) (tstM (eOp dinF (eTup (aCons (eVar 10) (aCons (eVar 11) aNil))) (eVar 1))))) (sSet 12 (eTup (aCons (eC (.str "l")) (aCons (eVar 10) aNil)))) sNil)
  (sIf (mAnd (tstM (eOp notNF (eVar 12) (eC .non))) (mBor [5] (tstM (eOp dniF (eVar 12) (eVar 5))))) (sSeq (sPutD 5 (eBor [6] (eOp ixF (eVar 6) (eVar 7))) (eVar 12))
  (sSeq (sExpr (eApp 6 (eVar 12)))
  (sIf (mAnd (tstM (eOp eqF (eOp ixF (eVar 12) (eC (.int 0))) (eC (.str "f")))) (tstM (eOp (ltI fun i j => decide (j < i)) (eOp ixF (eVar 3) (eOp ixF (eVar 12) (eC (.int 1)))) (eC (.int 0))))) (sRet (eTup (aCons (eVar 12) (aCons (eFrz 5) aNil)))) sNil))) sNil)))))
  (sAug 7 addI (eC (.int 1))))))
  (sRet (eTup (aCons (eC .non) (aCons (eFrz 5) aNil))))))))
def m_way_on : List D → Option D := runB 13 f_way_on
theorem sc_way_on : FnScope ["pairs", "used", "left", "right", "start", "came", "line", "at", "side", "here", "one", "other", "there"] ["pairs", "used", "left", "right", "start"] (defScope (top 28)) := ⟨rfl, rfl, rfl, by decide +kernel, rfl, by decide +kernel, by decide +kernel⟩
theorem ok_way_on {f : Addr} {fd : FuncData} (F : FunD K "way_on" "way_on" (defArgs (top 28)) (defBody (top 28)) (defScope (top 28)) [] [] f fd) (g : mg "way_on" = some (.ref f)) (B : Bi mg) (I : Gi mg)  : Has P w K mg base 1 "way_on" 5 m_way_on :=
  has_mk F (fn_ok (k := 0) ["pairs", "used", "left", "right", "start", "came", "line", "at", "side", "here", "one", "other", "there"] f_way_on 5 F sc_way_on rfl fun cdv A outer s H E hr => ⟨_, (dss_cons (ds_setC 5 sc_way_on.nd (dc_one (ru0 hr) (de_tup (da_cons de_str (da_cons (dv 4) da_nil))) de_non))
  (dss_cons (ds_setL 6 sc_way_on.nd (dl_lst (da_cons (de_tup (da_cons de_str (da_cons (dv 4) da_nil))) da_nil)))
  (dss_cons (ds_set 7 sc_way_on.nd de_int)
  (dss_cons (ds_while 100000 .never (dt_bor [6] (dt_cmp (op_LT hr) opd_lt (dv 7) (de_cb call_len_seq cd_len (by rfl) B.b_len (by rfl) (da_cons (dv 6) da_nil)))) (dss_cons (ds_asg (de_bor [6] (de_ix (dv 6) (dv 7))) (dg_tup rfl (dgs_cons (dg_name 8 sc_way_on.nd) (dgs_cons (dg_name 9 sc_way_on.nd) dgs_nil))))
  (dss_cons (ds_for .never rfl (di_list (dv 0)) (dg_tup rfl (dgs_cons (dg_name 10 sc_way_on.nd) (dgs_cons (dg_name 11 sc_way_on.nd) dgs_nil))) (dss_cons (ds_set 12 sc_way_on.nd de_non)
  (dss_cons (ds_if (DW.dt (dw_and (dt_cmp (op_eqD (ru64 hr)) opd_eq (dv 8) de_str) (dw_and (dt_cmp (op_eqD (ru64 hr)) opd_eq (dv 10) (dv 9)) (dw_and1 (dt_dni (ru1 hr) (de_tup (da_cons (dv 10) (da_cons (dv 11) da_nil))) (dv 1)))))) (dss_one (ds_set 12 sc_way_on.nd (de_tup (da_cons de_str (da_cons (dv 11) da_nil))))) dss_nil)
  (dss_cons (ds_if (DW.dt (dw_and (dt_cmp (op_eqD (ru64 hr)) opd_eq (dv 8) de_str) (dw_and (dt_cmp (op_eqD (ru64 hr)) opd_eq (dv 11) (dv 9)) (dw_and1 (dt_din (ru1 hr) (de_tup (da_cons (dv 10) (da_cons (dv 11) da_nil))) (dv 1)))))) (dss_one (ds_set 12 sc_way_on.nd (de_tup (da_cons de_str (da_cons (dv 10) da_nil))))) dss_nil)
  (dss_one (ds_if (DW.dt (dw_and (dt_cmp op_notN opd_notN (dv 12) de_non) (dw_and1 (dt_bor [5] (dt_dni (ru1 hr) (dv 12) (dv 5)))))) (dss_cons (ds_putD 5 (ru1 hr) (de_bor [6] (de_ix (dv 6) (dv 7))) (dv 12))
  (dss_cons (ds_expr (de_app 6 (dv 12)))
  (dss_one (ds_if (DW.dt (dw_and (dt_cmp (op_eqD (ru64 hr)) opd_eq (de_ix (dv 12) de_int) de_str) (dw_and1 (dt_cmp op_gt opd_ltI (de_ix (dv 3) (de_ix (dv 12) de_int)) de_int)))) (dss_one (ds_ret (de_tup (da_cons (dv 12) (da_cons (dfz 5) da_nil))))) dss_nil)))) dss_nil))))))
  (dss_one (ds_aug 7 sc_way_on.nd ip_add opd_addI de_int)))))
  (dss_one (ds_ret (de_tup (da_cons de_non (da_cons (dfz 5) da_nil)))))))))⟩) g (F.bindsN fun _ _ _ _ _ _ us hl => match us, hl with | [_, _, _, _, _], _ => rfl)
/-! turned -/
def f_turned : SM := (sSeq (sSetC 3 (cDictOf (eVar 0)))
  (sSeq (sSet 4 (eVar 1))
  (sSeq (sWhile 100000 (tstM (eOp notNF (eOp dgF (eVar 2) (eVar 4)) (eC .non))) (sSeq (sSet 5 (eOp dgF (eVar 2) (eVar 4)))
  (sSeq (sIf (tstM (eOp eqF (eOp ixF (eVar 4) (eC (.int 0))) (eC (.str "f")))) (sPutD 3 (eC (.bl true)) (eTup (aCons (eOp ixF (eVar 5) (eC (.int 1))) (aCons (eOp ixF (eVar 4) (eC (.int 1))) aNil)))) (sExpr (ePopK 3 (eTup (aCons (eOp ixF (eVar 4) (eC (.int 1))) (aCons (eOp ixF (eVar 5) (eC (.int 1))) aNil))))))
  (sSet 4 (eVar 5)))))
  (sRet (eFrz 3)))))
def m_turned : List D → Option D := runB 6 f_turned
theorem sc_turned : FnScope ["used", "end", "came", "found", "here", "ahead"] ["used", "end", "came"] (defScope (top 29)) := ⟨rfl, rfl, rfl, by decide +kernel, rfl, by decide +kernel, by decide +kernel⟩
theorem ok_turned {f : Addr} {fd : FuncData} (F : FunD K "turned" "turned" (defArgs (top 29)) (defBody (top 29)) (defScope (top 29)) [] [] f fd) (g : mg "turned" = some (.ref f)) (B : Bi mg) (I : Gi mg)  : Has P w K mg base 1 "turned" 3 m_turned :=
  has_mk F (fn_ok (k := 0) ["used", "end", "came", "found", "here", "ahead"] f_turned 3 F sc_turned rfl fun cdv A outer s H E hr => ⟨_, (dss_cons (ds_setC 3 sc_turned.nd (dc_dict (ru2 hr) (by rfl) B.b_dict (dv 0)))
  (dss_cons (ds_set 4 sc_turned.nd (dv 1))
  (dss_cons (ds_while 100000 .never (dt_cmp op_notN opd_notN (de_dget (ru1 hr) (dv 2) (dv 4)) de_non) (dss_cons (ds_set 5 sc_turned.nd (de_dget (ru1 hr) (dv 2) (dv 4)))
  (dss_cons (ds_if (dt_cmp (op_eqD (ru64 hr)) opd_eq (de_ix (dv 4) de_int) de_str) (dss_one (ds_putD 3 (ru1 hr) de_bl (de_tup (da_cons (de_ix (dv 5) de_int) (da_cons (de_ix (dv 4) de_int) da_nil))))) (dss_one (ds_expr (de_popK 3 (ru1 hr) (de_tup (da_cons (de_ix (dv 4) de_int) (da_cons (de_ix (dv 5) de_int) da_nil)))))))
  (dss_one (ds_set 4 sc_turned.nd (dv 5))))))
  (dss_one (ds_ret (dfz 3))))))⟩) g (F.bindsN fun _ _ _ _ _ _ us hl => match us, hl with | [_, _, _], _ => rfl)
/-! filled -/
def f_filled : SM := (sSeq (sPar 3 4 (cL (lCB listF (aCons (eVar 1) aNil))) (cL (lCB listF (aCons (eVar 2) aNil))))
  (sSeq (sSet 5 (eK cEmp))
  (sSeq (sFor (iR1 (eBor [3] (eCB lenF (aCons (eVar 3) aNil)))) (mName 6) (sWhile 100000 (mBor [3] (tstM (eOp (ltI fun i j => decide (j < i)) (eOp ixF (eVar 3) (eVar 6)) (eC (.int 0))))) (sSeq (sAsg (eBor [3, 4] (eCB m_way_on (aCons (eVar 0) (aCons (eVar 5) (aCons (eVar 3) (aCons (eVar 4) (aCons (eVar 6) aNil))))))) (mTup 2 (mCons (mName 7) (mCons (mName 8) mNil))))
  (sSeq (sIf (tstM (eOp isNF (eVar 7) (eC .non))) (sSeq (sSet 9 (eCB tupF (aCons (eL (lCB sortLIF (aCons (eL (lLCK 8 (mTup 2 (mCons (mName 10) (mCons (mName 11) mNil))) (tstM (eOp eqF (eVar 10) (eC (.str "l")))) (eVar 11) [10, 11])) aNil))) aNil)))
  (sRet (eTup (aCons (eC .non) (aCons (eTup (aCons (eVar 9) (aCons (eCB tupF (aCons (eL (lCB sortLIF (aCons (eL (lLCK 8 (mTup 2 (mCons (mName 10) (mCons (mName 11) mNil))) (tstM (eOp eqF (eVar 10) (eC (.str "f")))) (eVar 11) [10, 11])) aNil))) aNil)) aNil))) aNil))))) sNil)
  (sSeq (sSet 5 (eCB m_turned (aCons (eVar 5) (aCons (eVar 7) (aCons (eVar 8) aNil)))))
  (sSeq (sAugL 3 (fun i j => i - j) (eVar 6) (eC (.int 1)))
  (sAugL 4 (fun i j => i - j) (eOp ixF (eVar 7) (eC (.int 1))) (eC (.int 1)))))))))
  (sRet (eTup (aCons (eL (lCB sortKF (aCons (eVar 5) aNil))) (aCons (eC .non) aNil)))))))
def m_filled : List D → Option D := runB 12 f_filled
theorem sc_filled : FnScope ["pairs", "lacks_left", "lacks_right", "left", "right", "used", "leader", "end", "came", "leaders", "side", "here"] ["pairs", "lacks_left", "lacks_right"] (defScope (top 30)) := ⟨rfl, rfl, rfl, by decide +kernel, rfl, by decide +kernel, by decide +kernel⟩
theorem ok_filled {f : Addr} {fd : FuncData} (F : FunD K "filled" "filled" (defArgs (top 30)) (defBody (top 30)) (defScope (top 30)) [] [] f fd) (g : mg "filled" = some (.ref f)) (B : Bi mg) (I : Gi mg) (h_way_on : Has P w K mg base 1 "way_on" 5 m_way_on) (h_turned : Has P w K mg base 1 "turned" 3 m_turned) : Has P w K mg base 2 "filled" 3 m_filled :=
  has_mk F (fn_ok (k := 1) ["pairs", "lacks_left", "lacks_right", "left", "right", "used", "leader", "end", "came", "leaders", "side", "here"] f_filled 3 F sc_filled rfl fun cdv A outer s H E hr => ⟨_, (dss_cons (ds_par 3 4 rfl sc_filled.nd (DL.dm (dl_cty call_list_of cl_list (by rfl) B.b_list (by rfl) (da_cons (dv 1) da_nil))) (DL.dm (dl_cty call_list_of cl_list (by rfl) B.b_list (by rfl) (da_cons (dv 2) da_nil))))
  (dss_cons (ds_set 5 sc_filled.nd (DC.de dc_emp))
  (dss_cons (ds_for .never rfl (di_range1 (by rfl) B.b_range (de_bor [3] (de_cb call_len_seq cd_len (by rfl) B.b_len (by rfl) (da_cons (dv 3) da_nil)))) (dg_name 6 sc_filled.nd) (dss_one (ds_while 100000 .never (dt_bor [3] (dt_cmp op_gt opd_ltI (de_ix (dv 3) (dv 6)) de_int)) (dss_cons (ds_asg (de_bor [3, 4] (de_has h_way_on hr (by rfl) (da_cons (dv 0) (da_cons (dv 5) (da_cons (dv 3) (da_cons (dv 4) (da_cons (dv 6) da_nil))))) (al_cons (al_cons (al_cons (al_cons (al_cons al_nil))))))) (dg_tup rfl (dgs_cons (dg_name 7 sc_filled.nd) (dgs_cons (dg_name 8 sc_filled.nd) dgs_nil))))
  (dss_cons (ds_if (dt_cmp op_isN opd_isN (dv 7) de_non) (dss_cons (ds_set 9 sc_filled.nd (de_cty call_tuple_of cd_tup (by rfl) B.b_tuple (by rfl) (da_cons (DL.de (dl_cx cr_sortedI cx_sortLI (by rfl) B.b_sorted (by rfl) (da_cons (DL.de (dl_lcK (own := [("side", 10), ("here", 11)]) (is := [10, 11]) (g := (gTup K 2 (gCons (gName 10) (gCons (gName 11) gNil)))) (tt := (tTest (tOp (rEqD K) (tVar 10) (tC (.str "l"))))) (te := (tVar 11)) 8 rfl sc_filled.nd (blkOk_by (by kernel_rfl)) (by decide) (fun _ _ _ _ _ => (dg_tup rfl (dgs_cons (dg_name 10 sc_filled.nd) (dgs_cons (dg_name 11 sc_filled.nd) dgs_nil)))) (fun _ _ _ _ _ => (dts_one (dt_cmp (op_eqD (ru64 hr)) opd_eq (dv 10) de_str))) (fun _ _ _ _ _ => (dv 11)))) da_nil))) da_nil)))
  (dss_one (ds_ret (de_tup (da_cons de_non (da_cons (de_tup (da_cons (dv 9) (da_cons (de_cty call_tuple_of cd_tup (by rfl) B.b_tuple (by rfl) (da_cons (DL.de (dl_cx cr_sortedI cx_sortLI (by rfl) B.b_sorted (by rfl) (da_cons (DL.de (dl_lcK (own := [("side", 10), ("here", 11)]) (is := [10, 11]) (g := (gTup K 2 (gCons (gName 10) (gCons (gName 11) gNil)))) (tt := (tTest (tOp (rEqD K) (tVar 10) (tC (.str "f"))))) (te := (tVar 11)) 8 rfl sc_filled.nd (blkOk_by (by kernel_rfl)) (by decide) (fun _ _ _ _ _ => (dg_tup rfl (dgs_cons (dg_name 10 sc_filled.nd) (dgs_cons (dg_name 11 sc_filled.nd) dgs_nil)))) (fun _ _ _ _ _ => (dts_one (dt_cmp (op_eqD (ru64 hr)) opd_eq (dv 10) de_str))) (fun _ _ _ _ _ => (dv 11)))) da_nil))) da_nil)) da_nil))) da_nil)))))) dss_nil)
  (dss_cons (ds_set 5 sc_filled.nd (de_has h_turned hr (by rfl) (da_cons (dv 5) (da_cons (dv 7) (da_cons (dv 8) da_nil))) (al_cons (al_cons (al_cons al_nil)))))
  (dss_cons (ds_augL 3 ip_sub (dv 6) de_int)
  (dss_one (ds_augL 4 ip_sub (de_ix (dv 7) de_int) de_int)))))))))
  (dss_one (ds_ret (de_tup (da_cons (DL.de (dl_cx (VL.cr_sortDT rfl) cx_sortK (by rfl) B.b_sorted (by rfl) (da_cons (dv 5) da_nil))) (da_cons de_non da_nil))))))))⟩) g (F.bindsN fun _ _ _ _ _ _ us hl => match us, hl with | [_, _, _], _ => rfl)
/-! part -/
def f_part : SM := (sRet (eOp ixF (eCB m_filled (aCons (eVar 1) (aCons (eOp mulF (eL (lLst (aCons (eVar 2) aNil))) (eVar 0)) (aCons (eOp mulF (eL (lLst (aCons (eVar 2) aNil))) (eVar 0)) aNil)))) (eC (.int 0))))
def m_part : List D → Option D := runB 3 f_part
theorem sc_part : FnScope ["size", "pairs", "many"] ["size", "pairs", "many"] (defScope (top 31)) := ⟨rfl, rfl, rfl, by decide +kernel, rfl, by decide +kernel, by decide +kernel⟩
theorem ok_part {f : Addr} {fd : FuncData} (F : FunD K "part" "part" (defArgs (top 31)) (defBody (top 31)) (defScope (top 31)) [] [] f fd) (g : mg "part" = some (.ref f)) (B : Bi mg) (I : Gi mg) (h_filled : Has P w K mg base 2 "filled" 3 m_filled) : Has P w K mg base 3 "part" 3 m_part :=
  has_mk F (fn_ok (k := 2) ["size", "pairs", "many"] f_part 3 F sc_part rfl fun cdv A outer s H E hr => ⟨_, (dss_one (ds_ret (de_ix (de_has h_filled hr (by rfl) (da_cons (dv 1) (da_cons (de_op op_MUL opd_mul (DL.de (dl_lst (da_cons (dv 2) da_nil))) (dv 0)) (da_cons (de_op op_MUL opd_mul (DL.de (dl_lst (da_cons (dv 2) da_nil))) (dv 0)) da_nil))) (al_cons (al_cons (al_cons al_nil)))) de_int)))⟩) g (F.bindsN fun _ _ _ _ _ _ us hl => match us, hl with | [_, _, _], _ => rfl)
/-! parted -/
def f_parted : SM := (sSeq (sSet 3 (eL (lCB listF (aCons (eVar 1) aNil))))
  (sSeq (sSetL 4 (lLst aNil))
  (sSeq (sFor (iR1 (eVar 2)) (mName 5) (sSeq (sSet 6 (eCB m_part (aCons (eVar 0) (aCons (eVar 3) (aCons (eC (.int 1)) aNil)))))
  (sSeq (sExpr (eApp 4 (eCB tupF (aCons (eL (lLC (iL (eVar 6)) (mTup 2 (mCons (mName 8) (mCons (mName 9) mNil))) mYes (eVar 9) [8, 9])) aNil))))
  (sSet 3 (eL (lLC (iL (eVar 3)) (mName 7) (tstM (eOp niF (eVar 7) (eVar 6))) (eVar 7) [7]))))))
  (sRet (eFrz 4)))))
def m_parted : List D → Option D := runB 10 f_parted
theorem sc_parted : FnScope ["size", "pairs", "many", "left", "found", "turn", "one", "pair", "leader", "follower"] ["size", "pairs", "many"] (defScope (top 32)) := ⟨rfl, rfl, rfl, by decide +kernel, rfl, by decide +kernel, by decide +kernel⟩
theorem ok_parted {f : Addr} {fd : FuncData} (F : FunD K "parted" "parted" (defArgs (top 32)) (defBody (top 32)) (defScope (top 32)) [] [] f fd) (g : mg "parted" = some (.ref f)) (B : Bi mg) (I : Gi mg) (h_part : Has P w K mg base 3 "part" 3 m_part) : Has P w K mg base 4 "parted" 3 m_parted :=
  has_mk F (fn_ok (k := 3) ["size", "pairs", "many", "left", "found", "turn", "one", "pair", "leader", "follower"] f_parted 3 F sc_parted rfl fun cdv A outer s H E hr => ⟨_, (dss_cons (ds_set 3 sc_parted.nd (DL.de (dl_cty call_list_of cl_list (by rfl) B.b_list (by rfl) (da_cons (dv 1) da_nil))))
  (dss_cons (ds_setL 4 sc_parted.nd (dl_lst da_nil))
  (dss_cons (ds_for .never rfl (di_range1 (by rfl) B.b_range (dv 2)) (dg_name 5 sc_parted.nd) (dss_cons (ds_set 6 sc_parted.nd (de_has h_part hr (by rfl) (da_cons (dv 0) (da_cons (dv 3) (da_cons de_int da_nil))) (al_cons (al_cons (al_cons al_nil)))))
  (dss_cons (ds_expr (de_app 4 (de_cty call_tuple_of cd_tup (by rfl) B.b_tuple (by rfl) (da_cons (DL.de (dl_lc (own := [("leader", 8), ("follower", 9)]) (is := [8, 9]) (g := (gTup K 2 (gCons (gName 8) (gCons (gName 9) gNil)))) (tt := tYes) (te := (tVar 9)) rfl sc_parted.nd (di_list (dv 6)) (blkOk_by (by kernel_rfl)) (by decide) (fun _ _ _ _ _ => (dg_tup rfl (dgs_cons (dg_name 8 sc_parted.nd) (dgs_cons (dg_name 9 sc_parted.nd) dgs_nil)))) (fun _ _ _ _ _ => dts_nil) (fun _ _ _ _ _ => (dv 9)))) da_nil))))
  (dss_one (ds_setLc (own := [("pair", 7)]) (is := [7]) (g := (gName 7)) (tt := (tTest (tOp (rNI K) (tVar 7) (tVar 6)))) (te := (tVar 7)) 3 rfl sc_parted.nd (di_list (dv 3)) (blkOk_by (by kernel_rfl)) (by decide) (fun _ _ _ _ _ => (dg_name 7 sc_parted.nd)) (fun _ _ _ _ _ => (dts_one (dt_cmp (op_NI hr) opd_ni (dv 7) (dv 6)))) (fun _ _ _ _ _ => (dv 7)))))))
  (dss_one (ds_ret (dfz 4))))))⟩) g (F.bindsN fun _ _ _ _ _ _ us hl => match us, hl with | [_, _, _], _ => rfl)
/-! greatest -/
def f_greatest : SM := (sSeq (sSet 3 (eC (.int 0)))
  (sSeq (sWhile 100000 (mAnd (tstM (eOp ltF (eVar 3) (eVar 2))) (tstM (eOp notNF (eCB m_part (aCons (eVar 0) (aCons (eVar 1) (aCons (eOp addF (eVar 3) (eC (.int 1))) aNil)))) (eC .non)))) (sAug 3 addI (eC (.int 1))))
  (sRet (eVar 3))))
def m_greatest : List D → Option D := runB 4 f_greatest
theorem sc_greatest : FnScope ["size", "pairs", "most", "found"] ["size", "pairs", "most"] (defScope (top 33)) := ⟨rfl, rfl, rfl, by decide +kernel, rfl, by decide +kernel, by decide +kernel⟩
theorem ok_greatest {f : Addr} {fd : FuncData} (F : FunD K "greatest" "greatest" (defArgs (top 33)) (defBody (top 33)) (defScope (top 33)) [] [] f fd) (g : mg "greatest" = some (.ref f)) (B : Bi mg) (I : Gi mg) (h_part : Has P w K mg base 3 "part" 3 m_part) : Has P w K mg base 4 "greatest" 3 m_greatest :=
  has_mk F (fn_ok (k := 3) ["size", "pairs", "most", "found"] f_greatest 3 F sc_greatest rfl fun cdv A outer s H E hr => ⟨_, (dss_cons (ds_set 3 sc_greatest.nd de_int)
  (dss_cons (ds_while 100000 .never (DW.dt (dw_and (dt_cmp (op_LT hr) opd_lt (dv 3) (dv 2)) (dw_and1 (dt_cmp op_notN opd_notN (de_has h_part hr (by rfl) (da_cons (dv 0) (da_cons (dv 1) (da_cons (de_op op_ADD opd_add (dv 3) de_int) da_nil))) (al_cons (al_cons (al_cons al_nil)))) de_non)))) (dss_one (ds_aug 3 sc_greatest.nd ip_add opd_addI de_int)))
  (dss_one (ds_ret (dv 3)))))⟩) g (F.bindsN fun _ _ _ _ _ _ us hl => match us, hl with | [_, _, _], _ => rfl)
/-! lasting -/
def f_lasting : SM := (sRet (eOp notNF (eCB m_part (aCons (eOp ixF (eVar 0) (eC (.int 0))) (aCons (eCB m_fresh_of (aCons (eOp ixF (eVar 0) (eC (.int 1))) (aCons (eVar 1) (aCons (eVar 2) aNil)))) (aCons (eCB m_wants_of (aCons (eVar 1) (aCons (eVar 2) aNil))) aNil)))) (eC .non)))
def m_lasting : List D → Option D := runB 3 f_lasting
theorem sc_lasting : FnScope ["floor", "memory", "row"] ["floor", "memory", "row"] (defScope (top 35)) := ⟨rfl, rfl, rfl, by decide +kernel, rfl, by decide +kernel, by decide +kernel⟩
theorem ok_lasting {f : Addr} {fd : FuncData} (F : FunD K "lasting" "lasting" (defArgs (top 35)) (defBody (top 35)) (defScope (top 35)) [] [] f fd) (g : mg "lasting" = some (.ref f)) (B : Bi mg) (I : Gi mg) (h_fresh_of : Has P w K mg base 3 "fresh_of" 3 m_fresh_of) (h_wants_of : Has P w K mg base 2 "wants_of" 2 m_wants_of) (h_part : Has P w K mg base 3 "part" 3 m_part) : Has P w K mg base 4 "lasting" 3 m_lasting :=
  has_mk F (fn_ok (k := 3) ["floor", "memory", "row"] f_lasting 3 F sc_lasting rfl fun cdv A outer s H E hr => ⟨_, (dss_one (ds_ret (de_cmp op_notN opd_notN (de_has h_part hr (by rfl) (da_cons (de_ix (dv 0) de_int) (da_cons (de_has h_fresh_of hr (by rfl) (da_cons (de_ix (dv 0) de_int) (da_cons (dv 1) (da_cons (dv 2) da_nil))) (al_cons (al_cons (al_cons al_nil)))) (da_cons (de_has h_wants_of hr (by rfl) (da_cons (dv 1) (da_cons (dv 2) da_nil)) (al_cons (al_cons al_nil))) da_nil))) (al_cons (al_cons (al_cons al_nil)))) de_non)))⟩) g (F.bindsN fun _ _ _ _ _ _ us hl => match us, hl with | [_, _, _], _ => rfl)
/-! lasts -/
def f_lasts : SM := (sSeq (sExpr (eCB m_need_row (aCons (eVar 0) (aCons (eVar 1) (aCons (eVar 2) aNil)))))
  (sRet (eCB m_lasting (aCons (eVar 0) (aCons (eVar 1) (aCons (eVar 2) aNil))))))
def m_lasts : List D → Option D := runB 3 f_lasts
theorem sc_lasts : FnScope ["floor", "memory", "row"] ["floor", "memory", "row"] (defScope (top 36)) := ⟨rfl, rfl, rfl, by decide +kernel, rfl, by decide +kernel, by decide +kernel⟩
theorem ok_lasts {f : Addr} {fd : FuncData} (F : FunD K "lasts" "lasts" (defArgs (top 36)) (defBody (top 36)) (defScope (top 36)) [] [] f fd) (g : mg "lasts" = some (.ref f)) (B : Bi mg) (I : Gi mg) (h_need_row : Has P w K mg base 5 "need_row" 3 m_need_row) (h_lasting : Has P w K mg base 4 "lasting" 3 m_lasting) : Has P w K mg base 6 "lasts" 3 m_lasts :=
  has_mk F (fn_ok (k := 5) ["floor", "memory", "row"] f_lasts 3 F sc_lasts rfl fun cdv A outer s H E hr => ⟨_, (dss_cons (ds_expr (de_has h_need_row hr (by rfl) (da_cons (dv 0) (da_cons (dv 1) (da_cons (dv 2) da_nil))) (al_cons (al_cons (al_cons al_nil)))))
  (dss_one (ds_ret (de_has h_lasting hr (by rfl) (da_cons (dv 0) (da_cons (dv 1) (da_cons (dv 2) da_nil))) (al_cons (al_cons (al_cons al_nil)))))))⟩) g (F.bindsN fun _ _ _ _ _ _ us hl => match us, hl with | [_, _, _], _ => rfl)
/-! more_on -/
def f_more_on : SM := (sSeq (sSet 3 (eCB m_wants_of (aCons (eVar 1) (aCons (eVar 2) aNil))))
  (sSeq (sSet 4 (eCB m_greatest (aCons (eOp ixF (eVar 0) (eC (.int 0))) (aCons (eCB m_fresh_of (aCons (eOp ixF (eVar 0) (eC (.int 1))) (aCons (eVar 1) (aCons (eVar 2) aNil)))) (aCons (eVar 3) aNil)))))
  (sRet (eIf (tstM (eOp ltF (eVar 4) (eVar 3))) (eVar 4) (eC .non)))))
def m_more_on : List D → Option D := runB 5 f_more_on
theorem sc_more_on : FnScope ["floor", "memory", "row", "many", "found"] ["floor", "memory", "row"] (defScope (top 37)) := ⟨rfl, rfl, rfl, by decide +kernel, rfl, by decide +kernel, by decide +kernel⟩
theorem ok_more_on {f : Addr} {fd : FuncData} (F : FunD K "more_on" "more_on" (defArgs (top 37)) (defBody (top 37)) (defScope (top 37)) [] [] f fd) (g : mg "more_on" = some (.ref f)) (B : Bi mg) (I : Gi mg) (h_fresh_of : Has P w K mg base 3 "fresh_of" 3 m_fresh_of) (h_wants_of : Has P w K mg base 2 "wants_of" 2 m_wants_of) (h_greatest : Has P w K mg base 4 "greatest" 3 m_greatest) : Has P w K mg base 5 "more_on" 3 m_more_on :=
  has_mk F (fn_ok (k := 4) ["floor", "memory", "row", "many", "found"] f_more_on 3 F sc_more_on rfl fun cdv A outer s H E hr => ⟨_, (dss_cons (ds_set 3 sc_more_on.nd (de_has h_wants_of hr (by rfl) (da_cons (dv 1) (da_cons (dv 2) da_nil)) (al_cons (al_cons al_nil))))
  (dss_cons (ds_set 4 sc_more_on.nd (de_has h_greatest hr (by rfl) (da_cons (de_ix (dv 0) de_int) (da_cons (de_has h_fresh_of hr (by rfl) (da_cons (de_ix (dv 0) de_int) (da_cons (dv 1) (da_cons (dv 2) da_nil))) (al_cons (al_cons (al_cons al_nil)))) (da_cons (dv 3) da_nil))) (al_cons (al_cons (al_cons al_nil)))))
  (dss_one (ds_ret (de_if (dt_cmp (op_LT hr) opd_lt (dv 4) (dv 3)) (dv 4) de_non)))))⟩) g (F.bindsN fun _ _ _ _ _ _ us hl => match us, hl with | [_, _, _], _ => rfl)
/-! most_on -/
def f_most_on : SM := (sSeq (sExpr (eCB m_need_row (aCons (eVar 0) (aCons (eVar 1) (aCons (eVar 2) aNil)))))
  (sRet (eCB m_more_on (aCons (eVar 0) (aCons (eVar 1) (aCons (eVar 2) aNil))))))
def m_most_on : List D → Option D := runB 3 f_most_on
theorem sc_most_on : FnScope ["floor", "memory", "row"] ["floor", "memory", "row"] (defScope (top 38)) := ⟨rfl, rfl, rfl, by decide +kernel, rfl, by decide +kernel, by decide +kernel⟩
theorem ok_most_on {f : Addr} {fd : FuncData} (F : FunD K "most_on" "most_on" (defArgs (top 38)) (defBody (top 38)) (defScope (top 38)) [] [] f fd) (g : mg "most_on" = some (.ref f)) (B : Bi mg) (I : Gi mg) (h_need_row : Has P w K mg base 5 "need_row" 3 m_need_row) (h_more_on : Has P w K mg base 5 "more_on" 3 m_more_on) : Has P w K mg base 6 "most_on" 3 m_most_on :=
  has_mk F (fn_ok (k := 5) ["floor", "memory", "row"] f_most_on 3 F sc_most_on rfl fun cdv A outer s H E hr => ⟨_, (dss_cons (ds_expr (de_has h_need_row hr (by rfl) (da_cons (dv 0) (da_cons (dv 1) (da_cons (dv 2) da_nil))) (al_cons (al_cons (al_cons al_nil)))))
  (dss_one (ds_ret (de_has h_more_on hr (by rfl) (da_cons (dv 0) (da_cons (dv 1) (da_cons (dv 2) da_nil))) (al_cons (al_cons (al_cons al_nil)))))))⟩) g (F.bindsN fun _ _ _ _ _ _ us hl => match us, hl with | [_, _, _], _ => rfl)
/-! going_on -/
def f_going_on : SM := (sSeq (sExpr (eCB m_need_row (aCons (eVar 0) (aCons (eVar 1) (aCons (eVar 2) aNil)))))
  (sSeq (sPar 3 4 (cE (eCB m_wants_of (aCons (eVar 1) (aCons (eVar 2) aNil)))) (cE (eCB m_more_on (aCons (eVar 0) (aCons (eVar 1) (aCons (eVar 2) aNil))))))
  (sSeq (sSet 5 (eCB m_fresh_of (aCons (eOp ixF (eVar 0) (eC (.int 1))) (aCons (eVar 1) (aCons (eVar 2) aNil)))))
  (sSeq (sSet 6 (eIf (tstM (eOp isNF (eVar 4) (eC .non))) (eC (.str "round")) (eC (.str "end"))))
  (sSeq (sSet 3 (eIf (tstM (eOp isNF (eVar 4) (eC .non))) (eVar 3) (eVar 4)))
  (sRet (eTup (aCons (eVar 6) (aCons (eCB m_parted (aCons (eOp ixF (eVar 0) (eC (.int 0))) (aCons (eCB m_part (aCons (eOp ixF (eVar 0) (eC (.int 0))) (aCons (eVar 5) (aCons (eVar 3) aNil)))) (aCons (eVar 3) aNil)))) aNil)))))))))
def m_going_on : List D → Option D := runB 7 f_going_on
theorem sc_going_on : FnScope ["floor", "memory", "row", "many", "most", "pairs", "word"] ["floor", "memory", "row"] (defScope (top 39)) := ⟨rfl, rfl, rfl, by decide +kernel, rfl, by decide +kernel, by decide +kernel⟩
theorem ok_going_on {f : Addr} {fd : FuncData} (F : FunD K "going_on" "going_on" (defArgs (top 39)) (defBody (top 39)) (defScope (top 39)) [] [] f fd) (g : mg "going_on" = some (.ref f)) (B : Bi mg) (I : Gi mg) (h_need_row : Has P w K mg base 5 "need_row" 3 m_need_row) (h_fresh_of : Has P w K mg base 3 "fresh_of" 3 m_fresh_of) (h_wants_of : Has P w K mg base 2 "wants_of" 2 m_wants_of) (h_part : Has P w K mg base 3 "part" 3 m_part) (h_parted : Has P w K mg base 4 "parted" 3 m_parted) (h_more_on : Has P w K mg base 5 "more_on" 3 m_more_on) : Has P w K mg base 6 "going_on" 3 m_going_on :=
  has_mk F (fn_ok (k := 5) ["floor", "memory", "row", "many", "most", "pairs", "word"] f_going_on 3 F sc_going_on rfl fun cdv A outer s H E hr => ⟨_, (dss_cons (ds_expr (de_has h_need_row hr (by rfl) (da_cons (dv 0) (da_cons (dv 1) (da_cons (dv 2) da_nil))) (al_cons (al_cons (al_cons al_nil)))))
  (dss_cons (ds_par 3 4 rfl sc_going_on.nd (DE.dm (de_has h_wants_of hr (by rfl) (da_cons (dv 1) (da_cons (dv 2) da_nil)) (al_cons (al_cons al_nil)))) (DE.dm (de_has h_more_on hr (by rfl) (da_cons (dv 0) (da_cons (dv 1) (da_cons (dv 2) da_nil))) (al_cons (al_cons (al_cons al_nil))))))
  (dss_cons (ds_set 5 sc_going_on.nd (de_has h_fresh_of hr (by rfl) (da_cons (de_ix (dv 0) de_int) (da_cons (dv 1) (da_cons (dv 2) da_nil))) (al_cons (al_cons (al_cons al_nil)))))
  (dss_cons (ds_set 6 sc_going_on.nd (de_if (dt_cmp op_isN opd_isN (dv 4) de_non) de_str de_str))
  (dss_cons (ds_set 3 sc_going_on.nd (de_if (dt_cmp op_isN opd_isN (dv 4) de_non) (dv 3) (dv 4)))
  (dss_one (ds_ret (de_tup (da_cons (dv 6) (da_cons (de_has h_parted hr (by rfl) (da_cons (de_ix (dv 0) de_int) (da_cons (de_has h_part hr (by rfl) (da_cons (de_ix (dv 0) de_int) (da_cons (dv 5) (da_cons (dv 3) da_nil))) (al_cons (al_cons (al_cons al_nil)))) (da_cons (dv 3) da_nil))) (al_cons (al_cons (al_cons al_nil)))) da_nil))))))))))⟩) g (F.bindsN fun _ _ _ _ _ _ us hl => match us, hl with | [_, _, _], _ => rfl)
/-! are_folk -/
def f_are_folk : SM := (sRet (eAnd (eCB isiF (aCons (eVar 1) (aCons (eC (.opq (.ty "tuple"))) aNil))) (eAnd (eCB allF (aCons (eL (lLC (iT (eVar 1)) (mName 2) mYes (eCB m_is_from (aCons (eVar 2) (aCons (eC (.int 0)) (aCons (eOp subF (eVar 0) (eC (.int 1))) aNil)))) [2])) aNil)) (eCB m_is_rising (aCons (eVar 1) aNil)))))
def m_are_folk : List D → Option D := runB 3 f_are_folk
theorem sc_are_folk : FnScope ["size", "thing", "one"] ["size", "thing"] (defScope (top 41)) := ⟨rfl, rfl, rfl, by decide +kernel, rfl, by decide +kernel, by decide +kernel⟩
theorem ok_are_folk {f : Addr} {fd : FuncData} (F : FunD K "are_folk" "are_folk" (defArgs (top 41)) (defBody (top 41)) (defScope (top 41)) [] [] f fd) (g : mg "are_folk" = some (.ref f)) (B : Bi mg) (I : Gi mg) (h_is_from : Has P w K mg base 1 "is_from" 3 m_is_from) (h_is_rising : Has P w K mg base 1 "is_rising" 1 m_is_rising) : Has P w K mg base 2 "are_folk" 2 m_are_folk :=
  has_mk F (fn_ok (k := 1) ["size", "thing", "one"] f_are_folk 2 F sc_are_folk rfl fun cdv A outer s H E hr => ⟨_, (dss_one (ds_ret (de_and (de_cb call_isi cd_isi (by rfl) B.b_isinstance (by rfl) (da_cons (dv 1) (da_cons (de_ty (by rfl) B.b_tuple (by rfl)) da_nil))) (de_and (de_cb (cr_all rfl) cd_all (by rfl) B.b_all (by rfl) (da_cons (DL.de (dl_lc (own := [("one", 2)]) (is := [2]) (g := (gName 2)) (tt := tYes) (te := (tCall (spP 3 m_is_from) [] E0 (tCons (tVar 2) (tCons (tC (.int 0)) (tCons (tOp (rI0 fun i j => .int (i - j)) (tVar 0) (tC (.int 1))) tNil))))) rfl sc_are_folk.nd (di_tup (dv 1)) (blkOk_by (by kernel_rfl)) (by decide) (fun _ _ _ _ _ => (dg_name 2 sc_are_folk.nd)) (fun _ _ _ _ _ => dts_nil) (fun _ _ _ _ _ => (de_has h_is_from hr (by rfl) (da_cons (dv 2) (da_cons de_int (da_cons (de_op op_sub opd_sub (dv 0) de_int) da_nil))) (al_cons (al_cons (al_cons al_nil))))))) da_nil)) (de_one (de_has h_is_rising hr (by rfl) (da_cons (dv 1) da_nil) (al_cons al_nil)))))))⟩) g (F.bindsN fun _ _ _ _ _ _ us hl => match us, hl with | [_, _], _ => rfl)
/-! shows_end -/
def f_shows_end : SM := (sSeq (sExpr (eCB m_need_row (aCons (eVar 0) (aCons (eVar 1) (aCons (eVar 2) aNil)))))
  (sSeq (sIf (mOr (mNot (tstM (eCB isiF (aCons (eVar 3) (aCons (eC (.opq (.ty "int"))) aNil))))) (mOr (tstM (eCB isiF (aCons (eVar 3) (aCons (eC (.opq (.ty "bool"))) aNil)))) (tstM (eOp ltF (eVar 3) (eC (.int 1)))))) sStuck sNil)
  (sSeq (sIf (mOr (mNot (tstM (eCB isiF (aCons (eVar 4) (aCons (eC (.opq (.ty "tuple"))) aNil))))) (mOr (tstM (eOp neF (eCB lenF (aCons (eVar 4) aNil)) (eC (.int 2)))) (mNot (tstM (eCB allF (aCons (eL (lLC (iT (eVar 4)) (mName 10) mYes (eCB m_are_folk (aCons (eOp ixF (eVar 0) (eC (.int 0))) (aCons (eVar 10) aNil))) [10])) aNil)))))) (sRet (eC (.bl false))) sNil)
  (sSeq (sAsg (eVar 4) (mTup 2 (mCons (mName 5) (mCons (mName 6) mNil))))
  (sSeq (sSet 7 (eCB m_fresh_of (aCons (eOp ixF (eVar 0) (eC (.int 1))) (aCons (eVar 1) (aCons (eVar 2) aNil)))))
  (sSeq (sSet 8 (eL (lLC (iL (eVar 7)) (mName 9) (mAnd (tstM (eOp inF (eOp ixF (eVar 9) (eC (.int 0))) (eVar 5))) (tstM (eOp niF (eOp ixF (eVar 9) (eC (.int 1))) (eVar 6)))) (eVar 9) [9])))
  (sRet (eOp (ltI fun i j => decide (j < i)) (eOp mulF (eVar 3) (eCB lenF (aCons (eVar 5) aNil))) (eOp addF (eOp mulF (eVar 3) (eCB lenF (aCons (eVar 6) aNil))) (eCB lenF (aCons (eVar 8) aNil)))))))))))
def m_shows_end : List D → Option D := runB 11 f_shows_end
theorem sc_shows_end : FnScope ["floor", "memory", "row", "many", "thing", "leaders", "followers", "pairs", "beyond", "pair", "one"] ["floor", "memory", "row", "many", "thing"] (defScope (top 42)) := ⟨rfl, rfl, rfl, by decide +kernel, rfl, by decide +kernel, by decide +kernel⟩
theorem ok_shows_end {f : Addr} {fd : FuncData} (F : FunD K "shows_end" "shows_end" (defArgs (top 42)) (defBody (top 42)) (defScope (top 42)) [] [] f fd) (g : mg "shows_end" = some (.ref f)) (B : Bi mg) (I : Gi mg) (h_need_row : Has P w K mg base 5 "need_row" 3 m_need_row) (h_fresh_of : Has P w K mg base 3 "fresh_of" 3 m_fresh_of) (h_are_folk : Has P w K mg base 2 "are_folk" 2 m_are_folk) : Has P w K mg base 6 "shows_end" 5 m_shows_end :=
  has_mk F (fn_ok (k := 5) ["floor", "memory", "row", "many", "thing", "leaders", "followers", "pairs", "beyond", "pair", "one"] f_shows_end 5 F sc_shows_end rfl fun cdv A outer s H E hr => ⟨_, (dss_cons (ds_expr (de_has h_need_row hr (by rfl) (da_cons (dv 0) (da_cons (dv 1) (da_cons (dv 2) da_nil))) (al_cons (al_cons (al_cons al_nil)))))
  (dss_cons (ds_if (DW.dt (dw_or (dt_not (dt_val (de_cb call_isi cd_isi (by rfl) B.b_isinstance (by rfl) (da_cons (dv 3) (da_cons (de_ty (by rfl) B.b_int (by rfl)) da_nil))))) (dw_or (dt_val (de_cb call_isi cd_isi (by rfl) B.b_isinstance (by rfl) (da_cons (dv 3) (da_cons (de_ty (by rfl) B.b_bool (by rfl)) da_nil)))) (dw_or1 (dt_cmp (op_LT hr) opd_lt (dv 3) de_int))))) (dss_one ds_stuck) dss_nil)
  (dss_cons (ds_if (DW.dt (dw_or (dt_not (dt_val (de_cb call_isi cd_isi (by rfl) B.b_isinstance (by rfl) (da_cons (dv 4) (da_cons (de_ty (by rfl) B.b_tuple (by rfl)) da_nil))))) (dw_or (dt_cmp (op_neD (ru64 hr)) opd_ne (de_cb call_len_seq cd_len (by rfl) B.b_len (by rfl) (da_cons (dv 4) da_nil)) de_int) (dw_or1 (dt_not (dt_val (de_cb (cr_all rfl) cd_all (by rfl) B.b_all (by rfl) (da_cons (DL.de (dl_lc (own := [("one", 10)]) (is := [10]) (g := (gName 10)) (tt := tYes) (te := (tCall (spP 2 m_are_folk) [] E0 (tCons (tOp (rIX K) (tVar 0) (tC (.int 0))) (tCons (tVar 10) tNil)))) rfl sc_shows_end.nd (di_tup (dv 4)) (blkOk_by (by kernel_rfl)) (by decide) (fun _ _ _ _ _ => (dg_name 10 sc_shows_end.nd)) (fun _ _ _ _ _ => dts_nil) (fun _ _ _ _ _ => (de_has h_are_folk hr (by rfl) (da_cons (de_ix (dv 0) de_int) (da_cons (dv 10) da_nil)) (al_cons (al_cons al_nil)))))) da_nil)))))))) (dss_one (ds_ret de_bl)) dss_nil)
  (dss_cons (ds_asg (dv 4) (dg_tup rfl (dgs_cons (dg_name 5 sc_shows_end.nd) (dgs_cons (dg_name 6 sc_shows_end.nd) dgs_nil))))
  (dss_cons (ds_set 7 sc_shows_end.nd (de_has h_fresh_of hr (by rfl) (da_cons (de_ix (dv 0) de_int) (da_cons (dv 1) (da_cons (dv 2) da_nil))) (al_cons (al_cons (al_cons al_nil)))))
  (dss_cons (ds_setLc (own := [("pair", 9)]) (is := [9]) (g := (gName 9)) (tt := (tAnd (tTest (tOp (rIN K) (tOp (rIX K) (tVar 9) (tC (.int 0))) (tVar 5))) (tTest (tOp (rNI K) (tOp (rIX K) (tVar 9) (tC (.int 1))) (tVar 6))))) (te := (tVar 9)) 8 rfl sc_shows_end.nd (di_list (dv 7)) (blkOk_by (by kernel_rfl)) (by decide) (fun _ _ _ _ _ => (dg_name 9 sc_shows_end.nd)) (fun _ _ _ _ _ => (dts_one (DW.dt (dw_and (dt_cmp (op_IN hr) opd_in (de_ix (dv 9) de_int) (dv 5)) (dw_and1 (dt_cmp (op_NI hr) opd_ni (de_ix (dv 9) de_int) (dv 6))))))) (fun _ _ _ _ _ => (dv 9)))
  (dss_one (ds_ret (de_cmp op_gt opd_ltI (de_op op_MUL opd_mul (dv 3) (de_cb call_len_seq cd_len (by rfl) B.b_len (by rfl) (da_cons (dv 5) da_nil))) (de_op op_ADD opd_add (de_op op_MUL opd_mul (dv 3) (de_cb call_len_seq cd_len (by rfl) B.b_len (by rfl) (da_cons (dv 6) da_nil))) (de_cb call_len_seq cd_len (by rfl) B.b_len (by rfl) (da_cons (dv 8) da_nil))))))))))))⟩) g (F.bindsN fun _ _ _ _ _ _ us hl => match us, hl with | [_, _, _, _, _], _ => rfl)
/-! most_memory -/
def f_most_memory : SM := (sSeq (sExpr (eCB m_need_floor (aCons (eVar 0) aNil)))
  (sSeq (sSet 1 (eCB m_greatest (aCons (eOp ixF (eVar 0) (eC (.int 0))) (aCons (eL (lCB listF (aCons (eOp ixF (eVar 0) (eC (.int 1))) aNil))) (aCons (eOp addF (eC (.int 6)) (eC (.int 1))) aNil)))))
  (sRet (eIf (tstM (eOp (ltI fun i j => decide (j < i)) (eVar 1) (eC (.int 0)))) (eOp subF (eVar 1) (eC (.int 1))) (eC .non)))))
def m_most_memory : List D → Option D := runB 2 f_most_memory
theorem sc_most_memory : FnScope ["floor", "found"] ["floor"] (defScope (top 44)) := ⟨rfl, rfl, rfl, by decide +kernel, rfl, by decide +kernel, by decide +kernel⟩
theorem ok_most_memory {f : Addr} {fd : FuncData} (F : FunD K "most_memory" "most_memory" (defArgs (top 44)) (defBody (top 44)) (defScope (top 44)) [] [] f fd) (g : mg "most_memory" = some (.ref f)) (B : Bi mg) (I : Gi mg) (h_need_floor : Has P w K mg base 4 "need_floor" 1 m_need_floor) (h_greatest : Has P w K mg base 4 "greatest" 3 m_greatest) : Has P w K mg base 5 "most_memory" 1 m_most_memory :=
  has_mk F (fn_ok (k := 4) ["floor", "found"] f_most_memory 1 F sc_most_memory rfl fun cdv A outer s H E hr => ⟨_, (dss_cons (ds_expr (de_has h_need_floor hr (by rfl) (da_cons (dv 0) da_nil) (al_cons al_nil)))
  (dss_cons (ds_set 1 sc_most_memory.nd (de_has h_greatest hr (by rfl) (da_cons (de_ix (dv 0) de_int) (da_cons (DL.de (dl_cty call_list_of cl_list (by rfl) B.b_list (by rfl) (da_cons (de_ix (dv 0) de_int) da_nil))) (da_cons (de_op op_ADD opd_add (de_gint (by rfl) I.i_MOST_MEMORY) de_int) da_nil))) (al_cons (al_cons (al_cons al_nil)))))
  (dss_one (ds_ret (de_if (dt_cmp op_gt opd_ltI (dv 1) de_int) (de_op op_sub opd_sub (dv 1) de_int) de_non)))))⟩) g (F.bindsN fun _ _ _ _ _ _ us hl => match us, hl with | [_], _ => rfl)
/-! memory_of -/
def f_memory_of : SM := (sSeq (sExpr (eCB m_need_floor (aCons (eVar 0) aNil)))
  (sSeq (sIf (mNot (tstM (eCB m_are_dances (aCons (eVar 0) (aCons (eVar 1) aNil))))) sStuck sNil)
  (sRet (eCB maxF (aCons (eL (lLC (iR1 (eOp addF (eC (.int 6)) (eC (.int 1)))) (mName 2) (tstM (eCB m_is_by (aCons (eVar 1) (aCons (eVar 2) aNil)))) (eVar 2) [2])) aNil)))))
def m_memory_of : List D → Option D := runB 3 f_memory_of
theorem sc_memory_of : FnScope ["floor", "dances", "memory"] ["floor", "dances"] (defScope (top 45)) := ⟨rfl, rfl, rfl, by decide +kernel, rfl, by decide +kernel, by decide +kernel⟩
theorem ok_memory_of {f : Addr} {fd : FuncData} (F : FunD K "memory_of" "memory_of" (defArgs (top 45)) (defBody (top 45)) (defScope (top 45)) [] [] f fd) (g : mg "memory_of" = some (.ref f)) (B : Bi mg) (I : Gi mg) (h_are_dances : Has P w K mg base 4 "are_dances" 2 m_are_dances) (h_is_by : Has P w K mg base 2 "is_by" 2 m_is_by) (h_need_floor : Has P w K mg base 4 "need_floor" 1 m_need_floor) : Has P w K mg base 5 "memory_of" 2 m_memory_of :=
  has_mk F (fn_ok (k := 4) ["floor", "dances", "memory"] f_memory_of 2 F sc_memory_of rfl fun cdv A outer s H E hr => ⟨_, (dss_cons (ds_expr (de_has h_need_floor hr (by rfl) (da_cons (dv 0) da_nil) (al_cons al_nil)))
  (dss_cons (ds_if (dt_not (dt_val (de_has h_are_dances hr (by rfl) (da_cons (dv 0) (da_cons (dv 1) da_nil)) (al_cons (al_cons al_nil))))) (dss_one ds_stuck) dss_nil)
  (dss_one (ds_ret (de_cb (cr_MAX rfl) cd_max (by rfl) B.b_max (by rfl) (da_cons (DL.de (dl_lc (own := [("memory", 2)]) (is := [2]) (g := (gName 2)) (tt := (tB (tCall (spP 2 m_is_by) [] E0 (tCons (tVar 1) (tCons (tVar 2) tNil))))) (te := (tVar 2)) rfl sc_memory_of.nd (di_range1 (by rfl) B.b_range (de_op op_ADD opd_add (de_gint (by rfl) I.i_MOST_MEMORY) de_int)) (blkOk_by (by kernel_rfl)) (by decide) (fun _ _ _ _ _ => (dg_name 2 sc_memory_of.nd)) (fun _ _ _ _ _ => (dts_one (dt_val (de_has h_is_by hr (by rfl) (da_cons (dv 1) (da_cons (dv 2) da_nil)) (al_cons (al_cons al_nil)))))) (fun _ _ _ _ _ => (dv 2)))) da_nil))))))⟩) g (F.bindsN fun _ _ _ _ _ _ us hl => match us, hl with | [_, _], _ => rfl)
/-! next_pairs -/
def f_next_pairs : SM := (sSeq (sExpr (eCB m_need_row (aCons (eVar 0) (aCons (eVar 1) (aCons (eVar 2) aNil)))))
  (sSeq (sAsg (eTup (aCons (eCB m_fresh_of (aCons (eOp ixF (eVar 0) (eC (.int 1))) (aCons (eVar 1) (aCons (eVar 2) aNil)))) (aCons (eCB m_wants_of (aCons (eVar 1) (aCons (eVar 2) aNil))) aNil))) (mTup 2 (mCons (mName 3) (mCons (mName 4) mNil))))
  (sSeq (sSetL 5 (lLst aNil))
  (sSeq (sFor (iL (eVar 3)) (mTup 2 (mCons (mName 6) (mCons (mName 7) mNil))) (sSeq (sSet 8 (eL (lLC (iR1 (eOp ixF (eVar 0) (eC (.int 0)))) (mName 11) mYes (eOp subF (eVar 4) (eCB intF (aCons (eOp eqF (eVar 11) (eVar 6)) aNil))) [11])))
  (sSeq (sSet 9 (eL (lLC (iR1 (eOp ixF (eVar 0) (eC (.int 0)))) (mName 11) mYes (eOp subF (eVar 4) (eCB intF (aCons (eOp eqF (eVar 11) (eVar 7)) aNil))) [11])))
  (sSeq (sSet 10 (eL (lLC (iL (eVar 3)) (mName 12) (tstM (eOp neF (eVar 12) (eTup (aCons (eVar 6) (aCons (eVar 7) aNil))))) (eVar 12) [12])))
  (sIf (tstM (eOp notNF (eOp ixF (eCB m_filled (aCons (eVar 10) (aCons (eVar 8) (aCons (eVar 9) aNil)))) (eC (.int 0))) (eC .non))) (sExpr (eApp 5 (eTup (aCons (eVar 6) (aCons (eVar 7) aNil))))) sNil)))))
  (sRet (eFrz 5))))))
def m_next_pairs : List D → Option D := runB 13 f_next_pairs
theorem sc_next_pairs : FnScope ["floor", "memory", "row", "pairs", "many", "found", "leader", "follower", "left", "right", "others", "one", "pair"] ["floor", "memory", "row"] (defScope (top 47)) := ⟨rfl, rfl, rfl, by decide +kernel, rfl, by decide +kernel, by decide +kernel⟩
theorem ok_next_pairs {f : Addr} {fd : FuncData} (F : FunD K "next_pairs" "next_pairs" (defArgs (top 47)) (defBody (top 47)) (defScope (top 47)) [] [] f fd) (g : mg "next_pairs" = some (.ref f)) (B : Bi mg) (I : Gi mg) (h_need_row : Has P w K mg base 5 "need_row" 3 m_need_row) (h_fresh_of : Has P w K mg base 3 "fresh_of" 3 m_fresh_of) (h_wants_of : Has P w K mg base 2 "wants_of" 2 m_wants_of) (h_filled : Has P w K mg base 2 "filled" 3 m_filled) : Has P w K mg base 6 "next_pairs" 3 m_next_pairs :=
  has_mk F (fn_ok (k := 5) ["floor", "memory", "row", "pairs", "many", "found", "leader", "follower", "left", "right", "others", "one", "pair"] f_next_pairs 3 F sc_next_pairs rfl fun cdv A outer s H E hr => ⟨_, (dss_cons (ds_expr (de_has h_need_row hr (by rfl) (da_cons (dv 0) (da_cons (dv 1) (da_cons (dv 2) da_nil))) (al_cons (al_cons (al_cons al_nil)))))
  (dss_cons (ds_asg (de_tup (da_cons (de_has h_fresh_of hr (by rfl) (da_cons (de_ix (dv 0) de_int) (da_cons (dv 1) (da_cons (dv 2) da_nil))) (al_cons (al_cons (al_cons al_nil)))) (da_cons (de_has h_wants_of hr (by rfl) (da_cons (dv 1) (da_cons (dv 2) da_nil)) (al_cons (al_cons al_nil))) da_nil))) (dg_tup rfl (dgs_cons (dg_name 3 sc_next_pairs.nd) (dgs_cons (dg_name 4 sc_next_pairs.nd) dgs_nil))))
  (dss_cons (ds_setL 5 sc_next_pairs.nd (dl_lst da_nil))
  (dss_cons (ds_for .never rfl (di_list (dv 3)) (dg_tup rfl (dgs_cons (dg_name 6 sc_next_pairs.nd) (dgs_cons (dg_name 7 sc_next_pairs.nd) dgs_nil))) (dss_cons (ds_setLc (own := [("one", 11)]) (is := [11]) (g := (gName 11)) (tt := tYes) (te := (tOp (rI0 fun i j => .int (i - j)) (tVar 4) (tCB (fun xs H Q => (∃ i, xs = [.int i] ∧ Q (.int i) H) ∨ ∃ k, xs = [.bl k] ∧ Q (.int (if k then 1 else 0)) H) (tCons (tOp (rEqD K) (tVar 11) (tVar 6)) tNil)))) 8 rfl sc_next_pairs.nd (di_range1 (by rfl) B.b_range (de_ix (dv 0) de_int)) (blkOk_by (by kernel_rfl)) (by decide) (fun _ _ _ _ _ => (dg_name 11 sc_next_pairs.nd)) (fun _ _ _ _ _ => dts_nil) (fun _ _ _ _ _ => (de_op op_sub opd_sub (dv 4) (de_cty call_int1 cd_int (by rfl) B.b_int (by rfl) (da_cons (de_cmp (op_eqD (ru64 hr)) opd_eq (dv 11) (dv 6)) da_nil)))))
  (dss_cons (ds_setLc (own := [("one", 11)]) (is := [11]) (g := (gName 11)) (tt := tYes) (te := (tOp (rI0 fun i j => .int (i - j)) (tVar 4) (tCB (fun xs H Q => (∃ i, xs = [.int i] ∧ Q (.int i) H) ∨ ∃ k, xs = [.bl k] ∧ Q (.int (if k then 1 else 0)) H) (tCons (tOp (rEqD K) (tVar 11) (tVar 7)) tNil)))) 9 rfl sc_next_pairs.nd (di_range1 (by rfl) B.b_range (de_ix (dv 0) de_int)) (blkOk_by (by kernel_rfl)) (by decide) (fun _ _ _ _ _ => (dg_name 11 sc_next_pairs.nd)) (fun _ _ _ _ _ => dts_nil) (fun _ _ _ _ _ => (de_op op_sub opd_sub (dv 4) (de_cty call_int1 cd_int (by rfl) B.b_int (by rfl) (da_cons (de_cmp (op_eqD (ru64 hr)) opd_eq (dv 11) (dv 7)) da_nil)))))
  (dss_cons (ds_setLc (own := [("pair", 12)]) (is := [12]) (g := (gName 12)) (tt := (tTest (tOp (rNeD K) (tVar 12) (tTup (tCons (tVar 6) (tCons (tVar 7) tNil)))))) (te := (tVar 12)) 10 rfl sc_next_pairs.nd (di_list (dv 3)) (blkOk_by (by kernel_rfl)) (by decide) (fun _ _ _ _ _ => (dg_name 12 sc_next_pairs.nd)) (fun _ _ _ _ _ => (dts_one (dt_cmp (op_neD (ru64 hr)) opd_ne (dv 12) (de_tup (da_cons (dv 6) (da_cons (dv 7) da_nil)))))) (fun _ _ _ _ _ => (dv 12)))
  (dss_one (ds_if (dt_cmp op_notN opd_notN (de_ix (de_has h_filled hr (by rfl) (da_cons (dv 10) (da_cons (dv 8) (da_cons (dv 9) da_nil))) (al_cons (al_cons (al_cons al_nil)))) de_int) de_non) (dss_one (ds_expr (de_app 5 (de_tup (da_cons (dv 6) (da_cons (dv 7) da_nil)))))) dss_nil))))))
  (dss_one (ds_ret (dfz 5)))))))⟩) g (F.bindsN fun _ _ _ _ _ _ us hl => match us, hl with | [_, _, _], _ => rfl)
/-! all_dances -/
def f_all_dances : SM := (sSeq (sSet 2 (eL (lLst (aCons (eTup aNil) aNil))))
  (sSeq (sFor (iR1 (eVar 0)) (mName 3) (sSeq (sSetL 4 (lLst aNil))
  (sSeq (sFor (iL (eVar 2)) (mName 5) (sExt 4 (eL (lLC (iL (eVar 1)) (mTup 2 (mCons (mName 6) (mCons (mName 7) mNil))) (mAnd (tstM (eOp eqF (eVar 6) (eVar 3))) (tstM (eOp niF (eVar 7) (eVar 5)))) (eOp addF (eVar 5) (eTup (aCons (eVar 7) aNil))) [6, 7]))))
  (sSet 2 (eFrz 4)))))
  (sRet (eVar 2))))
def m_all_dances : List D → Option D := runB 8 f_all_dances
theorem sc_all_dances : FnScope ["size", "pairs", "found", "leader", "more", "row", "one", "follower"] ["size", "pairs"] (defScope (top 48)) := ⟨rfl, rfl, rfl, by decide +kernel, rfl, by decide +kernel, by decide +kernel⟩
theorem ok_all_dances {f : Addr} {fd : FuncData} (F : FunD K "all_dances" "all_dances" (defArgs (top 48)) (defBody (top 48)) (defScope (top 48)) [] [] f fd) (g : mg "all_dances" = some (.ref f)) (B : Bi mg) (I : Gi mg)  : Has P w K mg base 1 "all_dances" 2 m_all_dances :=
  has_mk F (fn_ok (k := 0) ["size", "pairs", "found", "leader", "more", "row", "one", "follower"] f_all_dances 2 F sc_all_dances rfl fun cdv A outer s H E hr => ⟨_, (dss_cons (ds_set 2 sc_all_dances.nd (DL.de (dl_lst (da_cons (de_tup da_nil) da_nil))))
  (dss_cons (ds_for .never rfl (di_range1 (by rfl) B.b_range (dv 0)) (dg_name 3 sc_all_dances.nd) (dss_cons (ds_setL 4 sc_all_dances.nd (dl_lst da_nil))
  (dss_cons (ds_for .never rfl (di_list (dv 2)) (dg_name 5 sc_all_dances.nd) (dss_one (ds_ext 4 sc_all_dances.nd (DL.de (dl_lc (own := [("one", 6), ("follower", 7)]) (is := [6, 7]) (g := (gTup K 2 (gCons (gName 6) (gCons (gName 7) gNil)))) (tt := (tAnd (tTest (tOp (rEqD K) (tVar 6) (tVar 3))) (tTest (tOp (rNI K) (tVar 7) (tVar 5))))) (te := (tOp (rADD K) (tVar 5) (tTup (tCons (tVar 7) tNil)))) rfl sc_all_dances.nd (di_list (dv 1)) (blkOk_by (by kernel_rfl)) (by decide) (fun _ _ _ _ _ => (dg_tup rfl (dgs_cons (dg_name 6 sc_all_dances.nd) (dgs_cons (dg_name 7 sc_all_dances.nd) dgs_nil)))) (fun _ _ _ _ _ => (dts_one (DW.dt (dw_and (dt_cmp (op_eqD (ru64 hr)) opd_eq (dv 6) (dv 3)) (dw_and1 (dt_cmp (op_NI hr) opd_ni (dv 7) (dv 5))))))) (fun _ _ _ _ _ => (de_op op_ADD opd_add (dv 5) (de_tup (da_cons (dv 7) da_nil)))))))))
  (dss_one (ds_set 2 sc_all_dances.nd (dfz 4))))))
  (dss_one (ds_ret (dv 2)))))⟩) g (F.bindsN fun _ _ _ _ _ _ us hl => match us, hl with | [_, _], _ => rfl)
/-! next_dances -/
def f_next_dances : SM := (sSeq (sExpr (eCB m_need_row (aCons (eVar 0) (aCons (eVar 1) (aCons (eVar 2) aNil)))))
  (sSeq (sPar 3 4 (cE (eCB m_fresh_of (aCons (eOp ixF (eVar 0) (eC (.int 1))) (aCons (eVar 1) (aCons (eVar 2) aNil))))) (cE (eCB m_wants_of (aCons (eVar 1) (aCons (eVar 2) aNil)))))
  (sSeq (sSetL 5 (lLst aNil))
  (sSeq (sFor (iL (eCB m_all_dances (aCons (eOp ixF (eVar 0) (eC (.int 0))) (aCons (eVar 3) aNil)))) (mName 6) (sSeq (sSet 7 (eL (lLC (iL (eVar 3)) (mName 8) (tstM (eOp neF (eOp ixF (eVar 6) (eOp ixF (eVar 8) (eC (.int 0)))) (eOp ixF (eVar 8) (eC (.int 1))))) (eVar 8) [8])))
  (sIf (tstM (eOp notNF (eCB m_part (aCons (eOp ixF (eVar 0) (eC (.int 0))) (aCons (eVar 7) (aCons (eOp subF (eVar 4) (eC (.int 1))) aNil)))) (eC .non))) (sExpr (eApp 5 (eVar 6))) sNil)))
  (sRet (eFrz 5))))))
def m_next_dances : List D → Option D := runB 9 f_next_dances
theorem sc_next_dances : FnScope ["floor", "memory", "row", "pairs", "many", "found", "dance", "left", "pair"] ["floor", "memory", "row"] (defScope (top 49)) := ⟨rfl, rfl, rfl, by decide +kernel, rfl, by decide +kernel, by decide +kernel⟩
theorem ok_next_dances {f : Addr} {fd : FuncData} (F : FunD K "next_dances" "next_dances" (defArgs (top 49)) (defBody (top 49)) (defScope (top 49)) [] [] f fd) (g : mg "next_dances" = some (.ref f)) (B : Bi mg) (I : Gi mg) (h_need_row : Has P w K mg base 5 "need_row" 3 m_need_row) (h_fresh_of : Has P w K mg base 3 "fresh_of" 3 m_fresh_of) (h_wants_of : Has P w K mg base 2 "wants_of" 2 m_wants_of) (h_part : Has P w K mg base 3 "part" 3 m_part) (h_all_dances : Has P w K mg base 1 "all_dances" 2 m_all_dances) : Has P w K mg base 6 "next_dances" 3 m_next_dances :=
  has_mk F (fn_ok (k := 5) ["floor", "memory", "row", "pairs", "many", "found", "dance", "left", "pair"] f_next_dances 3 F sc_next_dances rfl fun cdv A outer s H E hr => ⟨_, (dss_cons (ds_expr (de_has h_need_row hr (by rfl) (da_cons (dv 0) (da_cons (dv 1) (da_cons (dv 2) da_nil))) (al_cons (al_cons (al_cons al_nil)))))
  (dss_cons (ds_par 3 4 rfl sc_next_dances.nd (DE.dm (de_has h_fresh_of hr (by rfl) (da_cons (de_ix (dv 0) de_int) (da_cons (dv 1) (da_cons (dv 2) da_nil))) (al_cons (al_cons (al_cons al_nil))))) (DE.dm (de_has h_wants_of hr (by rfl) (da_cons (dv 1) (da_cons (dv 2) da_nil)) (al_cons (al_cons al_nil)))))
  (dss_cons (ds_setL 5 sc_next_dances.nd (dl_lst da_nil))
  (dss_cons (ds_for .never rfl (di_list (de_has h_all_dances hr (by rfl) (da_cons (de_ix (dv 0) de_int) (da_cons (dv 3) da_nil)) (al_cons (al_cons al_nil)))) (dg_name 6 sc_next_dances.nd) (dss_cons (ds_setLc (own := [("pair", 8)]) (is := [8]) (g := (gName 8)) (tt := (tTest (tOp (rNeD K) (tOp (rIX K) (tVar 6) (tOp (rIX K) (tVar 8) (tC (.int 0)))) (tOp (rIX K) (tVar 8) (tC (.int 1)))))) (te := (tVar 8)) 7 rfl sc_next_dances.nd (di_list (dv 3)) (blkOk_by (by kernel_rfl)) (by decide) (fun _ _ _ _ _ => (dg_name 8 sc_next_dances.nd)) (fun _ _ _ _ _ => (dts_one (dt_cmp (op_neD (ru64 hr)) opd_ne (de_ix (dv 6) (de_ix (dv 8) de_int)) (de_ix (dv 8) de_int)))) (fun _ _ _ _ _ => (dv 8)))
  (dss_one (ds_if (dt_cmp op_notN opd_notN (de_has h_part hr (by rfl) (da_cons (de_ix (dv 0) de_int) (da_cons (dv 7) (da_cons (de_op op_sub opd_sub (dv 4) de_int) da_nil))) (al_cons (al_cons (al_cons al_nil)))) de_non) (dss_one (ds_expr (de_app 5 (dv 6)))) dss_nil))))
  (dss_one (ds_ret (dfz 5)))))))⟩) g (F.bindsN fun _ _ _ _ _ _ us hl => match us, hl with | [_, _, _], _ => rfl)
/-! take_back -/
def f_take_back : SM := (sSeq (sExpr (eCB m_need_row (aCons (eVar 0) (aCons (eVar 1) (aCons (eVar 2) aNil)))))
  (sSeq (sFor (iR1 (eOp addF (eCB lenF (aCons (eVar 2) aNil)) (eC (.int 1)))) (mName 3) (sIf (tstM (eCB m_lasting (aCons (eVar 0) (aCons (eVar 1) (aCons (eCut (eVar 2) oNone (oSome (eOp subF (eCB lenF (aCons (eVar 2) aNil)) (eVar 3)))) aNil))))) (sRet (eVar 3)) sNil))
  (sRet (eC .non))))
def m_take_back : List D → Option D := runB 4 f_take_back
theorem sc_take_back : FnScope ["floor", "memory", "row", "many"] ["floor", "memory", "row"] (defScope (top 50)) := ⟨rfl, rfl, rfl, by decide +kernel, rfl, by decide +kernel, by decide +kernel⟩
theorem ok_take_back {f : Addr} {fd : FuncData} (F : FunD K "take_back" "take_back" (defArgs (top 50)) (defBody (top 50)) (defScope (top 50)) [] [] f fd) (g : mg "take_back" = some (.ref f)) (B : Bi mg) (I : Gi mg) (h_need_row : Has P w K mg base 5 "need_row" 3 m_need_row) (h_lasting : Has P w K mg base 4 "lasting" 3 m_lasting) : Has P w K mg base 6 "take_back" 3 m_take_back :=
  has_mk F (fn_ok (k := 5) ["floor", "memory", "row", "many"] f_take_back 3 F sc_take_back rfl fun cdv A outer s H E hr => ⟨_, (dss_cons (ds_expr (de_has h_need_row hr (by rfl) (da_cons (dv 0) (da_cons (dv 1) (da_cons (dv 2) da_nil))) (al_cons (al_cons (al_cons al_nil)))))
  (dss_cons (ds_for .never rfl (di_range1 (by rfl) B.b_range (de_op op_ADD opd_add (de_cb call_len_seq cd_len (by rfl) B.b_len (by rfl) (da_cons (dv 2) da_nil)) de_int)) (dg_name 3 sc_take_back.nd) (dss_one (ds_if (dt_val (de_has h_lasting hr (by rfl) (da_cons (dv 0) (da_cons (dv 1) (da_cons (de_cut (dv 2) do_none (do_some (de_op op_sub opd_sub (de_cb call_len_seq cd_len (by rfl) B.b_len (by rfl) (da_cons (dv 2) da_nil)) (dv 3)))) da_nil))) (al_cons (al_cons (al_cons al_nil))))) (dss_one (ds_ret (dv 3))) dss_nil)))
  (dss_one (ds_ret de_non))))⟩) g (F.bindsN fun _ _ _ _ _ _ us hl => match us, hl with | [_, _, _], _ => rfl)
/-! costs_of -/
def f_costs_of : SM := (sSeq (sSet 3 (eCB m_late_pairs (aCons (eVar 1) (aCons (eVar 2) aNil))))
  (sSeq (sSet 4 (eL (lLC2 (iR1 (eOp ixF (eVar 0) (eC (.int 0)))) (mName 5) mYes (iR1 (eOp ixF (eVar 0) (eC (.int 0)))) (mName 6) mYes (eTup (aCons (eVar 5) (aCons (eVar 6) aNil))) [5, 6] [6])))
  (sRet (eK (cDC (iL (eVar 4)) (mName 7) (tstM (eOp niF (eVar 7) (eVar 3))) (eVar 7) (eCB intF (aCons (eOp niF (eVar 7) (eOp ixF (eVar 0) (eC (.int 1)))) aNil)) [7])))))
def m_costs_of : List D → Option D := runB 8 f_costs_of
theorem sc_costs_of : FnScope ["floor", "memory", "row", "late", "every", "leader", "follower", "pair"] ["floor", "memory", "row"] (defScope (top 52)) := ⟨rfl, rfl, rfl, by decide +kernel, rfl, by decide +kernel, by decide +kernel⟩
theorem ok_costs_of {f : Addr} {fd : FuncData} (F : FunD K "costs_of" "costs_of" (defArgs (top 52)) (defBody (top 52)) (defScope (top 52)) [] [] f fd) (g : mg "costs_of" = some (.ref f)) (B : Bi mg) (I : Gi mg) (h_late_pairs : Has P w K mg base 2 "late_pairs" 2 m_late_pairs) : Has P w K mg base 3 "costs_of" 3 m_costs_of :=
  has_mk F (fn_ok (k := 2) ["floor", "memory", "row", "late", "every", "leader", "follower", "pair"] f_costs_of 3 F sc_costs_of rfl fun cdv A outer s H E hr => ⟨_, (dss_cons (ds_set 3 sc_costs_of.nd (de_has h_late_pairs hr (by rfl) (da_cons (dv 1) (da_cons (dv 2) da_nil)) (al_cons (al_cons al_nil))))
  (dss_cons (ds_setLc2 (own := [("leader", 5), ("follower", 6)]) (is := [5]) (is1 := [6]) (vs1 := [6]) (g := (gName 5)) (tt := tYes) (wi1 := (iRng1 (tCons (tOp (rIX K) (tVar 0) (tC (.int 0))) tNil))) (g1 := (gName 6)) (tt1 := tYes) (te := (tTup (tCons (tVar 5) (tCons (tVar 6) tNil)))) 4 rfl sc_costs_of.nd (di_range1 (by rfl) B.b_range (de_ix (dv 0) de_int)) (blkOk_by (by kernel_rfl)) (by decide) (by decide) (by decide) (fun _ _ _ _ _ => (dg_name 5 sc_costs_of.nd)) (fun _ _ _ _ _ => dts_nil) (fun _ _ _ _ _ => (di_range1 (by rfl) B.b_range (de_ix (dv 0) de_int))) (fun _ _ _ _ _ => (dg_name 6 sc_costs_of.nd)) (fun _ _ _ _ _ => dts_nil) (fun _ _ _ _ _ => (de_tup (da_cons (dv 5) (da_cons (dv 6) da_nil)))))
  (dss_one (ds_ret (DC.de (dc_dc (own := [("pair", 7)]) (is := [7]) (g := (gName 7)) (tt := (tTest (tOp (rNI K) (tVar 7) (tVar 3)))) (tk := (tVar 7)) (te := (tCB (fun xs H Q => (∃ i, xs = [.int i] ∧ Q (.int i) H) ∨ ∃ k, xs = [.bl k] ∧ Q (.int (if k then 1 else 0)) H) (tCons (tOp (rNI K) (tVar 7) (tOp (rIX K) (tVar 0) (tC (.int 1)))) tNil))) (ru0 hr) rfl sc_costs_of.nd (di_list (dv 4)) (blkOk_by (by kernel_rfl)) (by decide) (fun _ _ _ _ _ => (dg_name 7 sc_costs_of.nd)) (fun _ _ _ _ _ => (dts_one (dt_cmp (op_NI hr) opd_ni (dv 7) (dv 3)))) (fun _ _ _ _ _ => (dv 7)) (fun _ _ _ _ _ => (de_cty call_int1 cd_int (by rfl) B.b_int (by rfl) (da_cons (de_cmp (op_NI hr) opd_ni (dv 7) (de_ix (dv 0) de_int)) da_nil)))))))))⟩) g (F.bindsN fun _ _ _ _ _ _ us hl => match us, hl with | [_, _, _], _ => rfl)
/-! cheapest_way -/
def f_cheapest_way : SM := (sSeq (sSetC 4 (cDC (iEnL (eVar 2)) (mTup 2 (mCons (mName 13) (mCons (mName 14) mNil))) (tstM (eOp (ltI fun i j => decide (j < i)) (eVar 14) (eC (.int 0)))) (eTup (aCons (eC (.str "l")) (aCons (eVar 13) aNil))) (eC (.int 0)) [13, 14]))
  (sSeq (sSetC 5 (cBor [4] (cDCK 4 (mName 15) mYes (eVar 15) (eC .non) [15])))
  (sSeq (sSet 6 (eC (.bl true)))
  (sSeq (sWhile 100000 (tstM (eVar 6)) (sSeq (sSet 6 (eC (.bl false)))
  (sForK 0 (mTup 2 (mCons (mName 7) (mCons (mName 8) mNil))) (sSeq (sIf (tstM (eOp dinF (eTup (aCons (eVar 7) (aCons (eVar 8) aNil))) (eVar 1))) (sPar3 9 10 11 (aCons (eTup (aCons (eC (.str "f")) (aCons (eVar 8) aNil))) (aCons (eTup (aCons (eC (.str "l")) (aCons (eVar 7) aNil))) (aCons (eNeg (eOp dgF (eVar 0) (eTup (aCons (eVar 7) (aCons (eVar 8) aNil))))) aNil)))) (sPar3 9 10 11 (aCons (eTup (aCons (eC (.str "l")) (aCons (eVar 7) aNil))) (aCons (eTup (aCons (eC (.str "f")) (aCons (eVar 8) aNil))) (aCons (eOp dgF (eVar 0) (eTup (aCons (eVar 7) (aCons (eVar 8) aNil)))) aNil)))))
  (sIf (mAnd (mBor [4] (tstM (eOp dinF (eVar 9) (eVar 4)))) (mOr (mBor [4] (tstM (eOp dniF (eVar 10) (eVar 4)))) (mBor [4] (tstM (eOp ltF (eOp addF (eOp dgF (eVar 4) (eVar 9)) (eVar 11)) (eOp dgF (eVar 4) (eVar 10))))))) (sSeq (sPutD 4 (eBor [4] (eOp addF (eOp dgF (eVar 4) (eVar 9)) (eVar 11))) (eVar 10))
  (sSeq (sPutD 5 (eVar 9) (eVar 10))
  (sSet 6 (eC (.bl true))))) sNil)))))
  (sSeq (sSet 12 (eL (lLC (iEnL (eVar 3)) (mTup 2 (mCons (mName 7) (mCons (mName 14) mNil))) (mAnd (tstM (eOp (ltI fun i j => decide (j < i)) (eVar 14) (eC (.int 0)))) (mBor [4] (tstM (eOp dinF (eTup (aCons (eC (.str "f")) (aCons (eVar 7) aNil))) (eVar 4))))) (eBor [4] (eTup (aCons (eOp dgF (eVar 4) (eTup (aCons (eC (.str "f")) (aCons (eVar 7) aNil)))) (aCons (eVar 7) aNil)))) [7, 14])))
  (sRet (eIf (tstM (eOp neF (eVar 12) (eL (lLst aNil)))) (eTup (aCons (eTup (aCons (eC (.str "f")) (aCons (eOp ixF (eCB minPF (aCons (eVar 12) aNil)) (eC (.int 1))) aNil))) (aCons (eFrz 5) aNil))) (eTup (aCons (eC .non) (aCons (eFrz 5) aNil))))))))))
def m_cheapest_way : List D → Option D := runB 16 f_cheapest_way
theorem sc_cheapest_way : FnScope ["costs", "used", "left", "right", "far", "came", "going", "one", "other", "ahead", "there", "cost", "ends", "leader", "lack", "spot"] ["costs", "used", "left", "right"] (defScope (top 53)) := ⟨rfl, rfl, rfl, by decide +kernel, rfl, by decide +kernel, by decide +kernel⟩
theorem ok_cheapest_way {f : Addr} {fd : FuncData} (F : FunD K "cheapest_way" "cheapest_way" (defArgs (top 53)) (defBody (top 53)) (defScope (top 53)) [] [] f fd) (g : mg "cheapest_way" = some (.ref f)) (B : Bi mg) (I : Gi mg)  : Has P w K mg base 1 "cheapest_way" 4 m_cheapest_way :=
  has_mk F (fn_ok (k := 0) ["costs", "used", "left", "right", "far", "came", "going", "one", "other", "ahead", "there", "cost", "ends", "leader", "lack", "spot"] f_cheapest_way 4 F sc_cheapest_way rfl fun cdv A outer s H E hr => ⟨_, (dss_cons (ds_setC 4 sc_cheapest_way.nd (dc_dc (own := [("leader", 13), ("lack", 14)]) (is := [13, 14]) (g := (gTup K 2 (gCons (gName 13) (gCons (gName 14) gNil)))) (tt := (tTest (tOp (rI0 fun i j => .bl (decide (j < i))) (tVar 14) (tC (.int 0))))) (tk := (tTup (tCons (tC (.str "l")) (tCons (tVar 13) tNil)))) (te := (tC (.int 0))) (ru0 hr) rfl sc_cheapest_way.nd (di_enL (by rfl) B.b_enumerate (dv 2)) (blkOk_by (by kernel_rfl)) (by decide) (fun _ _ _ _ _ => (dg_tup rfl (dgs_cons (dg_name 13 sc_cheapest_way.nd) (dgs_cons (dg_name 14 sc_cheapest_way.nd) dgs_nil)))) (fun _ _ _ _ _ => (dts_one (dt_cmp op_gt opd_ltI (dv 14) de_int))) (fun _ _ _ _ _ => (de_tup (da_cons de_str (da_cons (dv 13) da_nil)))) (fun _ _ _ _ _ => de_int)))
  (dss_cons (ds_setDcK (i := 5) (bs := [4]) (own := [("spot", 15)]) (is := [15]) (g := (gName 15)) (tt := tYes) (tk := (tVar 15)) (te := (tC .non)) 4 (ru0 hr) rfl sc_cheapest_way.nd (blkOk_by (by kernel_rfl)) (by decide) (fun _ _ _ _ _ => (dg_name 15 sc_cheapest_way.nd)) (fun _ _ _ _ _ => dts_nil) (fun _ _ _ _ _ => (dv 15)) (fun _ _ _ _ _ => de_non))
  (dss_cons (ds_set 6 sc_cheapest_way.nd de_bl)
  (dss_cons (ds_while 100000 .never (dt_val (dv 6)) (dss_cons (ds_set 6 sc_cheapest_way.nd de_bl)
  (dss_one (ds_forK 0 .never rfl (dg_tup rfl (dgs_cons (dg_name 7 sc_cheapest_way.nd) (dgs_cons (dg_name 8 sc_cheapest_way.nd) dgs_nil))) (dss_cons (ds_if (dt_din (ru1 hr) (de_tup (da_cons (dv 7) (da_cons (dv 8) da_nil))) (dv 1)) (dss_one (ds_par3 9 10 11 rfl sc_cheapest_way.nd (da_cons (de_tup (da_cons de_str (da_cons (dv 8) da_nil))) (da_cons (de_tup (da_cons de_str (da_cons (dv 7) da_nil))) (da_cons (de_neg (de_dget (ru1 hr) (dv 0) (de_tup (da_cons (dv 7) (da_cons (dv 8) da_nil))))) da_nil))))) (dss_one (ds_par3 9 10 11 rfl sc_cheapest_way.nd (da_cons (de_tup (da_cons de_str (da_cons (dv 7) da_nil))) (da_cons (de_tup (da_cons de_str (da_cons (dv 8) da_nil))) (da_cons (de_dget (ru1 hr) (dv 0) (de_tup (da_cons (dv 7) (da_cons (dv 8) da_nil)))) da_nil))))))
  (dss_one (ds_if (DW.dt (dw_and (dt_bor [4] (dt_din (ru1 hr) (dv 9) (dv 4))) (dw_and1 (DW.dt (dw_or (dt_bor [4] (dt_dni (ru1 hr) (dv 10) (dv 4))) (dw_or1 (dt_bor [4] (dt_cmp (op_LT hr) opd_lt (de_op op_ADD opd_add (de_dget (ru1 hr) (dv 4) (dv 9)) (dv 11)) (de_dget (ru1 hr) (dv 4) (dv 10)))))))))) (dss_cons (ds_putD 4 (ru1 hr) (de_bor [4] (de_op op_ADD opd_add (de_dget (ru1 hr) (dv 4) (dv 9)) (dv 11))) (dv 10))
  (dss_cons (ds_putD 5 (ru1 hr) (dv 9) (dv 10))
  (dss_one (ds_set 6 sc_cheapest_way.nd de_bl)))) dss_nil)))))))
  (dss_cons (ds_setLc (own := [("one", 7), ("lack", 14)]) (is := [7, 14]) (g := (gTup K 2 (gCons (gName 7) (gCons (gName 14) gNil)))) (tt := (tAnd (tTest (tOp (rI0 fun i j => .bl (decide (j < i))) (tVar 14) (tC (.int 0)))) (tB (tDIn (tTup (tCons (tC (.str "f")) (tCons (tVar 7) tNil))) (tVar 4))))) (te := (tTup (tCons (tDGet (tVar 4) (tTup (tCons (tC (.str "f")) (tCons (tVar 7) tNil)))) (tCons (tVar 7) tNil)))) 12 rfl sc_cheapest_way.nd (di_enL (by rfl) B.b_enumerate (dv 3)) (blkOk_by (by kernel_rfl)) (by decide) (fun _ _ _ _ _ => (dg_tup rfl (dgs_cons (dg_name 7 sc_cheapest_way.nd) (dgs_cons (dg_name 14 sc_cheapest_way.nd) dgs_nil)))) (fun _ _ _ _ _ => (dts_one (DW.dt (dw_and (dt_cmp op_gt opd_ltI (dv 14) de_int) (dw_and1 (dt_bor [4] (dt_din (ru1 hr) (de_tup (da_cons de_str (da_cons (dv 7) da_nil))) (dv 4)))))))) (fun _ _ _ _ _ => (de_bor [4] (de_tup (da_cons (de_dget (ru1 hr) (dv 4) (de_tup (da_cons de_str (da_cons (dv 7) da_nil)))) (da_cons (dv 7) da_nil))))))
  (dss_one (ds_ret (de_if (dt_cmp (op_neD (ru64 hr)) opd_ne (dv 12) (DL.de (dl_lst da_nil))) (de_tup (da_cons (de_tup (da_cons de_str (da_cons (de_ix (de_cb (VL.cr_minP rfl (ru8 hr)) cd_minP (by rfl) B.b_min (by rfl) (da_cons (dv 12) da_nil)) de_int) da_nil))) (da_cons (dfz 5) da_nil))) (de_tup (da_cons de_non (da_cons (dfz 5) da_nil)))))))))))⟩) g (F.bindsN fun _ _ _ _ _ _ us hl => match us, hl with | [_, _, _, _], _ => rfl)
/-! begin_of -/
def f_begin_of : SM := (sSeq (sSet 2 (eVar 0))
  (sSeq (sWhile 100000 (tstM (eOp notNF (eOp dgF (eVar 1) (eVar 2)) (eC .non))) (sSet 2 (eOp dgF (eVar 1) (eVar 2))))
  (sRet (eOp ixF (eVar 2) (eC (.int 1))))))
def m_begin_of : List D → Option D := runB 3 f_begin_of
theorem sc_begin_of : FnScope ["end", "came", "here"] ["end", "came"] (defScope (top 54)) := ⟨rfl, rfl, rfl, by decide +kernel, rfl, by decide +kernel, by decide +kernel⟩
theorem ok_begin_of {f : Addr} {fd : FuncData} (F : FunD K "begin_of" "begin_of" (defArgs (top 54)) (defBody (top 54)) (defScope (top 54)) [] [] f fd) (g : mg "begin_of" = some (.ref f)) (B : Bi mg) (I : Gi mg)  : Has P w K mg base 1 "begin_of" 2 m_begin_of :=
  has_mk F (fn_ok (k := 0) ["end", "came", "here"] f_begin_of 2 F sc_begin_of rfl fun cdv A outer s H E hr => ⟨_, (dss_cons (ds_set 2 sc_begin_of.nd (dv 0))
  (dss_cons (ds_while 100000 .never (dt_cmp op_notN opd_notN (de_dget (ru1 hr) (dv 1) (dv 2)) de_non) (dss_one (ds_set 2 sc_begin_of.nd (de_dget (ru1 hr) (dv 1) (dv 2)))))
  (dss_one (ds_ret (de_ix (dv 2) de_int)))))⟩) g (F.bindsN fun _ _ _ _ _ _ us hl => match us, hl with | [_, _], _ => rfl)
/-! cheapest -/
def f_cheapest : SM := (sSeq (sPar 3 4 (cE (eCB m_costs_of (aCons (eVar 0) (aCons (eVar 1) (aCons (eVar 2) aNil))))) (cE (eCB m_wants_of (aCons (eVar 1) (aCons (eVar 2) aNil)))))
  (sSeq (sPar 5 6 (cL (lRep (eL (lLst (aCons (eVar 4) aNil))) (eOp ixF (eVar 0) (eC (.int 0))))) (cL (lRep (eL (lLst (aCons (eVar 4) aNil))) (eOp ixF (eVar 0) (eC (.int 0))))))
  (sSeq (sSet 7 (eK cEmp))
  (sSeq (sWhile 100000 (mBor [5] (tstM (eOp (ltI fun i j => decide (j < i)) (eCB sumF (aCons (eVar 5) aNil)) (eC (.int 0))))) (sSeq (sAsg (eBor [5, 6] (eCB m_cheapest_way (aCons (eVar 3) (aCons (eVar 7) (aCons (eVar 5) (aCons (eVar 6) aNil)))))) (mTup 2 (mCons (mName 8) (mCons (mName 9) mNil))))
  (sSeq (sIf (tstM (eOp isNF (eVar 8) (eC .non))) (sRet (eC .non)) sNil)
  (sSeq (sAugL 5 (fun i j => i - j) (eCB m_begin_of (aCons (eVar 8) (aCons (eVar 9) aNil))) (eC (.int 1)))
  (sSeq (sAugL 6 (fun i j => i - j) (eOp ixF (eVar 8) (eC (.int 1))) (eC (.int 1)))
  (sSet 7 (eCB m_turned (aCons (eVar 7) (aCons (eVar 8) (aCons (eVar 9) aNil))))))))))
  (sRet (eVar 7))))))
def m_cheapest : List D → Option D := runB 10 f_cheapest
theorem sc_cheapest : FnScope ["floor", "memory", "row", "costs", "many", "left", "right", "used", "end", "came"] ["floor", "memory", "row"] (defScope (top 55)) := ⟨rfl, rfl, rfl, by decide +kernel, rfl, by decide +kernel, by decide +kernel⟩
theorem ok_cheapest {f : Addr} {fd : FuncData} (F : FunD K "cheapest" "cheapest" (defArgs (top 55)) (defBody (top 55)) (defScope (top 55)) [] [] f fd) (g : mg "cheapest" = some (.ref f)) (B : Bi mg) (I : Gi mg) (h_wants_of : Has P w K mg base 2 "wants_of" 2 m_wants_of) (h_turned : Has P w K mg base 1 "turned" 3 m_turned) (h_costs_of : Has P w K mg base 3 "costs_of" 3 m_costs_of) (h_cheapest_way : Has P w K mg base 1 "cheapest_way" 4 m_cheapest_way) (h_begin_of : Has P w K mg base 1 "begin_of" 2 m_begin_of) : Has P w K mg base 4 "cheapest" 3 m_cheapest :=
  has_mk F (fn_ok (k := 3) ["floor", "memory", "row", "costs", "many", "left", "right", "used", "end", "came"] f_cheapest 3 F sc_cheapest rfl fun cdv A outer s H E hr => ⟨_, (dss_cons (ds_par 3 4 rfl sc_cheapest.nd (DE.dm (de_has h_costs_of hr (by rfl) (da_cons (dv 0) (da_cons (dv 1) (da_cons (dv 2) da_nil))) (al_cons (al_cons (al_cons al_nil))))) (DE.dm (de_has h_wants_of hr (by rfl) (da_cons (dv 1) (da_cons (dv 2) da_nil)) (al_cons (al_cons al_nil)))))
  (dss_cons (ds_par 5 6 rfl sc_cheapest.nd (DL.dm (dl_rep (DL.de (dl_lst (da_cons (dv 4) da_nil))) (de_ix (dv 0) de_int))) (DL.dm (dl_rep (DL.de (dl_lst (da_cons (dv 4) da_nil))) (de_ix (dv 0) de_int))))
  (dss_cons (ds_set 7 sc_cheapest.nd (DC.de dc_emp))
  (dss_cons (ds_while 100000 .never (dt_bor [5] (dt_cmp op_gt opd_ltI (de_cb (cr_sum rfl) cd_sum (by rfl) B.b_sum (by rfl) (da_cons (dv 5) da_nil)) de_int)) (dss_cons (ds_asg (de_bor [5, 6] (de_has h_cheapest_way hr (by rfl) (da_cons (dv 3) (da_cons (dv 7) (da_cons (dv 5) (da_cons (dv 6) da_nil)))) (al_cons (al_cons (al_cons (al_cons al_nil)))))) (dg_tup rfl (dgs_cons (dg_name 8 sc_cheapest.nd) (dgs_cons (dg_name 9 sc_cheapest.nd) dgs_nil))))
  (dss_cons (ds_if (dt_cmp op_isN opd_isN (dv 8) de_non) (dss_one (ds_ret de_non)) dss_nil)
  (dss_cons (ds_augL 5 ip_sub (de_has h_begin_of hr (by rfl) (da_cons (dv 8) (da_cons (dv 9) da_nil)) (al_cons (al_cons al_nil))) de_int)
  (dss_cons (ds_augL 6 ip_sub (de_ix (dv 8) de_int) de_int)
  (dss_one (ds_set 7 sc_cheapest.nd (de_has h_turned hr (by rfl) (da_cons (dv 7) (da_cons (dv 8) (da_cons (dv 9) da_nil))) (al_cons (al_cons (al_cons al_nil)))))))))))
  (dss_one (ds_ret (dv 7)))))))⟩) g (F.bindsN fun _ _ _ _ _ _ us hl => match us, hl with | [_, _, _], _ => rfl)
/-! fewest_meets -/
def f_fewest_meets : SM := (sSeq (sExpr (eCB m_need_row (aCons (eVar 0) (aCons (eVar 1) (aCons (eVar 2) aNil)))))
  (sSeq (sSet 3 (eCB m_cheapest (aCons (eVar 0) (aCons (eVar 1) (aCons (eVar 2) aNil)))))
  (sRet (eIf (tstM (eOp isNF (eVar 3) (eC .non))) (eC .non) (eCB tupF (aCons (eL (lCB sortLF (aCons (eL (lLCK 3 (mName 4) (tstM (eOp niF (eVar 4) (eOp ixF (eVar 0) (eC (.int 1))))) (eVar 4) [4])) aNil))) aNil))))))
def m_fewest_meets : List D → Option D := runB 5 f_fewest_meets
theorem sc_fewest_meets : FnScope ["floor", "memory", "row", "used", "pair"] ["floor", "memory", "row"] (defScope (top 56)) := ⟨rfl, rfl, rfl, by decide +kernel, rfl, by decide +kernel, by decide +kernel⟩
theorem ok_fewest_meets {f : Addr} {fd : FuncData} (F : FunD K "fewest_meets" "fewest_meets" (defArgs (top 56)) (defBody (top 56)) (defScope (top 56)) [] [] f fd) (g : mg "fewest_meets" = some (.ref f)) (B : Bi mg) (I : Gi mg) (h_need_row : Has P w K mg base 5 "need_row" 3 m_need_row) (h_cheapest : Has P w K mg base 4 "cheapest" 3 m_cheapest) : Has P w K mg base 6 "fewest_meets" 3 m_fewest_meets :=
  has_mk F (fn_ok (k := 5) ["floor", "memory", "row", "used", "pair"] f_fewest_meets 3 F sc_fewest_meets rfl fun cdv A outer s H E hr => ⟨_, (dss_cons (ds_expr (de_has h_need_row hr (by rfl) (da_cons (dv 0) (da_cons (dv 1) (da_cons (dv 2) da_nil))) (al_cons (al_cons (al_cons al_nil)))))
  (dss_cons (ds_set 3 sc_fewest_meets.nd (de_has h_cheapest hr (by rfl) (da_cons (dv 0) (da_cons (dv 1) (da_cons (dv 2) da_nil))) (al_cons (al_cons (al_cons al_nil)))))
  (dss_one (ds_ret (de_if (dt_cmp op_isN opd_isN (dv 3) de_non) de_non (de_cty call_tuple_of cd_tup (by rfl) B.b_tuple (by rfl) (da_cons (DL.de (dl_cx cr_sortedPO cx_sortL (by rfl) B.b_sorted (by rfl) (da_cons (DL.de (dl_lcK (own := [("pair", 4)]) (is := [4]) (g := (gName 4)) (tt := (tTest (tOp (rNI K) (tVar 4) (tOp (rIX K) (tVar 0) (tC (.int 1)))))) (te := (tVar 4)) 3 rfl sc_fewest_meets.nd (blkOk_by (by kernel_rfl)) (by decide) (fun _ _ _ _ _ => (dg_name 4 sc_fewest_meets.nd)) (fun _ _ _ _ _ => (dts_one (dt_cmp (op_NI hr) opd_ni (dv 4) (de_ix (dv 0) de_int)))) (fun _ _ _ _ _ => (dv 4)))) da_nil))) da_nil)))))))⟩) g (F.bindsN fun _ _ _ _ _ _ us hl => match us, hl with | [_, _, _], _ => rfl)
/-! are_meets -/
def f_are_meets : SM := (sSeq (sExpr (eCB m_need_row (aCons (eVar 0) (aCons (eVar 1) (aCons (eVar 2) aNil)))))
  (sSeq (sIf (mOr (mNot (tstM (eCB isiF (aCons (eVar 3) (aCons (eC (.opq (.ty "tuple"))) aNil))))) (mOr (mNot (tstM (eCB allF (aCons (eL (lLC (iT (eVar 3)) (mName 5) mYes (eCB m_is_two (aCons (eOp ixF (eVar 0) (eC (.int 0))) (aCons (eVar 5) aNil))) [5])) aNil)))) (mNot (tstM (eCB m_is_rising (aCons (eVar 3) aNil)))))) (sRet (eC (.bl false))) sNil)
  (sSeq (sIf (tstM (eCB anyF (aCons (eL (lLC (iT (eVar 3)) (mName 5) mYes (eOp inF (eVar 5) (eOp ixF (eVar 0) (eC (.int 1)))) [5])) aNil))) (sRet (eC (.bl false))) sNil)
  (sSeq (sSet 4 (eCB m_fresh_of (aCons (eCB tupF (aCons (eL (lCB sortTPF (aCons (eOp addF (eOp ixF (eVar 0) (eC (.int 1))) (eVar 3)) aNil))) aNil)) (aCons (eVar 1) (aCons (eVar 2) aNil)))))
  (sRet (eOp notNF (eCB m_part (aCons (eOp ixF (eVar 0) (eC (.int 0))) (aCons (eVar 4) (aCons (eCB m_wants_of (aCons (eVar 1) (aCons (eVar 2) aNil))) aNil)))) (eC .non)))))))
def m_are_meets : List D → Option D := runB 6 f_are_meets
theorem sc_are_meets : FnScope ["floor", "memory", "row", "thing", "pairs", "pair"] ["floor", "memory", "row", "thing"] (defScope (top 57)) := ⟨rfl, rfl, rfl, by decide +kernel, rfl, by decide +kernel, by decide +kernel⟩
theorem ok_are_meets {f : Addr} {fd : FuncData} (F : FunD K "are_meets" "are_meets" (defArgs (top 57)) (defBody (top 57)) (defScope (top 57)) [] [] f fd) (g : mg "are_meets" = some (.ref f)) (B : Bi mg) (I : Gi mg) (h_is_rising : Has P w K mg base 1 "is_rising" 1 m_is_rising) (h_is_two : Has P w K mg base 2 "is_two" 2 m_is_two) (h_need_row : Has P w K mg base 5 "need_row" 3 m_need_row) (h_fresh_of : Has P w K mg base 3 "fresh_of" 3 m_fresh_of) (h_wants_of : Has P w K mg base 2 "wants_of" 2 m_wants_of) (h_part : Has P w K mg base 3 "part" 3 m_part) : Has P w K mg base 6 "are_meets" 4 m_are_meets :=
  has_mk F (fn_ok (k := 5) ["floor", "memory", "row", "thing", "pairs", "pair"] f_are_meets 4 F sc_are_meets rfl fun cdv A outer s H E hr => ⟨_, (dss_cons (ds_expr (de_has h_need_row hr (by rfl) (da_cons (dv 0) (da_cons (dv 1) (da_cons (dv 2) da_nil))) (al_cons (al_cons (al_cons al_nil)))))
  (dss_cons (ds_if (DW.dt (dw_or (dt_not (dt_val (de_cb call_isi cd_isi (by rfl) B.b_isinstance (by rfl) (da_cons (dv 3) (da_cons (de_ty (by rfl) B.b_tuple (by rfl)) da_nil))))) (dw_or (dt_not (dt_val (de_cb (cr_all rfl) cd_all (by rfl) B.b_all (by rfl) (da_cons (DL.de (dl_lc (own := [("pair", 5)]) (is := [5]) (g := (gName 5)) (tt := tYes) (te := (tCall (spP 2 m_is_two) [] E0 (tCons (tOp (rIX K) (tVar 0) (tC (.int 0))) (tCons (tVar 5) tNil)))) rfl sc_are_meets.nd (di_tup (dv 3)) (blkOk_by (by kernel_rfl)) (by decide) (fun _ _ _ _ _ => (dg_name 5 sc_are_meets.nd)) (fun _ _ _ _ _ => dts_nil) (fun _ _ _ _ _ => (de_has h_is_two hr (by rfl) (da_cons (de_ix (dv 0) de_int) (da_cons (dv 5) da_nil)) (al_cons (al_cons al_nil)))))) da_nil)))) (dw_or1 (dt_not (dt_val (de_has h_is_rising hr (by rfl) (da_cons (dv 3) da_nil) (al_cons al_nil)))))))) (dss_one (ds_ret de_bl)) dss_nil)
  (dss_cons (ds_if (dt_val (de_cb (cr_any rfl) cd_any (by rfl) B.b_any (by rfl) (da_cons (DL.de (dl_lc (own := [("pair", 5)]) (is := [5]) (g := (gName 5)) (tt := tYes) (te := (tOp (rIN K) (tVar 5) (tOp (rIX K) (tVar 0) (tC (.int 1))))) rfl sc_are_meets.nd (di_tup (dv 3)) (blkOk_by (by kernel_rfl)) (by decide) (fun _ _ _ _ _ => (dg_name 5 sc_are_meets.nd)) (fun _ _ _ _ _ => dts_nil) (fun _ _ _ _ _ => (de_cmp (op_IN hr) opd_in (dv 5) (de_ix (dv 0) de_int))))) da_nil))) (dss_one (ds_ret de_bl)) dss_nil)
  (dss_cons (ds_set 4 sc_are_meets.nd (de_has h_fresh_of hr (by rfl) (da_cons (de_cty call_tuple_of cd_tup (by rfl) B.b_tuple (by rfl) (da_cons (DL.de (dl_cx VL.cr_sortTP cx_sortTP (by rfl) B.b_sorted (by rfl) (da_cons (de_op op_ADD opd_add (de_ix (dv 0) de_int) (dv 3)) da_nil))) da_nil)) (da_cons (dv 1) (da_cons (dv 2) da_nil))) (al_cons (al_cons (al_cons al_nil)))))
  (dss_one (ds_ret (de_cmp op_notN opd_notN (de_has h_part hr (by rfl) (da_cons (de_ix (dv 0) de_int) (da_cons (dv 4) (da_cons (de_has h_wants_of hr (by rfl) (da_cons (dv 1) (da_cons (dv 2) da_nil)) (al_cons (al_cons al_nil))) da_nil))) (al_cons (al_cons (al_cons al_nil)))) de_non)))))))⟩) g (F.bindsN fun _ _ _ _ _ _ us hl => match us, hl with | [_, _, _, _], _ => rfl)
/-! prices -/
def f_prices : SM := (sSeq (sExpr (eCB m_need_row (aCons (eVar 0) (aCons (eVar 1) (aCons (eVar 2) aNil)))))
  (sSeq (sSet 3 (eCB m_cheapest (aCons (eVar 0) (aCons (eVar 1) (aCons (eVar 2) aNil)))))
  (sSeq (sIf (tstM (eOp isNF (eVar 3) (eC .non))) (sRet (eC .non)) sNil)
  (sSeq (sSet 4 (eCB m_costs_of (aCons (eVar 0) (aCons (eVar 1) (aCons (eVar 2) aNil)))))
  (sSeq (sSet 5 (eOp ixF (eVar 0) (eC (.int 0))))
  (sSeq (sPar 6 7 (cL (lRep (eL (lLst (aCons (eC (.int 0)) aNil))) (eVar 5))) (cL (lRep (eL (lLst (aCons (eC (.int 0)) aNil))) (eVar 5))))
  (sSeq (sSet 8 (eC (.bl true)))
  (sSeq (sWhile 100000 (tstM (eVar 8)) (sSeq (sSet 8 (eC (.bl false)))
  (sForK 4 (mTup 2 (mCons (mName 9) (mCons (mName 10) mNil))) (sSeq (sSet 11 (eOp dgF (eVar 4) (eTup (aCons (eVar 9) (aCons (eVar 10) aNil)))))
  (sSeq (sIf (mAnd (tstM (eOp dinF (eTup (aCons (eVar 9) (aCons (eVar 10) aNil))) (eVar 3))) (mBor [6, 7] (tstM (eOp ltF (eOp addF (eOp ixF (eVar 6) (eVar 9)) (eOp ixF (eVar 7) (eVar 10))) (eVar 11))))) (sSeq (sPutL 6 (eBor [7] (eOp subF (eVar 11) (eOp ixF (eVar 7) (eVar 10)))) (eVar 9))
  (sSet 8 (eC (.bl true)))) sNil)
  (sIf (mAnd (tstM (eOp dniF (eTup (aCons (eVar 9) (aCons (eVar 10) aNil))) (eVar 3))) (mBor [6, 7] (tstM (eOp (ltI fun i j => decide (j < i)) (eOp addF (eOp ixF (eVar 6) (eVar 9)) (eOp ixF (eVar 7) (eVar 10))) (eVar 11))))) (sSeq (sPutL 7 (eBor [6] (eOp subF (eVar 11) (eOp ixF (eVar 6) (eVar 9)))) (eVar 10))
  (sSet 8 (eC (.bl true)))) sNil))))))
  (sRet (eBor [6, 7] (eTup (aCons (eCB tupF (aCons (eVar 6) aNil)) (aCons (eCB tupF (aCons (eVar 7) aNil)) aNil)))))))))))))
def m_prices : List D → Option D := runB 12 f_prices
theorem sc_prices : FnScope ["floor", "memory", "row", "used", "costs", "size", "leaders", "followers", "going", "one", "other", "cost"] ["floor", "memory", "row"] (defScope (top 58)) := ⟨rfl, rfl, rfl, by decide +kernel, rfl, by decide +kernel, by decide +kernel⟩
theorem ok_prices {f : Addr} {fd : FuncData} (F : FunD K "prices" "prices" (defArgs (top 58)) (defBody (top 58)) (defScope (top 58)) [] [] f fd) (g : mg "prices" = some (.ref f)) (B : Bi mg) (I : Gi mg) (h_need_row : Has P w K mg base 5 "need_row" 3 m_need_row) (h_costs_of : Has P w K mg base 3 "costs_of" 3 m_costs_of) (h_cheapest : Has P w K mg base 4 "cheapest" 3 m_cheapest) : Has P w K mg base 6 "prices" 3 m_prices :=
  has_mk F (fn_ok (k := 5) ["floor", "memory", "row", "used", "costs", "size", "leaders", "followers", "going", "one", "other", "cost"] f_prices 3 F sc_prices rfl fun cdv A outer s H E hr => ⟨_, (dss_cons (ds_expr (de_has h_need_row hr (by rfl) (da_cons (dv 0) (da_cons (dv 1) (da_cons (dv 2) da_nil))) (al_cons (al_cons (al_cons al_nil)))))
  (dss_cons (ds_set 3 sc_prices.nd (de_has h_cheapest hr (by rfl) (da_cons (dv 0) (da_cons (dv 1) (da_cons (dv 2) da_nil))) (al_cons (al_cons (al_cons al_nil)))))
  (dss_cons (ds_if (dt_cmp op_isN opd_isN (dv 3) de_non) (dss_one (ds_ret de_non)) dss_nil)
  (dss_cons (ds_set 4 sc_prices.nd (de_has h_costs_of hr (by rfl) (da_cons (dv 0) (da_cons (dv 1) (da_cons (dv 2) da_nil))) (al_cons (al_cons (al_cons al_nil)))))
  (dss_cons (ds_set 5 sc_prices.nd (de_ix (dv 0) de_int))
  (dss_cons (ds_par 6 7 rfl sc_prices.nd (DL.dm (dl_rep (DL.de (dl_lst (da_cons de_int da_nil))) (dv 5))) (DL.dm (dl_rep (DL.de (dl_lst (da_cons de_int da_nil))) (dv 5))))
  (dss_cons (ds_set 8 sc_prices.nd de_bl)
  (dss_cons (ds_while 100000 .never (dt_val (dv 8)) (dss_cons (ds_set 8 sc_prices.nd de_bl)
  (dss_one (ds_forK 4 .never rfl (dg_tup rfl (dgs_cons (dg_name 9 sc_prices.nd) (dgs_cons (dg_name 10 sc_prices.nd) dgs_nil))) (dss_cons (ds_set 11 sc_prices.nd (de_dget (ru1 hr) (dv 4) (de_tup (da_cons (dv 9) (da_cons (dv 10) da_nil)))))
  (dss_cons (ds_if (DW.dt (dw_and (dt_din (ru1 hr) (de_tup (da_cons (dv 9) (da_cons (dv 10) da_nil))) (dv 3)) (dw_and1 (dt_bor [6, 7] (dt_cmp (op_LT hr) opd_lt (de_op op_ADD opd_add (de_ix (dv 6) (dv 9)) (de_ix (dv 7) (dv 10))) (dv 11)))))) (dss_cons (ds_putL 6 (de_bor [7] (de_op op_sub opd_sub (dv 11) (de_ix (dv 7) (dv 10)))) (dv 9))
  (dss_one (ds_set 8 sc_prices.nd de_bl))) dss_nil)
  (dss_one (ds_if (DW.dt (dw_and (dt_dni (ru1 hr) (de_tup (da_cons (dv 9) (da_cons (dv 10) da_nil))) (dv 3)) (dw_and1 (dt_bor [6, 7] (dt_cmp op_gt opd_ltI (de_op op_ADD opd_add (de_ix (dv 6) (dv 9)) (de_ix (dv 7) (dv 10))) (dv 11)))))) (dss_cons (ds_putL 7 (de_bor [6] (de_op op_sub opd_sub (dv 11) (de_ix (dv 6) (dv 9)))) (dv 10))
  (dss_one (ds_set 8 sc_prices.nd de_bl))) dss_nil))))))))
  (dss_one (ds_ret (de_bor [6, 7] (de_tup (da_cons (de_cty call_tuple_of cd_tup (by rfl) B.b_tuple (by rfl) (da_cons (dv 6) da_nil)) (da_cons (de_cty call_tuple_of cd_tup (by rfl) B.b_tuple (by rfl) (da_cons (dv 7) da_nil)) da_nil))))))))))))))⟩) g (F.bindsN fun _ _ _ _ _ _ us hl => match us, hl with | [_, _, _], _ => rfl)
/-! are_numbers -/
def f_are_numbers : SM := (sSeq (sIf (mOr (mNot (tstM (eCB isiF (aCons (eVar 1) (aCons (eC (.opq (.ty "tuple"))) aNil))))) (tstM (eOp neF (eCB lenF (aCons (eVar 1) aNil)) (eVar 0)))) (sRet (eC (.bl false))) sNil)
  (sRet (eCB allF (aCons (eL (lLC (iT (eVar 1)) (mName 2) mYes (eAnd (eCB isiF (aCons (eVar 2) (aCons (eC (.opq (.ty "int"))) aNil))) (eNot (eCB isiF (aCons (eVar 2) (aCons (eC (.opq (.ty "bool"))) aNil))))) [2])) aNil))))
def m_are_numbers : List D → Option D := runB 3 f_are_numbers
theorem sc_are_numbers : FnScope ["size", "thing", "one"] ["size", "thing"] (defScope (top 59)) := ⟨rfl, rfl, rfl, by decide +kernel, rfl, by decide +kernel, by decide +kernel⟩
theorem ok_are_numbers {f : Addr} {fd : FuncData} (F : FunD K "are_numbers" "are_numbers" (defArgs (top 59)) (defBody (top 59)) (defScope (top 59)) [] [] f fd) (g : mg "are_numbers" = some (.ref f)) (B : Bi mg) (I : Gi mg)  : Has P w K mg base 1 "are_numbers" 2 m_are_numbers :=
  has_mk F (fn_ok (k := 0) ["size", "thing", "one"] f_are_numbers 2 F sc_are_numbers rfl fun cdv A outer s H E hr => ⟨_, (dss_cons (ds_if (DW.dt (dw_or (dt_not (dt_val (de_cb call_isi cd_isi (by rfl) B.b_isinstance (by rfl) (da_cons (dv 1) (da_cons (de_ty (by rfl) B.b_tuple (by rfl)) da_nil))))) (dw_or1 (dt_cmp (op_neD (ru64 hr)) opd_ne (de_cb call_len_seq cd_len (by rfl) B.b_len (by rfl) (da_cons (dv 1) da_nil)) (dv 0))))) (dss_one (ds_ret de_bl)) dss_nil)
  (dss_one (ds_ret (de_cb (cr_all rfl) cd_all (by rfl) B.b_all (by rfl) (da_cons (DL.de (dl_lc (own := [("one", 2)]) (is := [2]) (g := (gName 2)) (tt := tYes) (te := (tAndV (tCB (rIsi K) (tCons (tVar 2) (tCons (tC (.ty "int")) tNil))) (tNotV (tCB (rIsi K) (tCons (tVar 2) (tCons (tC (.ty "bool")) tNil)))))) rfl sc_are_numbers.nd (di_tup (dv 1)) (blkOk_by (by kernel_rfl)) (by decide) (fun _ _ _ _ _ => (dg_name 2 sc_are_numbers.nd)) (fun _ _ _ _ _ => dts_nil) (fun _ _ _ _ _ => (de_and (de_cb call_isi cd_isi (by rfl) B.b_isinstance (by rfl) (da_cons (dv 2) (da_cons (de_ty (by rfl) B.b_int (by rfl)) da_nil))) (de_one (de_not (de_cb call_isi cd_isi (by rfl) B.b_isinstance (by rfl) (da_cons (dv 2) (da_cons (de_ty (by rfl) B.b_bool (by rfl)) da_nil))))))))) da_nil)))))⟩) g (F.bindsN fun _ _ _ _ _ _ us hl => match us, hl with | [_, _], _ => rfl)
/-! shown_by -/
def f_shown_by : SM := (sSeq (sExpr (eCB m_need_row (aCons (eVar 0) (aCons (eVar 1) (aCons (eVar 2) aNil)))))
  (sSeq (sIf (mOr (mNot (tstM (eCB isiF (aCons (eVar 3) (aCons (eC (.opq (.ty "tuple"))) aNil))))) (mOr (tstM (eOp neF (eCB lenF (aCons (eVar 3) aNil)) (eC (.int 2)))) (mNot (tstM (eCB allF (aCons (eL (lLC (iT (eVar 3)) (mName 6) mYes (eCB m_are_numbers (aCons (eOp ixF (eVar 0) (eC (.int 0))) (aCons (eVar 6) aNil))) [6])) aNil)))))) (sRet (eC .non)) sNil)
  (sSeq (sSet 4 (eCB m_costs_of (aCons (eVar 0) (aCons (eVar 1) (aCons (eVar 2) aNil)))))
  (sSeq (sSet 5 (eOp mulF (eCB m_wants_of (aCons (eVar 1) (aCons (eVar 2) aNil))) (eOp addF (eCB sumTF (aCons (eOp ixF (eVar 3) (eC (.int 0))) aNil)) (eCB sumTF (aCons (eOp ixF (eVar 3) (eC (.int 1))) aNil)))))
  (sSeq (sForK 4 (mTup 2 (mCons (mName 6) (mCons (mName 7) mNil))) (sAug 5 subF (eCB maxF (aCons (eC (.int 0)) (aCons (eOp subF (eOp addF (eOp ixF (eOp ixF (eVar 3) (eC (.int 0))) (eVar 6)) (eOp ixF (eOp ixF (eVar 3) (eC (.int 1))) (eVar 7))) (eOp dgF (eVar 4) (eTup (aCons (eVar 6) (aCons (eVar 7) aNil))))) aNil)))))
  (sRet (eVar 5)))))))
def m_shown_by : List D → Option D := runB 8 f_shown_by
theorem sc_shown_by : FnScope ["floor", "memory", "row", "thing", "costs", "found", "one", "other"] ["floor", "memory", "row", "thing"] (defScope (top 60)) := ⟨rfl, rfl, rfl, by decide +kernel, rfl, by decide +kernel, by decide +kernel⟩
theorem ok_shown_by {f : Addr} {fd : FuncData} (F : FunD K "shown_by" "shown_by" (defArgs (top 60)) (defBody (top 60)) (defScope (top 60)) [] [] f fd) (g : mg "shown_by" = some (.ref f)) (B : Bi mg) (I : Gi mg) (h_need_row : Has P w K mg base 5 "need_row" 3 m_need_row) (h_wants_of : Has P w K mg base 2 "wants_of" 2 m_wants_of) (h_costs_of : Has P w K mg base 3 "costs_of" 3 m_costs_of) (h_are_numbers : Has P w K mg base 1 "are_numbers" 2 m_are_numbers) : Has P w K mg base 6 "shown_by" 4 m_shown_by :=
  has_mk F (fn_ok (k := 5) ["floor", "memory", "row", "thing", "costs", "found", "one", "other"] f_shown_by 4 F sc_shown_by rfl fun cdv A outer s H E hr => ⟨_, (dss_cons (ds_expr (de_has h_need_row hr (by rfl) (da_cons (dv 0) (da_cons (dv 1) (da_cons (dv 2) da_nil))) (al_cons (al_cons (al_cons al_nil)))))
  (dss_cons (ds_if (DW.dt (dw_or (dt_not (dt_val (de_cb call_isi cd_isi (by rfl) B.b_isinstance (by rfl) (da_cons (dv 3) (da_cons (de_ty (by rfl) B.b_tuple (by rfl)) da_nil))))) (dw_or (dt_cmp (op_neD (ru64 hr)) opd_ne (de_cb call_len_seq cd_len (by rfl) B.b_len (by rfl) (da_cons (dv 3) da_nil)) de_int) (dw_or1 (dt_not (dt_val (de_cb (cr_all rfl) cd_all (by rfl) B.b_all (by rfl) (da_cons (DL.de (dl_lc (own := [("one", 6)]) (is := [6]) (g := (gName 6)) (tt := tYes) (te := (tCall (spP 2 m_are_numbers) [] E0 (tCons (tOp (rIX K) (tVar 0) (tC (.int 0))) (tCons (tVar 6) tNil)))) rfl sc_shown_by.nd (di_tup (dv 3)) (blkOk_by (by kernel_rfl)) (by decide) (fun _ _ _ _ _ => (dg_name 6 sc_shown_by.nd)) (fun _ _ _ _ _ => dts_nil) (fun _ _ _ _ _ => (de_has h_are_numbers hr (by rfl) (da_cons (de_ix (dv 0) de_int) (da_cons (dv 6) da_nil)) (al_cons (al_cons al_nil)))))) da_nil)))))))) (dss_one (ds_ret de_non)) dss_nil)
  (dss_cons (ds_set 4 sc_shown_by.nd (de_has h_costs_of hr (by rfl) (da_cons (dv 0) (da_cons (dv 1) (da_cons (dv 2) da_nil))) (al_cons (al_cons (al_cons al_nil)))))
  (dss_cons (ds_set 5 sc_shown_by.nd (de_op op_MUL opd_mul (de_has h_wants_of hr (by rfl) (da_cons (dv 1) (da_cons (dv 2) da_nil)) (al_cons (al_cons al_nil))) (de_op op_ADD opd_add (de_cb (VL.cr_sumT rfl) cd_sumT (by rfl) B.b_sum (by rfl) (da_cons (de_ix (dv 3) de_int) da_nil)) (de_cb (VL.cr_sumT rfl) cd_sumT (by rfl) B.b_sum (by rfl) (da_cons (de_ix (dv 3) de_int) da_nil)))))
  (dss_cons (ds_forK 4 .never rfl (dg_tup rfl (dgs_cons (dg_name 6 sc_shown_by.nd) (dgs_cons (dg_name 7 sc_shown_by.nd) dgs_nil))) (dss_one (ds_aug 5 sc_shown_by.nd ip_sub opd_ipSub (de_cb (cr_MAX rfl) cd_max (by rfl) B.b_max (by rfl) (da_cons de_int (da_cons (de_op op_sub opd_sub (de_op op_ADD opd_add (de_ix (de_ix (dv 3) de_int) (dv 6)) (de_ix (de_ix (dv 3) de_int) (dv 7))) (de_dget (ru1 hr) (dv 4) (de_tup (da_cons (dv 6) (da_cons (dv 7) da_nil))))) da_nil))))))
  (dss_one (ds_ret (dv 5))))))))⟩) g (F.bindsN fun _ _ _ _ _ _ us hl => match us, hl with | [_, _, _, _], _ => rfl)
/-! _law_deck -/
def f__law_deck : SM := (sSeq (sIf (tstM (eOp (ltI fun i j => decide (j ≤ i)) (eVar 0) (eOp powF (eC (.int 10)) (eC (.int 18))))) (sRetL (lLst (aCons (eOp subF (eVar 0) (eOp powF (eC (.int 10)) (eC (.int 18)))) (aCons (eOp modF (eVar 0) (eC (.int 2147483579))) (aCons (eVar 1) aNil))))) sNil)
  (sRetL (lLst (aCons (eC (.int 0)) (aCons (eOp modF (eVar 0) (eC (.int 2147483579))) (aCons (eVar 1) aNil))))))
def m__law_deck : List D → Option (List D) := runL 2 f__law_deck
theorem sc__law_deck : FnScope ["cell", "turn"] ["cell", "turn"] (defScope (top 62)) := ⟨rfl, rfl, rfl, by decide +kernel, rfl, by decide +kernel, by decide +kernel⟩
theorem ok__law_deck {f : Addr} {fd : FuncData} (F : FunD K "_law_deck" "_law_deck" (defArgs (top 62)) (defBody (top 62)) (defScope (top 62)) [] [] f fd) (g : mg "_law_deck" = some (.ref f)) (B : Bi mg) (I : Gi mg)  : HasL P w K mg base 1 "_law_deck" 2 m__law_deck :=
  hasL_mk F (fn_okL (k := 0) ["cell", "turn"] f__law_deck 2 F sc__law_deck rfl fun cdv A outer s H E hr => ⟨_, (dss_cons (ds_if (dt_cmp op_ge opd_ltI (dv 0) (de_op op_pow opd_pow de_int de_int)) (dss_one (ds_retL (dl_lst (da_cons (de_op op_sub opd_sub (dv 0) (de_op op_pow opd_pow de_int de_int)) (da_cons (de_op op_modN opd_mod (dv 0) de_int) (da_cons (dv 1) da_nil)))))) dss_nil)
  (dss_one (ds_retL (dl_lst (da_cons de_int (da_cons (de_op op_modN opd_mod (dv 0) de_int) (da_cons (dv 1) da_nil)))))))⟩) g (F.bindsN fun _ _ _ _ _ _ us hl => match us, hl with | [_, _], _ => rfl)
/-! _law_pick -/
def f__law_pick : SM := (sSeq (sIf (mBor [0] (tstM (eOp (ltI fun i j => decide (j < i)) (eOp ixF (eVar 0) (eC (.int 0))) (eC (.int 1))))) (sSeq (sSet 2 (eBor [0] (eOp modF (eOp ixF (eVar 0) (eC (.int 0))) (eVar 1))))
  (sSeq (sPutL 0 (eBor [0] (eOp divF (eOp ixF (eVar 0) (eC (.int 0))) (eVar 1))) (eC (.int 0)))
  (sRet (eVar 2)))) sNil)
  (sSeq (sPutL 0 (eBor [0] (eOp addF (eOp ixF (eVar 0) (eC (.int 2))) (eC (.int 1)))) (eC (.int 2)))
  (sSeq (sSet 3 (eBor [0] (eOp modF (eOp powF (eOp addF (eOp ixF (eVar 0) (eC (.int 1))) (eOp mulF (eC (.int 15485867)) (eOp ixF (eVar 0) (eC (.int 2))))) (eC (.int 5))) (eC (.int 2147483647)))))
  (sSeq (sSet 2 (eBor [0] (eOp divF (eOp modF (eOp powF (eOp addF (eVar 3) (eOp mulF (eC (.int 7919)) (eOp ixF (eVar 0) (eC (.int 2))))) (eC (.int 3))) (eC (.int 2147483629))) (eC (.int 32)))))
  (sRet (eOp modF (eVar 2) (eVar 1)))))))
def m__law_pick : List D → List D → Option (D × List D) := runO 4 f__law_pick
theorem sc__law_pick : FnScope ["deck", "size", "found", "number"] ["deck", "size"] (defScope (top 63)) := ⟨rfl, rfl, rfl, by decide +kernel, rfl, by decide +kernel, by decide +kernel⟩
theorem ok__law_pick {f : Addr} {fd : FuncData} (F : FunD K "_law_pick" "_law_pick" (defArgs (top 63)) (defBody (top 63)) (defScope (top 63)) [] [] f fd) (g : mg "_law_pick" = some (.ref f)) (B : Bi mg) (I : Gi mg)  : HasO P w K mg base 1 "_law_pick" 1 m__law_pick :=
  hasO_mk F (fn_okO (k := 0) ["deck", "size", "found", "number"] f__law_pick 1 F sc__law_pick rfl fun cdv A outer s H E hr => ⟨_, (dss_cons (ds_if (dt_bor [0] (dt_cmp op_gt opd_ltI (de_ix (dv 0) de_int) de_int)) (dss_cons (ds_set 2 sc__law_pick.nd (de_bor [0] (de_op op_modN opd_mod (de_ix (dv 0) de_int) (dv 1))))
  (dss_cons (ds_putL 0 (de_bor [0] (de_op op_fdivN opd_div (de_ix (dv 0) de_int) (dv 1))) de_int)
  (dss_one (ds_ret (dv 2))))) dss_nil)
  (dss_cons (ds_putL 0 (de_bor [0] (de_op op_ADD opd_add (de_ix (dv 0) de_int) de_int)) de_int)
  (dss_cons (ds_set 3 sc__law_pick.nd (de_bor [0] (de_op op_modN opd_mod (de_op op_pow opd_pow (de_op op_ADD opd_add (de_ix (dv 0) de_int) (de_op op_MUL opd_mul de_int (de_ix (dv 0) de_int))) de_int) de_int)))
  (dss_cons (ds_set 2 sc__law_pick.nd (de_bor [0] (de_op op_fdivN opd_div (de_op op_modN opd_mod (de_op op_pow opd_pow (de_op op_ADD opd_add (dv 3) (de_op op_MUL opd_mul de_int (de_ix (dv 0) de_int))) de_int) de_int) de_int)))
  (dss_one (ds_ret (de_op op_modN opd_mod (dv 2) (dv 1))))))))⟩) g (F.bindsN fun _ _ _ _ _ _ us hl => match us, hl with | [_, _], _ => rfl)
/-! _law_all_know -/
def f__law_all_know : SM := (sSeq (sSet 1 (eL (lLst aNil)))
  (sSeq (sFor (iR1 (eVar 0)) (mName 2) (sSet 1 (eOp addF (eVar 1) (eL (lLC (iR1 (eVar 0)) (mName 3) mYes (eTup (aCons (eVar 2) (aCons (eVar 3) aNil))) [3])))))
  (sRet (eTup (aCons (eVar 0) (aCons (eCB tupF (aCons (eVar 1) aNil)) aNil))))))
def m__law_all_know : List D → Option D := runB 4 f__law_all_know
theorem sc__law_all_know : FnScope ["size", "found", "leader", "follower"] ["size"] (defScope (top 64)) := ⟨rfl, rfl, rfl, by decide +kernel, rfl, by decide +kernel, by decide +kernel⟩
theorem ok__law_all_know {f : Addr} {fd : FuncData} (F : FunD K "_law_all_know" "_law_all_know" (defArgs (top 64)) (defBody (top 64)) (defScope (top 64)) [] [] f fd) (g : mg "_law_all_know" = some (.ref f)) (B : Bi mg) (I : Gi mg)  : Has P w K mg base 1 "_law_all_know" 1 m__law_all_know :=
  has_mk F (fn_ok (k := 0) ["size", "found", "leader", "follower"] f__law_all_know 1 F sc__law_all_know rfl fun cdv A outer s H E hr => ⟨_, (dss_cons (ds_set 1 sc__law_all_know.nd (DL.de (dl_lst da_nil)))
  (dss_cons (ds_for .never rfl (di_range1 (by rfl) B.b_range (dv 0)) (dg_name 2 sc__law_all_know.nd) (dss_one (ds_set 1 sc__law_all_know.nd (de_op op_ADD opd_add (dv 1) (DL.de (dl_lc (own := [("follower", 3)]) (is := [3]) (g := (gName 3)) (tt := tYes) (te := (tTup (tCons (tVar 2) (tCons (tVar 3) tNil)))) rfl sc__law_all_know.nd (di_range1 (by rfl) B.b_range (dv 0)) (blkOk_by (by kernel_rfl)) (by decide) (fun _ _ _ _ _ => (dg_name 3 sc__law_all_know.nd)) (fun _ _ _ _ _ => dts_nil) (fun _ _ _ _ _ => (de_tup (da_cons (dv 2) (da_cons (dv 3) da_nil))))))))))
  (dss_one (ds_ret (de_tup (da_cons (dv 0) (da_cons (de_cty call_tuple_of cd_tup (by rfl) B.b_tuple (by rfl) (da_cons (dv 1) da_nil)) da_nil)))))))⟩) g (F.bindsN fun _ _ _ _ _ _ us hl => match us, hl with | [_], _ => rfl)
/-! _law_all_right -/
def f__law_all_right : SM := (sSeq (sSet 1 (eCB m__law_all_know (aCons (eVar 0) aNil)))
  (sSeq (sSet 2 (eL (lLC (iR1 (eVar 0)) (mName 3) mYes (eCB tupF (aCons (eL (lLC (iR1 (eVar 0)) (mName 4) mYes (eOp modF (eOp addF (eVar 4) (eVar 3)) (eVar 0)) [4])) aNil)) [3])))
  (sSeq (sIf (mOr (tstM (eOp neF (eCB m_most_memory (aCons (eVar 1) aNil)) (eOp subF (eVar 0) (eC (.int 1))))) (tstM (eOp neF (eCB m_memory_of (aCons (eVar 1) (aCons (eOp addF (eVar 2) (eVar 2)) aNil))) (eOp subF (eVar 0) (eC (.int 1)))))) (sRet (eC (.bl false))) sNil)
  (sSeq (sIf (mOr (mNot (tstM (eCB m_lasts (aCons (eVar 1) (aCons (eOp subF (eVar 0) (eC (.int 1))) (aCons (eVar 2) aNil)))))) (mAnd (tstM (eOp neF (eCB m_next_dances (aCons (eVar 1) (aCons (eOp subF (eVar 0) (eC (.int 1))) (aCons (eVar 2) aNil)))) (eL (lLst (aCons (eOp ixF (eVar 2) (eC (.int 0))) aNil))))) (tstM (eOp (ltI fun i j => decide (j < i)) (eVar 0) (eC (.int 1)))))) (sRet (eC (.bl false))) sNil)
  (sSeq (sIf (mOr (tstM (eOp neF (eCB m_most_on (aCons (eVar 1) (aCons (eVar 0) (aCons (eL (lLst aNil)) aNil)))) (eVar 0))) (tstM (eOp notNF (eCB m_fewest_meets (aCons (eVar 1) (aCons (eVar 0) (aCons (eL (lLst aNil)) aNil)))) (eC .non)))) (sRet (eC (.bl false))) sNil)
  (sRet (eOp isBF (eCB m_shows_end (aCons (eVar 1) (aCons (eVar 0) (aCons (eL (lLst aNil)) (aCons (eOp addF (eVar 0) (eC (.int 1))) (aCons (eTup (aCons (eTupRg1 (eVar 0)) (aCons (eTup aNil) aNil))) aNil)))))) (eC (.bl true)))))))))
def m__law_all_right : List D → Option D := runB 5 f__law_all_right
theorem sc__law_all_right : FnScope ["size", "floor", "row", "turn", "k"] ["size"] (defScope (top 65)) := ⟨rfl, rfl, rfl, by decide +kernel, rfl, by decide +kernel, by decide +kernel⟩
theorem ok__law_all_right {f : Addr} {fd : FuncData} (F : FunD K "_law_all_right" "_law_all_right" (defArgs (top 65)) (defBody (top 65)) (defScope (top 65)) [] [] f fd) (g : mg "_law_all_right" = some (.ref f)) (B : Bi mg) (I : Gi mg) (h_lasts : Has P w K mg base 6 "lasts" 3 m_lasts) (h_most_on : Has P w K mg base 6 "most_on" 3 m_most_on) (h_shows_end : Has P w K mg base 6 "shows_end" 5 m_shows_end) (h_most_memory : Has P w K mg base 5 "most_memory" 1 m_most_memory) (h_memory_of : Has P w K mg base 5 "memory_of" 2 m_memory_of) (h_next_dances : Has P w K mg base 6 "next_dances" 3 m_next_dances) (h_fewest_meets : Has P w K mg base 6 "fewest_meets" 3 m_fewest_meets) (h__law_all_know : Has P w K mg base 1 "_law_all_know" 1 m__law_all_know) : Has P w K mg base 7 "_law_all_right" 1 m__law_all_right :=
  has_mk F (fn_ok (k := 6) ["size", "floor", "row", "turn", "k"] f__law_all_right 1 F sc__law_all_right rfl fun cdv A outer s H E hr => ⟨_, (dss_cons (ds_set 1 sc__law_all_right.nd (de_has h__law_all_know hr (by rfl) (da_cons (dv 0) da_nil) (al_cons al_nil)))
  (dss_cons (ds_setLc (own := [("turn", 3)]) (is := [3]) (g := (gName 3)) (tt := tYes) (te := (tCB (fun xs H Q => ∃ p ys, xs = [.ref p] ∧ ((SqL K H p ys ∧ ∀ l, H l = none → Q (.ref l) (upd H l (.tup ys))) ∨ (SqT K H p ys ∧ Q (.ref p) H))) (tCons (tLc (iRng1 (tCons (tVar 0) tNil)) (gName 4) tYes (tOp (rI (fun _ j => j ≠ 0) fun i j => .int (i.fmod j)) (tOp (rADD K) (tVar 4) (tVar 3)) (tVar 0)) [4]) tNil))) 2 rfl sc__law_all_right.nd (di_range1 (by rfl) B.b_range (dv 0)) (blkOk_by (by kernel_rfl)) (by decide) (fun _ _ _ _ _ => (dg_name 3 sc__law_all_right.nd)) (fun _ _ _ _ _ => dts_nil) (fun _ _ _ _ _ => (de_cty call_tuple_of cd_tup (by rfl) B.b_tuple (by rfl) (da_cons (DL.de (dl_lc (own := [("k", 4)]) (is := [4]) (g := (gName 4)) (tt := tYes) (te := (tOp (rI (fun _ j => j ≠ 0) fun i j => .int (i.fmod j)) (tOp (rADD K) (tVar 4) (tVar 3)) (tVar 0))) rfl sc__law_all_right.nd (di_range1 (by rfl) B.b_range (dv 0)) (blkOk_by (by kernel_rfl)) (by decide) (fun _ _ _ _ _ => (dg_name 4 sc__law_all_right.nd)) (fun _ _ _ _ _ => dts_nil) (fun _ _ _ _ _ => (de_op op_modN opd_mod (de_op op_ADD opd_add (dv 4) (dv 3)) (dv 0))))) da_nil))))
  (dss_cons (ds_if (DW.dt (dw_or (dt_cmp (op_neD (ru64 hr)) opd_ne (de_has h_most_memory hr (by rfl) (da_cons (dv 1) da_nil) (al_cons al_nil)) (de_op op_sub opd_sub (dv 0) de_int)) (dw_or1 (dt_cmp (op_neD (ru64 hr)) opd_ne (de_has h_memory_of hr (by rfl) (da_cons (dv 1) (da_cons (de_op op_ADD opd_add (dv 2) (dv 2)) da_nil)) (al_cons (al_cons al_nil))) (de_op op_sub opd_sub (dv 0) de_int))))) (dss_one (ds_ret de_bl)) dss_nil)
  (dss_cons (ds_if (DW.dt (dw_or (dt_not (dt_val (de_has h_lasts hr (by rfl) (da_cons (dv 1) (da_cons (de_op op_sub opd_sub (dv 0) de_int) (da_cons (dv 2) da_nil))) (al_cons (al_cons (al_cons al_nil)))))) (dw_or1 (DW.dt (dw_and (dt_cmp (op_neD (ru64 hr)) opd_ne (de_has h_next_dances hr (by rfl) (da_cons (dv 1) (da_cons (de_op op_sub opd_sub (dv 0) de_int) (da_cons (dv 2) da_nil))) (al_cons (al_cons (al_cons al_nil)))) (DL.de (dl_lst (da_cons (de_ix (dv 2) de_int) da_nil)))) (dw_and1 (dt_cmp op_gt opd_ltI (dv 0) de_int))))))) (dss_one (ds_ret de_bl)) dss_nil)
  (dss_cons (ds_if (DW.dt (dw_or (dt_cmp (op_neD (ru64 hr)) opd_ne (de_has h_most_on hr (by rfl) (da_cons (dv 1) (da_cons (dv 0) (da_cons (DL.de (dl_lst da_nil)) da_nil))) (al_cons (al_cons (al_cons al_nil)))) (dv 0)) (dw_or1 (dt_cmp op_notN opd_notN (de_has h_fewest_meets hr (by rfl) (da_cons (dv 1) (da_cons (dv 0) (da_cons (DL.de (dl_lst da_nil)) da_nil))) (al_cons (al_cons (al_cons al_nil)))) de_non)))) (dss_one (ds_ret de_bl)) dss_nil)
  (dss_one (ds_ret (de_cmp op_isBl opd_isB (de_has h_shows_end hr (by rfl) (da_cons (dv 1) (da_cons (dv 0) (da_cons (DL.de (dl_lst da_nil)) (da_cons (de_op op_ADD opd_add (dv 0) de_int) (da_cons (de_tup (da_cons (de_tupRg rfl (by rfl) B.b_tuple (by rfl) B.b_range (dv 0)) (da_cons (de_tup da_nil) da_nil))) da_nil))))) (al_cons (al_cons (al_cons (al_cons (al_cons al_nil)))))) de_bl))))))))⟩) g (F.bindsN fun _ _ _ _ _ _ us hl => match us, hl with | [_], _ => rfl)
/-! _law_spoilt_right -/
def f__law_spoilt_right : SM := (sSeq (sSet 0 (eTup (aCons (eC (.int 3)) (aCons (eTup (aCons (eTup (aCons (eC (.int 0)) (aCons (eC (.int 0)) aNil))) (aCons (eTup (aCons (eC (.int 0)) (aCons (eC (.int 1)) aNil))) (aCons (eTup (aCons (eC (.int 1)) (aCons (eC (.int 0)) aNil))) (aCons (eTup (aCons (eC (.int 1)) (aCons (eC (.int 1)) aNil))) (aCons (eTup (aCons (eC (.int 1)) (aCons (eC (.int 2)) aNil))) (aCons (eTup (aCons (eC (.int 2)) (aCons (eC (.int 1)) aNil))) (aCons (eTup (aCons (eC (.int 2)) (aCons (eC (.int 2)) aNil))) aNil)))))))) aNil))))
  (sSeq (sIf (mOr (tstM (eOp neF (eCB m_most_memory (aCons (eVar 0) aNil)) (eC (.int 1)))) (tstM (eOp neF (eCB m_next_dances (aCons (eVar 0) (aCons (eC (.int 1)) (aCons (eL (lLst aNil)) aNil)))) (eL (lLst (aCons (eTup (aCons (eC (.int 0)) (aCons (eC (.int 2)) (aCons (eC (.int 1)) aNil)))) (aCons (eTup (aCons (eC (.int 1)) (aCons (eC (.int 0)) (aCons (eC (.int 2)) aNil)))) aNil))))))) (sRet (eC (.bl false))) sNil)
  (sSeq (sSet 1 (eL (lLst (aCons (eTup (aCons (eC (.int 0)) (aCons (eC (.int 1)) (aCons (eC (.int 2)) aNil)))) aNil))))
  (sSeq (sIf (mOr (tstM (eCB m_lasts (aCons (eVar 0) (aCons (eC (.int 1)) (aCons (eVar 1) aNil))))) (mOr (tstM (eOp neF (eCB m_most_on (aCons (eVar 0) (aCons (eC (.int 1)) (aCons (eVar 1) aNil)))) (eC (.int 0)))) (tstM (eOp neF (eCB m_take_back (aCons (eVar 0) (aCons (eC (.int 1)) (aCons (eVar 1) aNil)))) (eC (.int 1)))))) (sRet (eC (.bl false))) sNil)
  (sSeq (sIf (tstM (eOp neF (eCB m_next_pairs (aCons (eVar 0) (aCons (eC (.int 1)) (aCons (eL (lLst aNil)) aNil)))) (eL (lLst (aCons (eTup (aCons (eC (.int 0)) (aCons (eC (.int 0)) aNil))) (aCons (eTup (aCons (eC (.int 0)) (aCons (eC (.int 1)) aNil))) (aCons (eTup (aCons (eC (.int 1)) (aCons (eC (.int 0)) aNil))) (aCons (eTup (aCons (eC (.int 1)) (aCons (eC (.int 2)) aNil))) (aCons (eTup (aCons (eC (.int 2)) (aCons (eC (.int 1)) aNil))) (aCons (eTup (aCons (eC (.int 2)) (aCons (eC (.int 2)) aNil))) aNil)))))))))) (sRet (eC (.bl false))) sNil)
  (sSeq (sSet 2 (eCB m_fewest_meets (aCons (eVar 0) (aCons (eC (.int 1)) (aCons (eVar 1) aNil)))))
  (sSeq (sIf (mOr (tstM (eOp niF (eVar 2) (eTup (aCons (eTup (aCons (eTup (aCons (eC (.int 0)) (aCons (eC (.int 2)) aNil))) aNil)) (aCons (eTup (aCons (eTup (aCons (eC (.int 2)) (aCons (eC (.int 0)) aNil))) aNil)) aNil))))) (tstM (eOp neF (eCB m_shown_by (aCons (eVar 0) (aCons (eC (.int 1)) (aCons (eVar 1) (aCons (eCB m_prices (aCons (eVar 0) (aCons (eC (.int 1)) (aCons (eVar 1) aNil)))) aNil))))) (eC (.int 1))))) (sRet (eC (.bl false))) sNil)
  (sRet (eAnd (eOp eqF (eCB m_going_on (aCons (eVar 0) (aCons (eC (.int 1)) (aCons (eL (lLst (aCons (eTup (aCons (eC (.int 1)) (aCons (eC (.int 0)) (aCons (eC (.int 2)) aNil)))) aNil))) aNil)))) (eTup (aCons (eC (.str "round")) (aCons (eL (lLst (aCons (eTup (aCons (eC (.int 0)) (aCons (eC (.int 2)) (aCons (eC (.int 1)) aNil)))) aNil))) aNil)))) (eCB m_lasts (aCons (eVar 0) (aCons (eC (.int 0)) (aCons (eVar 1) aNil)))))))))))))
def m__law_spoilt_right : List D → Option D := runB 3 f__law_spoilt_right
theorem sc__law_spoilt_right : FnScope ["floor", "spoilt", "told"] [] (defScope (top 66)) := ⟨rfl, rfl, rfl, by decide +kernel, rfl, by decide +kernel, by decide +kernel⟩
theorem ok__law_spoilt_right {f : Addr} {fd : FuncData} (F : FunD K "_law_spoilt_right" "_law_spoilt_right" (defArgs (top 66)) (defBody (top 66)) (defScope (top 66)) [] [] f fd) (g : mg "_law_spoilt_right" = some (.ref f)) (B : Bi mg) (I : Gi mg) (h_lasts : Has P w K mg base 6 "lasts" 3 m_lasts) (h_most_on : Has P w K mg base 6 "most_on" 3 m_most_on) (h_going_on : Has P w K mg base 6 "going_on" 3 m_going_on) (h_most_memory : Has P w K mg base 5 "most_memory" 1 m_most_memory) (h_next_pairs : Has P w K mg base 6 "next_pairs" 3 m_next_pairs) (h_next_dances : Has P w K mg base 6 "next_dances" 3 m_next_dances) (h_take_back : Has P w K mg base 6 "take_back" 3 m_take_back) (h_fewest_meets : Has P w K mg base 6 "fewest_meets" 3 m_fewest_meets) (h_prices : Has P w K mg base 6 "prices" 3 m_prices) (h_shown_by : Has P w K mg base 6 "shown_by" 4 m_shown_by) : Has P w K mg base 7 "_law_spoilt_right" 0 m__law_spoilt_right :=
  has_mk F (fn_ok (k := 6) ["floor", "spoilt", "told"] f__law_spoilt_right 0 F sc__law_spoilt_right rfl fun cdv A outer s H E hr => ⟨_, (dss_cons (ds_set 0 sc__law_spoilt_right.nd (de_tup (da_cons de_int (da_cons (de_tup (da_cons (de_tup (da_cons de_int (da_cons de_int da_nil))) (da_cons (de_tup (da_cons de_int (da_cons de_int da_nil))) (da_cons (de_tup (da_cons de_int (da_cons de_int da_nil))) (da_cons (de_tup (da_cons de_int (da_cons de_int da_nil))) (da_cons (de_tup (da_cons de_int (da_cons de_int da_nil))) (da_cons (de_tup (da_cons de_int (da_cons de_int da_nil))) (da_cons (de_tup (da_cons de_int (da_cons de_int da_nil))) da_nil)))))))) da_nil))))
  (dss_cons (ds_if (DW.dt (dw_or (dt_cmp (op_neD (ru64 hr)) opd_ne (de_has h_most_memory hr (by rfl) (da_cons (dv 0) da_nil) (al_cons al_nil)) de_int) (dw_or1 (dt_cmp (op_neD (ru64 hr)) opd_ne (de_has h_next_dances hr (by rfl) (da_cons (dv 0) (da_cons de_int (da_cons (DL.de (dl_lst da_nil)) da_nil))) (al_cons (al_cons (al_cons al_nil)))) (DL.de (dl_lst (da_cons (de_tup (da_cons de_int (da_cons de_int (da_cons de_int da_nil)))) (da_cons (de_tup (da_cons de_int (da_cons de_int (da_cons de_int da_nil)))) da_nil)))))))) (dss_one (ds_ret de_bl)) dss_nil)
  (dss_cons (ds_set 1 sc__law_spoilt_right.nd (DL.de (dl_lst (da_cons (de_tup (da_cons de_int (da_cons de_int (da_cons de_int da_nil)))) da_nil))))
  (dss_cons (ds_if (DW.dt (dw_or (dt_val (de_has h_lasts hr (by rfl) (da_cons (dv 0) (da_cons de_int (da_cons (dv 1) da_nil))) (al_cons (al_cons (al_cons al_nil))))) (dw_or (dt_cmp (op_neD (ru64 hr)) opd_ne (de_has h_most_on hr (by rfl) (da_cons (dv 0) (da_cons de_int (da_cons (dv 1) da_nil))) (al_cons (al_cons (al_cons al_nil)))) de_int) (dw_or1 (dt_cmp (op_neD (ru64 hr)) opd_ne (de_has h_take_back hr (by rfl) (da_cons (dv 0) (da_cons de_int (da_cons (dv 1) da_nil))) (al_cons (al_cons (al_cons al_nil)))) de_int))))) (dss_one (ds_ret de_bl)) dss_nil)
  (dss_cons (ds_if (dt_cmp (op_neD (ru64 hr)) opd_ne (de_has h_next_pairs hr (by rfl) (da_cons (dv 0) (da_cons de_int (da_cons (DL.de (dl_lst da_nil)) da_nil))) (al_cons (al_cons (al_cons al_nil)))) (DL.de (dl_lst (da_cons (de_tup (da_cons de_int (da_cons de_int da_nil))) (da_cons (de_tup (da_cons de_int (da_cons de_int da_nil))) (da_cons (de_tup (da_cons de_int (da_cons de_int da_nil))) (da_cons (de_tup (da_cons de_int (da_cons de_int da_nil))) (da_cons (de_tup (da_cons de_int (da_cons de_int da_nil))) (da_cons (de_tup (da_cons de_int (da_cons de_int da_nil))) da_nil))))))))) (dss_one (ds_ret de_bl)) dss_nil)
  (dss_cons (ds_set 2 sc__law_spoilt_right.nd (de_has h_fewest_meets hr (by rfl) (da_cons (dv 0) (da_cons de_int (da_cons (dv 1) da_nil))) (al_cons (al_cons (al_cons al_nil)))))
  (dss_cons (ds_if (DW.dt (dw_or (dt_cmp (op_NI hr) opd_ni (dv 2) (de_tup (da_cons (de_tup (da_cons (de_tup (da_cons de_int (da_cons de_int da_nil))) da_nil)) (da_cons (de_tup (da_cons (de_tup (da_cons de_int (da_cons de_int da_nil))) da_nil)) da_nil)))) (dw_or1 (dt_cmp (op_neD (ru64 hr)) opd_ne (de_has h_shown_by hr (by rfl) (da_cons (dv 0) (da_cons de_int (da_cons (dv 1) (da_cons (de_has h_prices hr (by rfl) (da_cons (dv 0) (da_cons de_int (da_cons (dv 1) da_nil))) (al_cons (al_cons (al_cons al_nil)))) da_nil)))) (al_cons (al_cons (al_cons (al_cons al_nil))))) de_int)))) (dss_one (ds_ret de_bl)) dss_nil)
  (dss_one (ds_ret (de_and (de_cmp (op_eqD (ru64 hr)) opd_eq (de_has h_going_on hr (by rfl) (da_cons (dv 0) (da_cons de_int (da_cons (DL.de (dl_lst (da_cons (de_tup (da_cons de_int (da_cons de_int (da_cons de_int da_nil)))) da_nil))) da_nil))) (al_cons (al_cons (al_cons al_nil)))) (de_tup (da_cons de_str (da_cons (DL.de (dl_lst (da_cons (de_tup (da_cons de_int (da_cons de_int (da_cons de_int da_nil)))) da_nil))) da_nil)))) (de_one (de_has h_lasts hr (by rfl) (da_cons (dv 0) (da_cons de_int (da_cons (dv 1) da_nil))) (al_cons (al_cons (al_cons al_nil)))))))))))))))⟩) g (F.bindsN fun _ _ _ _ _ _ us hl => match us, hl with | [], _ => rfl)
/-! law -/
def b_law : SM := (sSeq (sSetL 2 (lCB m__law_deck (aCons (eVar 1) (aCons (eC (.int 13)) aNil))))
  (sSeq (sIf (mOr (mNot (tstM (eCB m__law_all_right (aCons (eOp addF (eC (.int 1)) (eCallO 2 m__law_pick (aCons (eC (.int 6)) aNil))) aNil)))) (mNot (tstM (eCB m__law_spoilt_right aNil)))) (sRet (eC (.bl false))) sNil)
  (sSeq (sSet 3 (eTup (aCons (eC (.int 2)) (aCons (eTup (aCons (eTup (aCons (eC (.int 0)) (aCons (eC (.int 0)) aNil))) (aCons (eTup (aCons (eC (.int 1)) (aCons (eC (.int 1)) aNil))) aNil))) aNil))))
  (sSeq (sIf (mOr (tstM (eOp neF (eCB m_most_memory (aCons (eVar 3) aNil)) (eC (.int 0)))) (mOr (tstM (eOp neF (eCB m_most_on (aCons (eVar 3) (aCons (eC (.int 1)) (aCons (eL (lLst aNil)) aNil)))) (eC (.int 1)))) (tstM (eOp neF (eCB m_most_on (aCons (eVar 3) (aCons (eC (.int 1)) (aCons (eL (lLst (aCons (eTup (aCons (eC (.int 0)) (aCons (eC (.int 1)) aNil))) aNil))) aNil)))) (eC (.int 0)))))) (sRet (eC (.bl false))) sNil)
  (sSeq (sIf (mOr (tstM (eOp neF (eCB m_fewest_meets (aCons (eVar 3) (aCons (eC (.int 1)) (aCons (eL (lLst aNil)) aNil)))) (eTup (aCons (eTup (aCons (eC (.int 0)) (aCons (eC (.int 1)) aNil))) (aCons (eTup (aCons (eC (.int 1)) (aCons (eC (.int 0)) aNil))) aNil))))) (tstM (eOp notNF (eCB m_most_memory (aCons (eTup (aCons (eC (.int 2)) (aCons (eTup (aCons (eTup (aCons (eC (.int 0)) (aCons (eC (.int 0)) aNil))) aNil)) aNil))) aNil)) (eC .non)))) (sRet (eC (.bl false))) sNil)
  (sSeq (sIf (tstM (eOp notBF (eCB m_shows_end (aCons (eVar 3) (aCons (eC (.int 1)) (aCons (eL (lLst (aCons (eTup (aCons (eC (.int 0)) (aCons (eC (.int 1)) aNil))) aNil))) (aCons (eC (.int 1)) (aCons (eTup (aCons (eTup (aCons (eC (.int 0)) aNil)) (aCons (eTup aNil) aNil))) aNil)))))) (eC (.bl true)))) (sRet (eC (.bl false))) sNil)
  (sSeq (sSet 4 (eTup (aCons (eC (.int 3)) (aCons (eTup (aCons (eTup (aCons (eC (.int 0)) (aCons (eC (.int 0)) aNil))) (aCons (eTup (aCons (eC (.int 1)) (aCons (eC (.int 0)) aNil))) (aCons (eTup (aCons (eC (.int 2)) (aCons (eC (.int 1)) aNil))) (aCons (eTup (aCons (eC (.int 2)) (aCons (eC (.int 2)) aNil))) aNil))))) aNil))))
  (sSeq (sIf (mOr (tstM (eOp notNF (eCB m_most_memory (aCons (eVar 4) aNil)) (eC .non))) (tstM (eOp notBF (eCB m_shows_end (aCons (eVar 4) (aCons (eC (.int 0)) (aCons (eL (lLst aNil)) (aCons (eC (.int 1)) (aCons (eTup (aCons (eTup (aCons (eC (.int 0)) (aCons (eC (.int 1)) aNil))) (aCons (eTup (aCons (eC (.int 0)) aNil)) aNil))) aNil)))))) (eC (.bl true))))) (sRet (eC (.bl false))) sNil)
  (sIf (mOr (tstM (eOp neF (eCB lenF (aCons (eCB m_fewest_meets (aCons (eVar 4) (aCons (eC (.int 0)) (aCons (eL (lLst aNil)) aNil)))) aNil)) (eC (.int 1)))) (tstM (eOp notBF (eCB m_are_meets (aCons (eVar 4) (aCons (eC (.int 0)) (aCons (eL (lLst aNil)) (aCons (eTup (aCons (eTup (aCons (eC (.int 0)) (aCons (eC (.int 1)) aNil))) aNil)) aNil))))) (eC (.bl true))))) (sRet (eC (.bl false))) sNil)))))))))
theorem sc_law : FnScope ["script", "cell", "deck", "couples", "lone"] ["script"] (defScope (top 67)) := ⟨rfl, rfl, rfl, by decide +kernel, rfl, by decide +kernel, by decide +kernel⟩
theorem ok_law {f : Addr} {fd : FuncData} (F : FunD K "law" "law" (defArgs (top 67)) (defBody (top 67)) (defScope (top 67)) [] [] f fd) (B : Bi mg) (I : Gi mg) (h_most_on : Has P w K mg base 6 "most_on" 3 m_most_on) (h_shows_end : Has P w K mg base 6 "shows_end" 5 m_shows_end) (h_most_memory : Has P w K mg base 5 "most_memory" 1 m_most_memory) (h_fewest_meets : Has P w K mg base 6 "fewest_meets" 3 m_fewest_meets) (h_are_meets : Has P w K mg base 6 "are_meets" 4 m_are_meets) (h__law_deck : HasL P w K mg base 1 "_law_deck" 2 m__law_deck) (h__law_pick : HasO P w K mg base 1 "_law_pick" 1 m__law_pick) (h__law_all_right : Has P w K mg base 7 "_law_all_right" 1 m__law_all_right) (h__law_spoilt_right : Has P w K mg base 7 "_law_spoilt_right" 0 m__law_spoilt_right) (hl : ∀ ns : List Int, ∃ ρ2 μ2, forRun (mName 1) b_law (cutD ((0 :: ns).map D.int) none (some 4)) (none :: List.replicate 4 none) [] = some (.nx ρ2 μ2)) : FnOk P w K mg base CX0 8 f fd ["script"] spScr :=
  fn_scr (k := 7) ["script", "cell", "deck", "couples", "lone"] 4 rfl 4 F sc_law hl fun cdv A outer s H E hr => scr_body .never rfl rfl (by first | exact Or.inl rfl | exact Or.inr (Or.inl rfl) | exact Or.inr (Or.inr rfl)) (dg_name 1 sc_law.nd) (dss_cons (ds_setL 2 sc_law.nd (dl_hasL h__law_deck hr (by rfl) (da_cons (dv 1) (da_cons de_int da_nil)) (al_cons (al_cons al_nil))))
  (dss_cons (ds_if (DW.dt (dw_or (dt_not (dt_val (de_has h__law_all_right hr (by rfl) (da_cons (de_op op_ADD opd_add de_int (de_hasO 2 h__law_pick hr (by rfl) (da_cons de_int da_nil) (al_cons al_nil))) da_nil) (al_cons al_nil)))) (dw_or1 (dt_not (dt_val (de_has0 h__law_spoilt_right hr (by rfl))))))) (dss_one (ds_ret de_bl)) dss_nil)
  (dss_cons (ds_set 3 sc_law.nd (de_tup (da_cons de_int (da_cons (de_tup (da_cons (de_tup (da_cons de_int (da_cons de_int da_nil))) (da_cons (de_tup (da_cons de_int (da_cons de_int da_nil))) da_nil))) da_nil))))
  (dss_cons (ds_if (DW.dt (dw_or (dt_cmp (op_neD (ru64 hr)) opd_ne (de_has h_most_memory hr (by rfl) (da_cons (dv 3) da_nil) (al_cons al_nil)) de_int) (dw_or (dt_cmp (op_neD (ru64 hr)) opd_ne (de_has h_most_on hr (by rfl) (da_cons (dv 3) (da_cons de_int (da_cons (DL.de (dl_lst da_nil)) da_nil))) (al_cons (al_cons (al_cons al_nil)))) de_int) (dw_or1 (dt_cmp (op_neD (ru64 hr)) opd_ne (de_has h_most_on hr (by rfl) (da_cons (dv 3) (da_cons de_int (da_cons (DL.de (dl_lst (da_cons (de_tup (da_cons de_int (da_cons de_int da_nil))) da_nil))) da_nil))) (al_cons (al_cons (al_cons al_nil)))) de_int))))) (dss_one (ds_ret de_bl)) dss_nil)
  (dss_cons (ds_if (DW.dt (dw_or (dt_cmp (op_neD (ru64 hr)) opd_ne (de_has h_fewest_meets hr (by rfl) (da_cons (dv 3) (da_cons de_int (da_cons (DL.de (dl_lst da_nil)) da_nil))) (al_cons (al_cons (al_cons al_nil)))) (de_tup (da_cons (de_tup (da_cons de_int (da_cons de_int da_nil))) (da_cons (de_tup (da_cons de_int (da_cons de_int da_nil))) da_nil)))) (dw_or1 (dt_cmp op_notN opd_notN (de_has h_most_memory hr (by rfl) (da_cons (de_tup (da_cons de_int (da_cons (de_tup (da_cons (de_tup (da_cons de_int (da_cons de_int da_nil))) da_nil)) da_nil))) da_nil) (al_cons al_nil)) de_non)))) (dss_one (ds_ret de_bl)) dss_nil)
  (dss_cons (ds_if (dt_cmp op_notBl opd_notB (de_has h_shows_end hr (by rfl) (da_cons (dv 3) (da_cons de_int (da_cons (DL.de (dl_lst (da_cons (de_tup (da_cons de_int (da_cons de_int da_nil))) da_nil))) (da_cons de_int (da_cons (de_tup (da_cons (de_tup (da_cons de_int da_nil)) (da_cons (de_tup da_nil) da_nil))) da_nil))))) (al_cons (al_cons (al_cons (al_cons (al_cons al_nil)))))) de_bl) (dss_one (ds_ret de_bl)) dss_nil)
  (dss_cons (ds_set 4 sc_law.nd (de_tup (da_cons de_int (da_cons (de_tup (da_cons (de_tup (da_cons de_int (da_cons de_int da_nil))) (da_cons (de_tup (da_cons de_int (da_cons de_int da_nil))) (da_cons (de_tup (da_cons de_int (da_cons de_int da_nil))) (da_cons (de_tup (da_cons de_int (da_cons de_int da_nil))) da_nil))))) da_nil))))
  (dss_cons (ds_if (DW.dt (dw_or (dt_cmp op_notN opd_notN (de_has h_most_memory hr (by rfl) (da_cons (dv 4) da_nil) (al_cons al_nil)) de_non) (dw_or1 (dt_cmp op_notBl opd_notB (de_has h_shows_end hr (by rfl) (da_cons (dv 4) (da_cons de_int (da_cons (DL.de (dl_lst da_nil)) (da_cons de_int (da_cons (de_tup (da_cons (de_tup (da_cons de_int (da_cons de_int da_nil))) (da_cons (de_tup (da_cons de_int da_nil)) da_nil))) da_nil))))) (al_cons (al_cons (al_cons (al_cons (al_cons al_nil)))))) de_bl)))) (dss_one (ds_ret de_bl)) dss_nil)
  (dss_one (ds_if (DW.dt (dw_or (dt_cmp (op_neD (ru64 hr)) opd_ne (de_cb call_len_seq cd_len (by rfl) B.b_len (by rfl) (da_cons (de_has h_fewest_meets hr (by rfl) (da_cons (dv 4) (da_cons de_int (da_cons (DL.de (dl_lst da_nil)) da_nil))) (al_cons (al_cons (al_cons al_nil)))) da_nil)) de_int) (dw_or1 (dt_cmp op_notBl opd_notB (de_has h_are_meets hr (by rfl) (da_cons (dv 4) (da_cons de_int (da_cons (DL.de (dl_lst da_nil)) (da_cons (de_tup (da_cons (de_tup (da_cons de_int (da_cons de_int da_nil))) da_nil)) da_nil)))) (al_cons (al_cons (al_cons (al_cons al_nil))))) de_bl)))) (dss_one (ds_ret de_bl)) dss_nil))))))))))
end
end FP
end
section
/-! k13: the law over the plain mirrors -/
namespace FP
open PySem PySem.Spec PyProof.Rows L2 VS
theorem fm {a b : Int} (h : 0 < b) : 0 ≤ a.fmod b ∧ a.fmod b < b := by
  rw [Int.fmod_eq_emod_of_nonneg _ (Int.le_of_lt h)]
  exact ⟨Int.emod_nonneg _ (Int.ne_of_gt h), Int.emod_lt_of_pos _ h⟩
theorem deck_ok (c : Int) : ∃ a : Int, m__law_deck [.int c, .int 13] = some [.int a, .int (c.fmod 2147483579), .int 13] := by
  unfold m__law_deck runL f__law_deck
  show ∃ a : Int, ((sSeq _ _) [some (.int c), some (.int 13)] []).bind _ = _
  have ht : (tstM (eOp (ltI fun i j => decide (j ≤ i)) (eVar 0) (eOp powF (eC (.int 10)) (eC (.int 18))))) [some (.int c), some (.int 13)] [] = some (decide (1000000000000000000 ≤ c), []) := tst_eq (eOp_eq (z := .bl (decide (1000000000000000000 ≤ c))) (e := .int 1000000000000000000) rfl rfl rfl)
  cases hd : decide (1000000000000000000 ≤ c) with
  | true =>
    rw [hd] at ht
    refine ⟨c - 1000000000000000000, ?_⟩
    rw [sSeq_rl ((sIf_t ht).trans (rfl : _ = some (Out.rl [.int (c - 1000000000000000000), .int (c.fmod 2147483579), .int 13] [])))]
    rfl
  | false =>
    rw [hd] at ht
    refine ⟨0, ?_⟩
    rw [sSeq_nx ((sIf_f ht).trans (rfl : _ = some (Out.nx [some (.int c), some (.int 13)] [])))]
    rfl
theorem pick_ok (a b : Int) (h0 : 0 ≤ b) (h1 : b < 2147483579) : ∃ r ys, m__law_pick [.int a, .int b, .int 13] [.int 6] = some (.int r, ys) ∧ 0 ≤ r ∧ r < 6 := by
  unfold m__law_pick runO f__law_pick
  show ∃ r ys, ((sSeq _ _) [none, some (.int 6), none, none] [(0, .lst [.int a, .int b, .int 13])]).bind _ = _ ∧ _
  have ht : (mBor [0] (tstM (eOp (ltI fun i j => decide (j < i)) (eOp ixF (eVar 0) (eC (.int 0))) (eC (.int 1))))) [none, some (.int 6), none, none] [(0, .lst [.int a, .int b, .int 13])] = some (decide (1 < a), [(0, .lst [.int a, .int b, .int 13])]) :=
    mBor_eq (ρ2 := [some (.lst [.int a, .int b, .int 13]), some (.int 6), none, none]) rfl (tst_eq (eOp_eq (d := .int a) (e := .int 1) rfl rfl rfl))
  cases hd : decide (1 < a) with
  | true =>
    rw [hd] at ht
    refine ⟨a.fmod 6, [.int (a.fdiv 6), .int b, .int 13], ?_, (fm (by decide)).1, (fm (by decide)).2⟩
    rw [sSeq_rt ((sIf_t ht).trans (rfl : _ = some (Out.rt (.int (a.fmod 6)) [(0, .lst [.int (a.fdiv 6), .int b, .int 13])])))]
    rfl
  | false =>
    rw [hd] at ht
    have hn : 0 ≤ ((b + 216802138) ^ 5).fmod 2147483647 ∧ ((b + 216802138) ^ 5).fmod 2147483647 < 2147483647 := ⟨(fm (by decide)).1, (fm (by decide)).2⟩
    have e5 : powF (.int (b + 216802138)) (.int 5) = some (.int ((b + 216802138) ^ 5)) := powF_ok (k := 5) (by omega) (by decide)
    generalize hN : ((b + 216802138) ^ 5).fmod 2147483647 = N at hn
    have e3 : powF (.int (N + 110866)) (.int 3) = some (.int ((N + 110866) ^ 3)) := powF_ok (k := 3) (by omega) (by decide)
    generalize hM : (N + 110866) ^ 3 = M at e3
    refine ⟨((M.fmod 2147483629).fdiv 32).fmod 6, [.int a, .int b, .int 14], ?_, (fm (by decide)).1, (fm (by decide)).2⟩
    rw [sSeq_nx ((sIf_f ht).trans (rfl : _ = some (Out.nx [none, some (.int 6), none, none] [(0, .lst [.int a, .int b, .int 13])])))]
    rw [sSeq_nx (rfl : _ = some (Out.nx [none, some (.int 6), none, none] [(0, .lst [.int a, .int b, .int 14])]))]
    rw [sSeq_nx (sSet_eq (d := .int N) (eBor_eq (ρ2 := [some (.lst [.int a, .int b, .int 14]), some (.int 6), none, none]) rfl (eOp_eq (eOp_eq (d := .int (b + 216802138)) (e := .int 5) rfl rfl e5) (e := .int 2147483647) rfl (by show some (D.int _) = _; rw [hN])) rfl))]
    rw [sSeq_nx (sSet_eq (d := .int ((M.fmod 2147483629).fdiv 32)) (eBor_eq (ρ2 := [some (.lst [.int a, .int b, .int 14]), some (.int 6), none, some (.int N)]) rfl (eOp_eq (eOp_eq (eOp_eq (d := .int (N + 110866)) (e := .int 3) rfl rfl e3) (e := .int 2147483629) rfl rfl) (e := .int 32) rfl rfl) rfl))]
    rfl

theorem sp_ok : m__law_spoilt_right [] = some (.bl true) := by kernel_rfl
theorem mAnd_f2 {τ υ : TM} {ρ : Rho} {μ μ2 : Mem} {b : Bool} (h : τ ρ μ = some (false, μ2)) : mAnd τ υ ρ μ = some (false, μ2) := by
  unfold mAnd
  rw [h]
  rfl
def F_1 : D := .tup [.int 1, .tup [.tup [.int 0, .int 0]]]
def Rw_1 : D := .lst [.tup [.int 0]]
def RR_1 : D := .lst [.tup [.int 0], .tup [.int 0]]
theorem kn_1 : m__law_all_know [.int 1] = some F_1 := by kernel_rfl
theorem ca_1 : m_most_memory [F_1] = some (.int 0) := by kernel_rfl
theorem cb_1 : m_memory_of [F_1, RR_1] = some (.int 0) := by kernel_rfl
theorem cc_1 : m_lasts [F_1, .int 0, Rw_1] = some (.bl true) := by kernel_rfl
theorem cd_1 : m_next_dances [F_1, .int 0, Rw_1] = some (.lst [.tup [.int 0]]) := by kernel_rfl
theorem ce_1 : m_most_on [F_1, .int 1, .lst []] = some (.int 1) := by kernel_rfl
theorem cf_1 : m_fewest_meets [F_1, .int 1, .lst []] = some .non := by kernel_rfl
theorem cg_1 : m_shows_end [F_1, .int 1, .lst [], .int 2, .tup [.tup [.int 0], .tup []]] = some (.bl true) := by kernel_rfl
theorem al_1 : m__law_all_right [.int 1] = some (.bl true) := by
  unfold m__law_all_right runB f__law_all_right
  show (sSeq _ _ [some (.int 1), none, none, none, none] []).bind _ = _
  rw [sSeq_nx (ρ2 := [some (.int 1), some F_1, none, none, none]) (μ2 := []) ((sSet_eq (eCB_eq (ds := [.int 1]) (μ2 := []) rfl kn_1)).trans rfl)]
  rw [sSeq_nx (ρ2 := [some (.int 1), some F_1, some Rw_1, none, none]) (μ2 := []) (by kernel_rfl)]
  rw [sSeq_nx (ρ2 := [some (.int 1), some F_1, some Rw_1, none, none]) (μ2 := []) ((sIf_f ((mOr_f (tst_eq (eOp_eq (e := .int 0) (eCB_eq (ds := [F_1]) (μ2 := []) rfl ca_1) rfl (by kernel_rfl)))).trans (tst_eq (eOp_eq (e := .int 0) (μ2 := []) (μ3 := []) (eCB_eq (ds := [F_1, RR_1]) (by kernel_rfl) cb_1) rfl (by kernel_rfl))))).trans rfl)]
  rw [sSeq_nx (ρ2 := [some (.int 1), some F_1, some Rw_1, none, none]) (μ2 := []) ((sIf_f ((mOr_f (mNot_eq (tst_eq (eCB_eq (ds := [F_1, .int 0, Rw_1]) (μ2 := []) rfl cc_1)))).trans (mAnd_f2 (b := false) (tst_eq (eOp_eq (d := .lst [.tup [.int 0]]) (e := .lst [.tup [.int 0]]) (μ2 := []) (μ3 := []) (eCB_eq (ds := [F_1, .int 0, Rw_1]) rfl cd_1) (by kernel_rfl) (by kernel_rfl)))))).trans rfl)]
  rw [sSeq_nx (ρ2 := [some (.int 1), some F_1, some Rw_1, none, none]) (μ2 := []) ((sIf_f ((mOr_f (tst_eq (eOp_eq (e := .int 1) (eCB_eq (ds := [F_1, .int 1, .lst []]) (μ2 := []) rfl ce_1) rfl (by kernel_rfl)))).trans (tst_eq (eOp_eq (e := .non) (μ2 := []) (μ3 := []) (eCB_eq (ds := [F_1, .int 1, .lst []]) rfl cf_1) rfl (by kernel_rfl))))).trans rfl)]
  rw [sRet_eq (d := .bl true) (μ2 := []) (eOp_eq (d := .bl true) (e := .bl true) (μ2 := []) (μ3 := []) (eCB_eq (ds := [F_1, .int 1, .lst [], .int 2, .tup [.tup [.int 0], .tup []]]) (by kernel_rfl) cg_1) rfl (by kernel_rfl))]
  rfl
def F_2 : D := .tup [.int 2, .tup [.tup [.int 0, .int 0], .tup [.int 0, .int 1], .tup [.int 1, .int 0], .tup [.int 1, .int 1]]]
def Rw_2 : D := .lst [.tup [.int 0, .int 1], .tup [.int 1, .int 0]]
def RR_2 : D := .lst [.tup [.int 0, .int 1], .tup [.int 1, .int 0], .tup [.int 0, .int 1], .tup [.int 1, .int 0]]
theorem kn_2 : m__law_all_know [.int 2] = some F_2 := by kernel_rfl
theorem ca_2 : m_most_memory [F_2] = some (.int 1) := by kernel_rfl
theorem cb_2 : m_memory_of [F_2, RR_2] = some (.int 1) := by kernel_rfl
theorem cc_2 : m_lasts [F_2, .int 1, Rw_2] = some (.bl true) := by kernel_rfl
theorem cd_2 : m_next_dances [F_2, .int 1, Rw_2] = some (.lst [.tup [.int 0, .int 1]]) := by kernel_rfl
theorem ce_2 : m_most_on [F_2, .int 2, .lst []] = some (.int 2) := by kernel_rfl
theorem cf_2 : m_fewest_meets [F_2, .int 2, .lst []] = some .non := by kernel_rfl
theorem cg_2 : m_shows_end [F_2, .int 2, .lst [], .int 3, .tup [.tup [.int 0, .int 1], .tup []]] = some (.bl true) := by kernel_rfl
theorem al_2 : m__law_all_right [.int 2] = some (.bl true) := by
  unfold m__law_all_right runB f__law_all_right
  show (sSeq _ _ [some (.int 2), none, none, none, none] []).bind _ = _
  rw [sSeq_nx (ρ2 := [some (.int 2), some F_2, none, none, none]) (μ2 := []) ((sSet_eq (eCB_eq (ds := [.int 2]) (μ2 := []) rfl kn_2)).trans rfl)]
  rw [sSeq_nx (ρ2 := [some (.int 2), some F_2, some Rw_2, none, none]) (μ2 := []) (by kernel_rfl)]
  rw [sSeq_nx (ρ2 := [some (.int 2), some F_2, some Rw_2, none, none]) (μ2 := []) ((sIf_f ((mOr_f (tst_eq (eOp_eq (e := .int 1) (eCB_eq (ds := [F_2]) (μ2 := []) rfl ca_2) rfl (by kernel_rfl)))).trans (tst_eq (eOp_eq (e := .int 1) (μ2 := []) (μ3 := []) (eCB_eq (ds := [F_2, RR_2]) (by kernel_rfl) cb_2) rfl (by kernel_rfl))))).trans rfl)]
  rw [sSeq_nx (ρ2 := [some (.int 2), some F_2, some Rw_2, none, none]) (μ2 := []) ((sIf_f ((mOr_f (mNot_eq (tst_eq (eCB_eq (ds := [F_2, .int 1, Rw_2]) (μ2 := []) rfl cc_2)))).trans (mAnd_f2 (b := false) (tst_eq (eOp_eq (d := .lst [.tup [.int 0, .int 1]]) (e := .lst [.tup [.int 0, .int 1]]) (μ2 := []) (μ3 := []) (eCB_eq (ds := [F_2, .int 1, Rw_2]) rfl cd_2) (by kernel_rfl) (by kernel_rfl)))))).trans rfl)]
  rw [sSeq_nx (ρ2 := [some (.int 2), some F_2, some Rw_2, none, none]) (μ2 := []) ((sIf_f ((mOr_f (tst_eq (eOp_eq (e := .int 2) (eCB_eq (ds := [F_2, .int 2, .lst []]) (μ2 := []) rfl ce_2) rfl (by kernel_rfl)))).trans (tst_eq (eOp_eq (e := .non) (μ2 := []) (μ3 := []) (eCB_eq (ds := [F_2, .int 2, .lst []]) rfl cf_2) rfl (by kernel_rfl))))).trans rfl)]
  rw [sRet_eq (d := .bl true) (μ2 := []) (eOp_eq (d := .bl true) (e := .bl true) (μ2 := []) (μ3 := []) (eCB_eq (ds := [F_2, .int 2, .lst [], .int 3, .tup [.tup [.int 0, .int 1], .tup []]]) (by kernel_rfl) cg_2) rfl (by kernel_rfl))]
  rfl
def F_3 : D := .tup [.int 3, .tup [.tup [.int 0, .int 0], .tup [.int 0, .int 1], .tup [.int 0, .int 2], .tup [.int 1, .int 0], .tup [.int 1, .int 1], .tup [.int 1, .int 2], .tup [.int 2, .int 0], .tup [.int 2, .int 1], .tup [.int 2, .int 2]]]
def Rw_3 : D := .lst [.tup [.int 0, .int 1, .int 2], .tup [.int 1, .int 2, .int 0], .tup [.int 2, .int 0, .int 1]]
def RR_3 : D := .lst [.tup [.int 0, .int 1, .int 2], .tup [.int 1, .int 2, .int 0], .tup [.int 2, .int 0, .int 1], .tup [.int 0, .int 1, .int 2], .tup [.int 1, .int 2, .int 0], .tup [.int 2, .int 0, .int 1]]
theorem kn_3 : m__law_all_know [.int 3] = some F_3 := by kernel_rfl
theorem ca_3 : m_most_memory [F_3] = some (.int 2) := by kernel_rfl
theorem cb_3 : m_memory_of [F_3, RR_3] = some (.int 2) := by kernel_rfl
theorem cc_3 : m_lasts [F_3, .int 2, Rw_3] = some (.bl true) := by kernel_rfl
theorem cd_3 : m_next_dances [F_3, .int 2, Rw_3] = some (.lst [.tup [.int 0, .int 1, .int 2]]) := by kernel_rfl
theorem ce_3 : m_most_on [F_3, .int 3, .lst []] = some (.int 3) := by kernel_rfl
theorem cf_3 : m_fewest_meets [F_3, .int 3, .lst []] = some .non := by kernel_rfl
theorem cg_3 : m_shows_end [F_3, .int 3, .lst [], .int 4, .tup [.tup [.int 0, .int 1, .int 2], .tup []]] = some (.bl true) := by kernel_rfl
theorem al_3 : m__law_all_right [.int 3] = some (.bl true) := by
  unfold m__law_all_right runB f__law_all_right
  show (sSeq _ _ [some (.int 3), none, none, none, none] []).bind _ = _
  rw [sSeq_nx (ρ2 := [some (.int 3), some F_3, none, none, none]) (μ2 := []) ((sSet_eq (eCB_eq (ds := [.int 3]) (μ2 := []) rfl kn_3)).trans rfl)]
  rw [sSeq_nx (ρ2 := [some (.int 3), some F_3, some Rw_3, none, none]) (μ2 := []) (by kernel_rfl)]
  rw [sSeq_nx (ρ2 := [some (.int 3), some F_3, some Rw_3, none, none]) (μ2 := []) ((sIf_f ((mOr_f (tst_eq (eOp_eq (e := .int 2) (eCB_eq (ds := [F_3]) (μ2 := []) rfl ca_3) rfl (by kernel_rfl)))).trans (tst_eq (eOp_eq (e := .int 2) (μ2 := []) (μ3 := []) (eCB_eq (ds := [F_3, RR_3]) (by kernel_rfl) cb_3) rfl (by kernel_rfl))))).trans rfl)]
  rw [sSeq_nx (ρ2 := [some (.int 3), some F_3, some Rw_3, none, none]) (μ2 := []) ((sIf_f ((mOr_f (mNot_eq (tst_eq (eCB_eq (ds := [F_3, .int 2, Rw_3]) (μ2 := []) rfl cc_3)))).trans (mAnd_f2 (b := false) (tst_eq (eOp_eq (d := .lst [.tup [.int 0, .int 1, .int 2]]) (e := .lst [.tup [.int 0, .int 1, .int 2]]) (μ2 := []) (μ3 := []) (eCB_eq (ds := [F_3, .int 2, Rw_3]) rfl cd_3) (by kernel_rfl) (by kernel_rfl)))))).trans rfl)]
  rw [sSeq_nx (ρ2 := [some (.int 3), some F_3, some Rw_3, none, none]) (μ2 := []) ((sIf_f ((mOr_f (tst_eq (eOp_eq (e := .int 3) (eCB_eq (ds := [F_3, .int 3, .lst []]) (μ2 := []) rfl ce_3) rfl (by kernel_rfl)))).trans (tst_eq (eOp_eq (e := .non) (μ2 := []) (μ3 := []) (eCB_eq (ds := [F_3, .int 3, .lst []]) rfl cf_3) rfl (by kernel_rfl))))).trans rfl)]
  rw [sRet_eq (d := .bl true) (μ2 := []) (eOp_eq (d := .bl true) (e := .bl true) (μ2 := []) (μ3 := []) (eCB_eq (ds := [F_3, .int 3, .lst [], .int 4, .tup [.tup [.int 0, .int 1, .int 2], .tup []]]) (by kernel_rfl) cg_3) rfl (by kernel_rfl))]
  rfl
def F_4 : D := .tup [.int 4, .tup [.tup [.int 0, .int 0], .tup [.int 0, .int 1], .tup [.int 0, .int 2], .tup [.int 0, .int 3], .tup [.int 1, .int 0], .tup [.int 1, .int 1], .tup [.int 1, .int 2], .tup [.int 1, .int 3], .tup [.int 2, .int 0], .tup [.int 2, .int 1], .tup [.int 2, .int 2], .tup [.int 2, .int 3], .tup [.int 3, .int 0], .tup [.int 3, .int 1], .tup [.int 3, .int 2], .tup [.int 3, .int 3]]]
def Rw_4 : D := .lst [.tup [.int 0, .int 1, .int 2, .int 3], .tup [.int 1, .int 2, .int 3, .int 0], .tup [.int 2, .int 3, .int 0, .int 1], .tup [.int 3, .int 0, .int 1, .int 2]]
def RR_4 : D := .lst [.tup [.int 0, .int 1, .int 2, .int 3], .tup [.int 1, .int 2, .int 3, .int 0], .tup [.int 2, .int 3, .int 0, .int 1], .tup [.int 3, .int 0, .int 1, .int 2], .tup [.int 0, .int 1, .int 2, .int 3], .tup [.int 1, .int 2, .int 3, .int 0], .tup [.int 2, .int 3, .int 0, .int 1], .tup [.int 3, .int 0, .int 1, .int 2]]
theorem kn_4 : m__law_all_know [.int 4] = some F_4 := by kernel_rfl
theorem ca_4 : m_most_memory [F_4] = some (.int 3) := by kernel_rfl
theorem cb_4 : m_memory_of [F_4, RR_4] = some (.int 3) := by kernel_rfl
theorem cc_4 : m_lasts [F_4, .int 3, Rw_4] = some (.bl true) := by kernel_rfl
theorem cd_4 : m_next_dances [F_4, .int 3, Rw_4] = some (.lst [.tup [.int 0, .int 1, .int 2, .int 3]]) := by kernel_rfl
theorem ce_4 : m_most_on [F_4, .int 4, .lst []] = some (.int 4) := by kernel_rfl
theorem cf_4 : m_fewest_meets [F_4, .int 4, .lst []] = some .non := by kernel_rfl
theorem cg_4 : m_shows_end [F_4, .int 4, .lst [], .int 5, .tup [.tup [.int 0, .int 1, .int 2, .int 3], .tup []]] = some (.bl true) := by kernel_rfl
theorem al_4 : m__law_all_right [.int 4] = some (.bl true) := by
  unfold m__law_all_right runB f__law_all_right
  show (sSeq _ _ [some (.int 4), none, none, none, none] []).bind _ = _
  rw [sSeq_nx (ρ2 := [some (.int 4), some F_4, none, none, none]) (μ2 := []) ((sSet_eq (eCB_eq (ds := [.int 4]) (μ2 := []) rfl kn_4)).trans rfl)]
  rw [sSeq_nx (ρ2 := [some (.int 4), some F_4, some Rw_4, none, none]) (μ2 := []) (by kernel_rfl)]
  rw [sSeq_nx (ρ2 := [some (.int 4), some F_4, some Rw_4, none, none]) (μ2 := []) ((sIf_f ((mOr_f (tst_eq (eOp_eq (e := .int 3) (eCB_eq (ds := [F_4]) (μ2 := []) rfl ca_4) rfl (by kernel_rfl)))).trans (tst_eq (eOp_eq (e := .int 3) (μ2 := []) (μ3 := []) (eCB_eq (ds := [F_4, RR_4]) (by kernel_rfl) cb_4) rfl (by kernel_rfl))))).trans rfl)]
  rw [sSeq_nx (ρ2 := [some (.int 4), some F_4, some Rw_4, none, none]) (μ2 := []) ((sIf_f ((mOr_f (mNot_eq (tst_eq (eCB_eq (ds := [F_4, .int 3, Rw_4]) (μ2 := []) rfl cc_4)))).trans (mAnd_f2 (b := false) (tst_eq (eOp_eq (d := .lst [.tup [.int 0, .int 1, .int 2, .int 3]]) (e := .lst [.tup [.int 0, .int 1, .int 2, .int 3]]) (μ2 := []) (μ3 := []) (eCB_eq (ds := [F_4, .int 3, Rw_4]) rfl cd_4) (by kernel_rfl) (by kernel_rfl)))))).trans rfl)]
  rw [sSeq_nx (ρ2 := [some (.int 4), some F_4, some Rw_4, none, none]) (μ2 := []) ((sIf_f ((mOr_f (tst_eq (eOp_eq (e := .int 4) (eCB_eq (ds := [F_4, .int 4, .lst []]) (μ2 := []) rfl ce_4) rfl (by kernel_rfl)))).trans (tst_eq (eOp_eq (e := .non) (μ2 := []) (μ3 := []) (eCB_eq (ds := [F_4, .int 4, .lst []]) rfl cf_4) rfl (by kernel_rfl))))).trans rfl)]
  rw [sRet_eq (d := .bl true) (μ2 := []) (eOp_eq (d := .bl true) (e := .bl true) (μ2 := []) (μ3 := []) (eCB_eq (ds := [F_4, .int 4, .lst [], .int 5, .tup [.tup [.int 0, .int 1, .int 2, .int 3], .tup []]]) (by kernel_rfl) cg_4) rfl (by kernel_rfl))]
  rfl
def F_5 : D := .tup [.int 5, .tup [.tup [.int 0, .int 0], .tup [.int 0, .int 1], .tup [.int 0, .int 2], .tup [.int 0, .int 3], .tup [.int 0, .int 4], .tup [.int 1, .int 0], .tup [.int 1, .int 1], .tup [.int 1, .int 2], .tup [.int 1, .int 3], .tup [.int 1, .int 4], .tup [.int 2, .int 0], .tup [.int 2, .int 1], .tup [.int 2, .int 2], .tup [.int 2, .int 3], .tup [.int 2, .int 4], .tup [.int 3, .int 0], .tup [.int 3, .int 1], .tup [.int 3, .int 2], .tup [.int 3, .int 3], .tup [.int 3, .int 4], .tup [.int 4, .int 0], .tup [.int 4, .int 1], .tup [.int 4, .int 2], .tup [.int 4, .int 3], .tup [.int 4, .int 4]]]
def Rw_5 : D := .lst [.tup [.int 0, .int 1, .int 2, .int 3, .int 4], .tup [.int 1, .int 2, .int 3, .int 4, .int 0], .tup [.int 2, .int 3, .int 4, .int 0, .int 1], .tup [.int 3, .int 4, .int 0, .int 1, .int 2], .tup [.int 4, .int 0, .int 1, .int 2, .int 3]]
def RR_5 : D := .lst [.tup [.int 0, .int 1, .int 2, .int 3, .int 4], .tup [.int 1, .int 2, .int 3, .int 4, .int 0], .tup [.int 2, .int 3, .int 4, .int 0, .int 1], .tup [.int 3, .int 4, .int 0, .int 1, .int 2], .tup [.int 4, .int 0, .int 1, .int 2, .int 3], .tup [.int 0, .int 1, .int 2, .int 3, .int 4], .tup [.int 1, .int 2, .int 3, .int 4, .int 0], .tup [.int 2, .int 3, .int 4, .int 0, .int 1], .tup [.int 3, .int 4, .int 0, .int 1, .int 2], .tup [.int 4, .int 0, .int 1, .int 2, .int 3]]
theorem kn_5 : m__law_all_know [.int 5] = some F_5 := by kernel_rfl
theorem ca_5 : m_most_memory [F_5] = some (.int 4) := by kernel_rfl
theorem cb_5 : m_memory_of [F_5, RR_5] = some (.int 4) := by kernel_rfl
theorem cc_5 : m_lasts [F_5, .int 4, Rw_5] = some (.bl true) := by kernel_rfl
theorem cd_5 : m_next_dances [F_5, .int 4, Rw_5] = some (.lst [.tup [.int 0, .int 1, .int 2, .int 3, .int 4]]) := by kernel_rfl
theorem ce_5 : m_most_on [F_5, .int 5, .lst []] = some (.int 5) := by kernel_rfl
theorem cf_5 : m_fewest_meets [F_5, .int 5, .lst []] = some .non := by kernel_rfl
theorem cg_5 : m_shows_end [F_5, .int 5, .lst [], .int 6, .tup [.tup [.int 0, .int 1, .int 2, .int 3, .int 4], .tup []]] = some (.bl true) := by kernel_rfl
theorem al_5 : m__law_all_right [.int 5] = some (.bl true) := by
  unfold m__law_all_right runB f__law_all_right
  show (sSeq _ _ [some (.int 5), none, none, none, none] []).bind _ = _
  rw [sSeq_nx (ρ2 := [some (.int 5), some F_5, none, none, none]) (μ2 := []) ((sSet_eq (eCB_eq (ds := [.int 5]) (μ2 := []) rfl kn_5)).trans rfl)]
  rw [sSeq_nx (ρ2 := [some (.int 5), some F_5, some Rw_5, none, none]) (μ2 := []) (by kernel_rfl)]
  rw [sSeq_nx (ρ2 := [some (.int 5), some F_5, some Rw_5, none, none]) (μ2 := []) ((sIf_f ((mOr_f (tst_eq (eOp_eq (e := .int 4) (eCB_eq (ds := [F_5]) (μ2 := []) rfl ca_5) rfl (by kernel_rfl)))).trans (tst_eq (eOp_eq (e := .int 4) (μ2 := []) (μ3 := []) (eCB_eq (ds := [F_5, RR_5]) (by kernel_rfl) cb_5) rfl (by kernel_rfl))))).trans rfl)]
  rw [sSeq_nx (ρ2 := [some (.int 5), some F_5, some Rw_5, none, none]) (μ2 := []) ((sIf_f ((mOr_f (mNot_eq (tst_eq (eCB_eq (ds := [F_5, .int 4, Rw_5]) (μ2 := []) rfl cc_5)))).trans (mAnd_f2 (b := false) (tst_eq (eOp_eq (d := .lst [.tup [.int 0, .int 1, .int 2, .int 3, .int 4]]) (e := .lst [.tup [.int 0, .int 1, .int 2, .int 3, .int 4]]) (μ2 := []) (μ3 := []) (eCB_eq (ds := [F_5, .int 4, Rw_5]) rfl cd_5) (by kernel_rfl) (by kernel_rfl)))))).trans rfl)]
  rw [sSeq_nx (ρ2 := [some (.int 5), some F_5, some Rw_5, none, none]) (μ2 := []) ((sIf_f ((mOr_f (tst_eq (eOp_eq (e := .int 5) (eCB_eq (ds := [F_5, .int 5, .lst []]) (μ2 := []) rfl ce_5) rfl (by kernel_rfl)))).trans (tst_eq (eOp_eq (e := .non) (μ2 := []) (μ3 := []) (eCB_eq (ds := [F_5, .int 5, .lst []]) rfl cf_5) rfl (by kernel_rfl))))).trans rfl)]
  rw [sRet_eq (d := .bl true) (μ2 := []) (eOp_eq (d := .bl true) (e := .bl true) (μ2 := []) (μ3 := []) (eCB_eq (ds := [F_5, .int 5, .lst [], .int 6, .tup [.tup [.int 0, .int 1, .int 2, .int 3, .int 4], .tup []]]) (by kernel_rfl) cg_5) rfl (by kernel_rfl))]
  rfl
def F_6 : D := .tup [.int 6, .tup [.tup [.int 0, .int 0], .tup [.int 0, .int 1], .tup [.int 0, .int 2], .tup [.int 0, .int 3], .tup [.int 0, .int 4], .tup [.int 0, .int 5], .tup [.int 1, .int 0], .tup [.int 1, .int 1], .tup [.int 1, .int 2], .tup [.int 1, .int 3], .tup [.int 1, .int 4], .tup [.int 1, .int 5], .tup [.int 2, .int 0], .tup [.int 2, .int 1], .tup [.int 2, .int 2], .tup [.int 2, .int 3], .tup [.int 2, .int 4], .tup [.int 2, .int 5], .tup [.int 3, .int 0], .tup [.int 3, .int 1], .tup [.int 3, .int 2], .tup [.int 3, .int 3], .tup [.int 3, .int 4], .tup [.int 3, .int 5], .tup [.int 4, .int 0], .tup [.int 4, .int 1], .tup [.int 4, .int 2], .tup [.int 4, .int 3], .tup [.int 4, .int 4], .tup [.int 4, .int 5], .tup [.int 5, .int 0], .tup [.int 5, .int 1], .tup [.int 5, .int 2], .tup [.int 5, .int 3], .tup [.int 5, .int 4], .tup [.int 5, .int 5]]]
def Rw_6 : D := .lst [.tup [.int 0, .int 1, .int 2, .int 3, .int 4, .int 5], .tup [.int 1, .int 2, .int 3, .int 4, .int 5, .int 0], .tup [.int 2, .int 3, .int 4, .int 5, .int 0, .int 1], .tup [.int 3, .int 4, .int 5, .int 0, .int 1, .int 2], .tup [.int 4, .int 5, .int 0, .int 1, .int 2, .int 3], .tup [.int 5, .int 0, .int 1, .int 2, .int 3, .int 4]]
def RR_6 : D := .lst [.tup [.int 0, .int 1, .int 2, .int 3, .int 4, .int 5], .tup [.int 1, .int 2, .int 3, .int 4, .int 5, .int 0], .tup [.int 2, .int 3, .int 4, .int 5, .int 0, .int 1], .tup [.int 3, .int 4, .int 5, .int 0, .int 1, .int 2], .tup [.int 4, .int 5, .int 0, .int 1, .int 2, .int 3], .tup [.int 5, .int 0, .int 1, .int 2, .int 3, .int 4], .tup [.int 0, .int 1, .int 2, .int 3, .int 4, .int 5], .tup [.int 1, .int 2, .int 3, .int 4, .int 5, .int 0], .tup [.int 2, .int 3, .int 4, .int 5, .int 0, .int 1], .tup [.int 3, .int 4, .int 5, .int 0, .int 1, .int 2], .tup [.int 4, .int 5, .int 0, .int 1, .int 2, .int 3], .tup [.int 5, .int 0, .int 1, .int 2, .int 3, .int 4]]
theorem kn_6 : m__law_all_know [.int 6] = some F_6 := by kernel_rfl
theorem ca_6 : m_most_memory [F_6] = some (.int 5) := by kernel_rfl
theorem cb_6 : m_memory_of [F_6, RR_6] = some (.int 5) := by kernel_rfl
theorem cc_6 : m_lasts [F_6, .int 5, Rw_6] = some (.bl true) := by kernel_rfl
theorem cd_6 : m_next_dances [F_6, .int 5, Rw_6] = some (.lst [.tup [.int 0, .int 1, .int 2, .int 3, .int 4, .int 5]]) := by kernel_rfl
theorem ce_6 : m_most_on [F_6, .int 6, .lst []] = some (.int 6) := by kernel_rfl
theorem cf_6 : m_fewest_meets [F_6, .int 6, .lst []] = some .non := by kernel_rfl
theorem cg_6 : m_shows_end [F_6, .int 6, .lst [], .int 7, .tup [.tup [.int 0, .int 1, .int 2, .int 3, .int 4, .int 5], .tup []]] = some (.bl true) := by kernel_rfl
theorem al_6 : m__law_all_right [.int 6] = some (.bl true) := by
  unfold m__law_all_right runB f__law_all_right
  show (sSeq _ _ [some (.int 6), none, none, none, none] []).bind _ = _
  rw [sSeq_nx (ρ2 := [some (.int 6), some F_6, none, none, none]) (μ2 := []) ((sSet_eq (eCB_eq (ds := [.int 6]) (μ2 := []) rfl kn_6)).trans rfl)]
  rw [sSeq_nx (ρ2 := [some (.int 6), some F_6, some Rw_6, none, none]) (μ2 := []) (by kernel_rfl)]
  rw [sSeq_nx (ρ2 := [some (.int 6), some F_6, some Rw_6, none, none]) (μ2 := []) ((sIf_f ((mOr_f (tst_eq (eOp_eq (e := .int 5) (eCB_eq (ds := [F_6]) (μ2 := []) rfl ca_6) rfl (by kernel_rfl)))).trans (tst_eq (eOp_eq (e := .int 5) (μ2 := []) (μ3 := []) (eCB_eq (ds := [F_6, RR_6]) (by kernel_rfl) cb_6) rfl (by kernel_rfl))))).trans rfl)]
  rw [sSeq_nx (ρ2 := [some (.int 6), some F_6, some Rw_6, none, none]) (μ2 := []) ((sIf_f ((mOr_f (mNot_eq (tst_eq (eCB_eq (ds := [F_6, .int 5, Rw_6]) (μ2 := []) rfl cc_6)))).trans (mAnd_f2 (b := false) (tst_eq (eOp_eq (d := .lst [.tup [.int 0, .int 1, .int 2, .int 3, .int 4, .int 5]]) (e := .lst [.tup [.int 0, .int 1, .int 2, .int 3, .int 4, .int 5]]) (μ2 := []) (μ3 := []) (eCB_eq (ds := [F_6, .int 5, Rw_6]) rfl cd_6) (by kernel_rfl) (by kernel_rfl)))))).trans rfl)]
  rw [sSeq_nx (ρ2 := [some (.int 6), some F_6, some Rw_6, none, none]) (μ2 := []) ((sIf_f ((mOr_f (tst_eq (eOp_eq (e := .int 6) (eCB_eq (ds := [F_6, .int 6, .lst []]) (μ2 := []) rfl ce_6) rfl (by kernel_rfl)))).trans (tst_eq (eOp_eq (e := .non) (μ2 := []) (μ3 := []) (eCB_eq (ds := [F_6, .int 6, .lst []]) rfl cf_6) rfl (by kernel_rfl))))).trans rfl)]
  rw [sRet_eq (d := .bl true) (μ2 := []) (eOp_eq (d := .bl true) (e := .bl true) (μ2 := []) (μ3 := []) (eCB_eq (ds := [F_6, .int 6, .lst [], .int 7, .tup [.tup [.int 0, .int 1, .int 2, .int 3, .int 4, .int 5], .tup []]]) (by kernel_rfl) cg_6) rfl (by kernel_rfl))]
  rfl
theorem al_ok (r : Int) (h0 : 0 ≤ r) (h6 : r < 6) : m__law_all_right [.int (1 + r)] = some (.bl true) := by
  have t : ∀ i j : Int, i = j → m__law_all_right [.int i] = some (.bl true) → m__law_all_right [.int j] = some (.bl true) := fun i j e h => e ▸ h
  have c : r = 0 ∨ r = 1 ∨ r = 2 ∨ r = 3 ∨ r = 4 ∨ r = 5 := by omega
  rcases c with h | h | h | h | h | h
  · exact t 1 _ (by omega) al_1
  · exact t 2 _ (by omega) al_2
  · exact t 3 _ (by omega) al_3
  · exact t 4 _ (by omega) al_4
  · exact t 5 _ (by omega) al_5
  · exact t 6 _ (by omega) al_6
def r_law : SM := (sSeq (sSet 3 (eTup (aCons (eC (.int 2)) (aCons (eTup (aCons (eTup (aCons (eC (.int 0)) (aCons (eC (.int 0)) aNil))) (aCons (eTup (aCons (eC (.int 1)) (aCons (eC (.int 1)) aNil))) aNil))) aNil))))
  (sSeq (sIf (mOr (tstM (eOp neF (eCB m_most_memory (aCons (eVar 3) aNil)) (eC (.int 0)))) (mOr (tstM (eOp neF (eCB m_most_on (aCons (eVar 3) (aCons (eC (.int 1)) (aCons (eL (lLst aNil)) aNil)))) (eC (.int 1)))) (tstM (eOp neF (eCB m_most_on (aCons (eVar 3) (aCons (eC (.int 1)) (aCons (eL (lLst (aCons (eTup (aCons (eC (.int 0)) (aCons (eC (.int 1)) aNil))) aNil))) aNil)))) (eC (.int 0)))))) (sRet (eC (.bl false))) sNil)
  (sSeq (sIf (mOr (tstM (eOp neF (eCB m_fewest_meets (aCons (eVar 3) (aCons (eC (.int 1)) (aCons (eL (lLst aNil)) aNil)))) (eTup (aCons (eTup (aCons (eC (.int 0)) (aCons (eC (.int 1)) aNil))) (aCons (eTup (aCons (eC (.int 1)) (aCons (eC (.int 0)) aNil))) aNil))))) (tstM (eOp notNF (eCB m_most_memory (aCons (eTup (aCons (eC (.int 2)) (aCons (eTup (aCons (eTup (aCons (eC (.int 0)) (aCons (eC (.int 0)) aNil))) aNil)) aNil))) aNil)) (eC .non)))) (sRet (eC (.bl false))) sNil)
  (sSeq (sIf (tstM (eOp notBF (eCB m_shows_end (aCons (eVar 3) (aCons (eC (.int 1)) (aCons (eL (lLst (aCons (eTup (aCons (eC (.int 0)) (aCons (eC (.int 1)) aNil))) aNil))) (aCons (eC (.int 1)) (aCons (eTup (aCons (eTup (aCons (eC (.int 0)) aNil)) (aCons (eTup aNil) aNil))) aNil)))))) (eC (.bl true)))) (sRet (eC (.bl false))) sNil)
  (sSeq (sSet 4 (eTup (aCons (eC (.int 3)) (aCons (eTup (aCons (eTup (aCons (eC (.int 0)) (aCons (eC (.int 0)) aNil))) (aCons (eTup (aCons (eC (.int 1)) (aCons (eC (.int 0)) aNil))) (aCons (eTup (aCons (eC (.int 2)) (aCons (eC (.int 1)) aNil))) (aCons (eTup (aCons (eC (.int 2)) (aCons (eC (.int 2)) aNil))) aNil))))) aNil))))
  (sSeq (sIf (mOr (tstM (eOp notNF (eCB m_most_memory (aCons (eVar 4) aNil)) (eC .non))) (tstM (eOp notBF (eCB m_shows_end (aCons (eVar 4) (aCons (eC (.int 0)) (aCons (eL (lLst aNil)) (aCons (eC (.int 1)) (aCons (eTup (aCons (eTup (aCons (eC (.int 0)) (aCons (eC (.int 1)) aNil))) (aCons (eTup (aCons (eC (.int 0)) aNil)) aNil))) aNil)))))) (eC (.bl true))))) (sRet (eC (.bl false))) sNil)
  (sIf (mOr (tstM (eOp neF (eCB lenF (aCons (eCB m_fewest_meets (aCons (eVar 4) (aCons (eC (.int 0)) (aCons (eL (lLst aNil)) aNil)))) aNil)) (eC (.int 1)))) (tstM (eOp notBF (eCB m_are_meets (aCons (eVar 4) (aCons (eC (.int 0)) (aCons (eL (lLst aNil)) (aCons (eTup (aCons (eTup (aCons (eC (.int 0)) (aCons (eC (.int 1)) aNil))) aNil)) aNil))))) (eC (.bl true))))) (sRet (eC (.bl false))) sNil)))))))
theorem rest_ok (a c x3 x4 : Option D) (ys : List D) : r_law [a, c, none, x3, x4] [(2, .lst ys)] = some (.nx [a, c, none, some (.tup [.int 2, .tup [.tup [.int 0, .int 0], .tup [.int 1, .int 1]]]), some (.tup [.int 3, .tup [.tup [.int 0, .int 0], .tup [.int 1, .int 0], .tup [.int 2, .int 1], .tup [.int 2, .int 2]]])] [(2, .lst ys)]) := by kernel_rfl
theorem step {R ret : SM} (hR : ∀ a c x3 x4 ys, ∃ y3 y4, R [a, c, none, x3, x4] [(2, .lst ys)] = some (.nx [a, c, none, y3, y4] [(2, .lst ys)])) (a x2 x3 x4 : Option D) (c : Int) (μ : Mem) (hμ : μ = [] ∨ ∃ xs, μ = [(2, .lst xs)]) :
    ∃ y3 y4 ys, (sSeq (sSetL 2 (lCB m__law_deck (aCons (eVar 1) (aCons (eC (.int 13)) aNil))))
      (sSeq (sIf (mOr (mNot (tstM (eCB m__law_all_right (aCons (eOp addF (eC (.int 1)) (eCallO 2 m__law_pick (aCons (eC (.int 6)) aNil))) aNil)))) (mNot (tstM (eCB m__law_spoilt_right aNil)))) ret sNil) R)) [a, some (.int c), x2, x3, x4] μ = some (.nx [a, some (.int c), none, y3, y4] [(2, .lst ys)]) := by
  obtain ⟨i, hd⟩ := deck_ok c
  have hb : 0 ≤ c.fmod 2147483579 ∧ c.fmod 2147483579 < 2147483579 := fm (by decide)
  obtain ⟨r, ys, hp, hr0, hr6⟩ := pick_ok i _ hb.1 hb.2
  have e1 : sSetL 2 (lCB m__law_deck (aCons (eVar 1) (aCons (eC (.int 13)) aNil))) [a, some (.int c), x2, x3, x4] μ = some (Out.nx [a, some (.int c), none, x3, x4] [(2, .lst [.int i, .int (c.fmod 2147483579), .int 13])]) := by
    rw [sSetL_eq (ds := [.int i, .int (c.fmod 2147483579), .int 13]) (μ2 := μ) (fun h => h.elim (fun z => absurd z (by decide)) fun z => absurd (show 5 ≤ 2 from z) (by decide)) (lCB_eq (ds := [.int c, .int 13]) rfl hd)]
    rcases hμ with rfl | ⟨xs, rfl⟩ <;> rfl
  rw [sSeq_nx e1]
  have e2 : (mOr (mNot (tstM (eCB m__law_all_right (aCons (eOp addF (eC (.int 1)) (eCallO 2 m__law_pick (aCons (eC (.int 6)) aNil))) aNil)))) (mNot (tstM (eCB m__law_spoilt_right aNil)))) [a, some (.int c), none, x3, x4] [(2, .lst [.int i, .int (c.fmod 2147483579), .int 13])] = some (false, [(2, .lst ys)]) := by
    have h1 : (tstM (eCB m__law_all_right (aCons (eOp addF (eC (.int 1)) (eCallO 2 m__law_pick (aCons (eC (.int 6)) aNil))) aNil))) [a, some (.int c), none, x3, x4] [(2, .lst [.int i, .int (c.fmod 2147483579), .int 13])] = some (true, [(2, .lst ys)]) :=
      tst_eq (eCB_eq (ds := [.int (1 + r)]) (aCons_eq (μ2 := [(2, .lst ys)]) (eOp_eq (d := .int 1) (e := .int r) rfl (eCallO_eq (μ2 := [(2, .lst [.int i, .int (c.fmod 2147483579), .int 13])]) (ds := [.int 6]) rfl rfl rfl hp) rfl) rfl) (al_ok r hr0 hr6))
    rw [mOr_f (mNot_eq h1)]
    exact mNot_eq (tst_eq (eCB_eq (ds := []) rfl sp_ok))
  rw [sSeq_nx ((sIf_f e2).trans (rfl : _ = some (Out.nx _ _)))]
  obtain ⟨y3, y4, e3⟩ := hR a (some (.int c)) x3 x4 ys
  exact ⟨y3, y4, ys, e3⟩
theorem law_true (ns : List Int) : ∃ ρ2 μ2, forRun (mName 1) b_law (cutD ((0 :: ns).map D.int) none (some 4)) (none :: List.replicate 4 none) [] = some (.nx ρ2 μ2) := by
  obtain ⟨cs, hc, _⟩ := cutD_int (0 :: ns) none (some 4)
  rw [hc]
  obtain ⟨ρ2, μ2, e, _⟩ := for_inv (τ := mName 1) (φ := b_law) (cs := cs) (ι := fun _ μ => some (cs.map D.int, μ)) (ρ := none :: List.replicate 4 none) (μ := []) (fun ρ μ => (∃ a x1 x2 x3 x4, ρ = [a, x1, x2, x3, x4]) ∧ (μ = [] ∨ ∃ xs, μ = [(2, .lst xs)])) rfl ⟨⟨_, _, _, _, _, rfl⟩, .inl rfl⟩ (fun c _ ρ μ ⟨⟨a, x1, x2, x3, x4, hρ⟩, hμ⟩ => by
    subst hρ
    obtain ⟨y3, y4, ys, e⟩ := step (ret := sRet (eC (.bl false))) (fun a c x3 x4 ys => ⟨_, _, rest_ok a c x3 x4 ys⟩) a x2 x3 x4 c μ hμ
    refine ⟨[a, some (.int c), x2, x3, x4], μ, _, _, ?_, e, ⟨⟨_, _, _, _, _, rfl⟩, .inr ⟨_, rfl⟩⟩⟩
    rcases hμ with rfl | ⟨xs, rfl⟩ <;> rfl)
  exact ⟨ρ2, μ2, e⟩
end FP
end
section
namespace FP
open PySem PySem.Spec PyProof.Rows L2 VS
def dD (x : Str) (i : Nat) : He.DefD := ⟨(x, none), x, x, defArgs (top i), defBody (top i), defScope (top i), [], []⟩
def fn : List He.DefD := [dD "is_from" 10,
  dD "is_rising" 11,
  dD "is_two" 12,
  dD "is_floor" 13,
  dD "are_followers" 14,
  dD "pairs_of" 15,
  dD "is_dancing" 16,
  dD "are_dances" 17,
  dD "are_apart" 18,
  dD "is_by" 19,
  dD "need_floor" 20,
  dD "need_memory" 21,
  dD "need_row" 22,
  dD "late_of" 23,
  dD "late_pairs" 24,
  dD "fresh_of" 25,
  dD "wants_of" 26,
  dD "way_on" 28,
  dD "turned" 29,
  dD "filled" 30,
  dD "part" 31,
  dD "parted" 32,
  dD "greatest" 33,
  dD "lasting" 35,
  dD "lasts" 36,
  dD "more_on" 37,
  dD "most_on" 38,
  dD "going_on" 39,
  dD "are_folk" 41,
  dD "shows_end" 42,
  dD "most_memory" 44,
  dD "memory_of" 45,
  dD "next_pairs" 47,
  dD "all_dances" 48,
  dD "next_dances" 49,
  dD "take_back" 50,
  dD "costs_of" 52,
  dD "cheapest_way" 53,
  dD "begin_of" 54,
  dD "cheapest" 55,
  dD "fewest_meets" 56,
  dD "are_meets" 57,
  dD "prices" 58,
  dD "are_numbers" 59,
  dD "shown_by" 60,
  dD "_law_deck" 62,
  dD "_law_pick" 63,
  dD "_law_all_know" 64,
  dD "_law_all_right" 65,
  dD "_law_spoilt_right" 66,
  dD "law" 67]
def fa : List He.Fa := [.glo "is_from",
  .glo "is_rising",
  .glo "is_two",
  .glo "is_floor",
  .glo "are_followers",
  .glo "pairs_of",
  .glo "is_dancing",
  .glo "are_dances",
  .glo "are_apart",
  .glo "is_by",
  .glo "need_floor",
  .glo "need_memory",
  .glo "need_row",
  .glo "late_of",
  .glo "late_pairs",
  .glo "fresh_of",
  .glo "wants_of",
  .glo "way_on",
  .glo "turned",
  .glo "filled",
  .glo "part",
  .glo "parted",
  .glo "greatest",
  .glo "lasting",
  .glo "lasts",
  .glo "more_on",
  .glo "most_on",
  .glo "going_on",
  .glo "are_folk",
  .glo "shows_end",
  .glo "most_memory",
  .glo "memory_of",
  .glo "next_pairs",
  .glo "all_dances",
  .glo "next_dances",
  .glo "take_back",
  .glo "costs_of",
  .glo "cheapest_way",
  .glo "begin_of",
  .glo "cheapest",
  .glo "fewest_meets",
  .glo "are_meets",
  .glo "prices",
  .glo "are_numbers",
  .glo "shown_by",
  .glo "_law_deck",
  .glo "_law_pick",
  .glo "_law_all_know",
  .glo "_law_all_right",
  .glo "_law_spoilt_right",
  .glo "law",
  .free "ValueError",
  .free "all",
  .free "any",
  .free "bool",
  .free "dict",
  .free "enumerate",
  .free "int",
  .free "isinstance",
  .free "len",
  .free "list",
  .free "max",
  .free "min",
  .free "range",
  .free "sorted",
  .free "sum",
  .free "tuple",
  .free "zip",
  .int "MOST_SIZE" 6,
  .int "MOST_MEMORY" 6,
  .int "MOST_DANCES" 60]
abbrev R : PySem.W.OpenRow := PySem.W.OpenLaw.row PySem.Challenge.rw_freshpairs_k13_whole_small_floors_by_wor
abbrev hk : PySem.W.Hook := He.hookD 4 fa fn
def ob (s : PySem.W.SharedT) : He.AlD := He.obsDG 4 fa fn (HandSHeadRun.getT s)
theorem ob_eq (s : PySem.W.SharedT) : ob s = hk.obs s.abs := He.obsDG_eq (HandSHeadRun.getT_eq s)
def loose : List PySem.Str := (["FreshError", "NoFloor", "NoMemory", "NoRow", "NoCount", "MOST_SIZE", "MOST_MEMORY", "MOST_DANCES", "is_from", "is_rising", "is_two", "is_floor", "are_followers", "pairs_of", "is_dancing", "are_dances", "are_apart", "is_by", "need_floor", "need_memory", "need_row", "late_of", "late_pairs", "fresh_of", "wants_of", "way_on", "turned", "filled", "part", "parted"] : List PySem.Str) ++ (["greatest", "lasting", "lasts", "more_on", "most_on", "going_on", "are_folk", "shows_end", "most_memory", "memory_of", "next_pairs", "all_dances", "next_dances", "take_back", "costs_of", "cheapest_way", "begin_of", "cheapest", "fewest_meets", "are_meets", "prices", "are_numbers", "shown_by", "_law_deck", "_law_pick", "_law_all_know", "_law_all_right", "_law_spoilt_right"] : List PySem.Str)
theorem run (w : World) : HandSHeadRun.RunEq R (PySem.W.view R.prog [67]) hk ob 6000 loose w := by
  intro os
  kernel_rfl
theorem facts {P : Program} {w : World} {K : PySem.W.Frag} {h : Heap} {mg : Str → Option Value} {f : Addr} (X : K.In h) (G : h.Ns mainGlobals mg) (hfa : mg ("law" : Str) = some (.ref f)) (c : He.SaysD fa fn K) :
    ∃ fd : FuncData, (∀ (s : Shared) (v : Value), BindsTo s fd ⟨[v], []⟩ [("script", v)]) ∧ ∀ base : Heap, (plainK K).In base → base.Ns mainGlobals mg → FnOk P w (plainK K) mg base CX0 8 f fd ["script"] spScr := by
  obtain ⟨fd_is_from, F_is_from⟩ := c.def_ 0 (d := dD "is_from" 10) rfl
  obtain ⟨fd_is_rising, F_is_rising⟩ := c.def_ 1 (d := dD "is_rising" 11) rfl
  obtain ⟨fd_is_two, F_is_two⟩ := c.def_ 2 (d := dD "is_two" 12) rfl
  obtain ⟨fd_is_floor, F_is_floor⟩ := c.def_ 3 (d := dD "is_floor" 13) rfl
  obtain ⟨fd_are_followers, F_are_followers⟩ := c.def_ 4 (d := dD "are_followers" 14) rfl
  obtain ⟨fd_pairs_of, F_pairs_of⟩ := c.def_ 5 (d := dD "pairs_of" 15) rfl
  obtain ⟨fd_is_dancing, F_is_dancing⟩ := c.def_ 6 (d := dD "is_dancing" 16) rfl
  obtain ⟨fd_are_dances, F_are_dances⟩ := c.def_ 7 (d := dD "are_dances" 17) rfl
  obtain ⟨fd_are_apart, F_are_apart⟩ := c.def_ 8 (d := dD "are_apart" 18) rfl
  obtain ⟨fd_is_by, F_is_by⟩ := c.def_ 9 (d := dD "is_by" 19) rfl
  obtain ⟨fd_need_floor, F_need_floor⟩ := c.def_ 10 (d := dD "need_floor" 20) rfl
  obtain ⟨fd_need_memory, F_need_memory⟩ := c.def_ 11 (d := dD "need_memory" 21) rfl
  obtain ⟨fd_need_row, F_need_row⟩ := c.def_ 12 (d := dD "need_row" 22) rfl
  obtain ⟨fd_late_of, F_late_of⟩ := c.def_ 13 (d := dD "late_of" 23) rfl
  obtain ⟨fd_late_pairs, F_late_pairs⟩ := c.def_ 14 (d := dD "late_pairs" 24) rfl
  obtain ⟨fd_fresh_of, F_fresh_of⟩ := c.def_ 15 (d := dD "fresh_of" 25) rfl
  obtain ⟨fd_wants_of, F_wants_of⟩ := c.def_ 16 (d := dD "wants_of" 26) rfl
  obtain ⟨fd_way_on, F_way_on⟩ := c.def_ 17 (d := dD "way_on" 28) rfl
  obtain ⟨fd_turned, F_turned⟩ := c.def_ 18 (d := dD "turned" 29) rfl
  obtain ⟨fd_filled, F_filled⟩ := c.def_ 19 (d := dD "filled" 30) rfl
  obtain ⟨fd_part, F_part⟩ := c.def_ 20 (d := dD "part" 31) rfl
  obtain ⟨fd_parted, F_parted⟩ := c.def_ 21 (d := dD "parted" 32) rfl
  obtain ⟨fd_greatest, F_greatest⟩ := c.def_ 22 (d := dD "greatest" 33) rfl
  obtain ⟨fd_lasting, F_lasting⟩ := c.def_ 23 (d := dD "lasting" 35) rfl
  obtain ⟨fd_lasts, F_lasts⟩ := c.def_ 24 (d := dD "lasts" 36) rfl
  obtain ⟨fd_more_on, F_more_on⟩ := c.def_ 25 (d := dD "more_on" 37) rfl
  obtain ⟨fd_most_on, F_most_on⟩ := c.def_ 26 (d := dD "most_on" 38) rfl
  obtain ⟨fd_going_on, F_going_on⟩ := c.def_ 27 (d := dD "going_on" 39) rfl
  obtain ⟨fd_are_folk, F_are_folk⟩ := c.def_ 28 (d := dD "are_folk" 41) rfl
  obtain ⟨fd_shows_end, F_shows_end⟩ := c.def_ 29 (d := dD "shows_end" 42) rfl
  obtain ⟨fd_most_memory, F_most_memory⟩ := c.def_ 30 (d := dD "most_memory" 44) rfl
  obtain ⟨fd_memory_of, F_memory_of⟩ := c.def_ 31 (d := dD "memory_of" 45) rfl
  obtain ⟨fd_next_pairs, F_next_pairs⟩ := c.def_ 32 (d := dD "next_pairs" 47) rfl
  obtain ⟨fd_all_dances, F_all_dances⟩ := c.def_ 33 (d := dD "all_dances" 48) rfl
  obtain ⟨fd_next_dances, F_next_dances⟩ := c.def_ 34 (d := dD "next_dances" 49) rfl
  obtain ⟨fd_take_back, F_take_back⟩ := c.def_ 35 (d := dD "take_back" 50) rfl
  obtain ⟨fd_costs_of, F_costs_of⟩ := c.def_ 36 (d := dD "costs_of" 52) rfl
  obtain ⟨fd_cheapest_way, F_cheapest_way⟩ := c.def_ 37 (d := dD "cheapest_way" 53) rfl
  obtain ⟨fd_begin_of, F_begin_of⟩ := c.def_ 38 (d := dD "begin_of" 54) rfl
  obtain ⟨fd_cheapest, F_cheapest⟩ := c.def_ 39 (d := dD "cheapest" 55) rfl
  obtain ⟨fd_fewest_meets, F_fewest_meets⟩ := c.def_ 40 (d := dD "fewest_meets" 56) rfl
  obtain ⟨fd_are_meets, F_are_meets⟩ := c.def_ 41 (d := dD "are_meets" 57) rfl
  obtain ⟨fd_prices, F_prices⟩ := c.def_ 42 (d := dD "prices" 58) rfl
  obtain ⟨fd_are_numbers, F_are_numbers⟩ := c.def_ 43 (d := dD "are_numbers" 59) rfl
  obtain ⟨fd_shown_by, F_shown_by⟩ := c.def_ 44 (d := dD "shown_by" 60) rfl
  obtain ⟨fd__law_deck, F__law_deck⟩ := c.def_ 45 (d := dD "_law_deck" 62) rfl
  obtain ⟨fd__law_pick, F__law_pick⟩ := c.def_ 46 (d := dD "_law_pick" 63) rfl
  obtain ⟨fd__law_all_know, F__law_all_know⟩ := c.def_ 47 (d := dD "_law_all_know" 64) rfl
  obtain ⟨fd__law_all_right, F__law_all_right⟩ := c.def_ 48 (d := dD "_law_all_right" 65) rfl
  obtain ⟨fd__law_spoilt_right, F__law_spoilt_right⟩ := c.def_ 49 (d := dD "_law_spoilt_right" 66) rfl
  obtain ⟨fd_law, F_law⟩ := c.def_ 50 (d := dD "law" 67) rfl
  have e := hfa.symm.trans (He.glo_ok X G (c.fact 50 (f := .glo "law") rfl))
  cases e
  have b := FunD.bindsA (ps := ["script"]) F_law fun _ _ _ _ _ _ us hl => match us, hl with | [_], _ => rfl
  have B : Bi mg := ⟨He.free_ok X G (c.fact 52 (f := .free "all") rfl), He.free_ok X G (c.fact 53 (f := .free "any") rfl), He.free_ok X G (c.fact 54 (f := .free "bool") rfl), He.free_ok X G (c.fact 55 (f := .free "dict") rfl), He.free_ok X G (c.fact 56 (f := .free "enumerate") rfl), He.free_ok X G (c.fact 57 (f := .free "int") rfl), He.free_ok X G (c.fact 58 (f := .free "isinstance") rfl), He.free_ok X G (c.fact 59 (f := .free "len") rfl), He.free_ok X G (c.fact 60 (f := .free "list") rfl), He.free_ok X G (c.fact 61 (f := .free "max") rfl), He.free_ok X G (c.fact 62 (f := .free "min") rfl), He.free_ok X G (c.fact 63 (f := .free "range") rfl), He.free_ok X G (c.fact 64 (f := .free "sorted") rfl), He.free_ok X G (c.fact 65 (f := .free "sum") rfl), He.free_ok X G (c.fact 66 (f := .free "tuple") rfl), He.free_ok X G (c.fact 67 (f := .free "zip") rfl)⟩
  have I : Gi mg := ⟨He.int_ok X G (c.fact 70 (f := .int "MOST_DANCES" 60) rfl), He.int_ok X G (c.fact 69 (f := .int "MOST_MEMORY" 6) rfl), He.int_ok X G (c.fact 68 (f := .int "MOST_SIZE" 6) rfl)⟩
  refine ⟨fd_law, fun s v => b s [v] rfl, fun base _ _ => ?_⟩
  have h_is_from := ok_is_from (P := P) (w := w) (base := base) (plainK_fun F_is_from) (He.glo_ok X G (c.fact 0 (f := .glo "is_from") rfl)) B I 
  have h_is_rising := ok_is_rising (P := P) (w := w) (base := base) (plainK_fun F_is_rising) (He.glo_ok X G (c.fact 1 (f := .glo "is_rising") rfl)) B I 
  have h_is_two := ok_is_two (P := P) (w := w) (base := base) (plainK_fun F_is_two) (He.glo_ok X G (c.fact 2 (f := .glo "is_two") rfl)) B I h_is_from
  have h_is_floor := ok_is_floor (P := P) (w := w) (base := base) (plainK_fun F_is_floor) (He.glo_ok X G (c.fact 3 (f := .glo "is_floor") rfl)) B I h_is_from h_is_rising h_is_two
  have h_are_followers := ok_are_followers (P := P) (w := w) (base := base) (plainK_fun F_are_followers) (He.glo_ok X G (c.fact 4 (f := .glo "are_followers") rfl)) B I h_is_from
  have h_pairs_of := ok_pairs_of (P := P) (w := w) (base := base) (plainK_fun F_pairs_of) (He.glo_ok X G (c.fact 5 (f := .glo "pairs_of") rfl)) B I 
  have h_is_dancing := ok_is_dancing (P := P) (w := w) (base := base) (plainK_fun F_is_dancing) (He.glo_ok X G (c.fact 6 (f := .glo "is_dancing") rfl)) B I h_are_followers h_pairs_of
  have h_are_dances := ok_are_dances (P := P) (w := w) (base := base) (plainK_fun F_are_dances) (He.glo_ok X G (c.fact 7 (f := .glo "are_dances") rfl)) B I h_is_dancing
  have h_are_apart := ok_are_apart (P := P) (w := w) (base := base) (plainK_fun F_are_apart) (He.glo_ok X G (c.fact 8 (f := .glo "are_apart") rfl)) B I 
  have h_is_by := ok_is_by (P := P) (w := w) (base := base) (plainK_fun F_is_by) (He.glo_ok X G (c.fact 9 (f := .glo "is_by") rfl)) B I h_are_apart
  have h_need_floor := ok_need_floor (P := P) (w := w) (base := base) (plainK_fun F_need_floor) (He.glo_ok X G (c.fact 10 (f := .glo "need_floor") rfl)) B I h_is_floor
  have h_need_memory := ok_need_memory (P := P) (w := w) (base := base) (plainK_fun F_need_memory) (He.glo_ok X G (c.fact 11 (f := .glo "need_memory") rfl)) B I h_is_from
  have h_need_row := ok_need_row (P := P) (w := w) (base := base) (plainK_fun F_need_row) (He.glo_ok X G (c.fact 12 (f := .glo "need_row") rfl)) B I h_are_dances h_is_by h_need_floor h_need_memory
  have h_late_of := ok_late_of (P := P) (w := w) (base := base) (plainK_fun F_late_of) (He.glo_ok X G (c.fact 13 (f := .glo "late_of") rfl)) B I 
  have h_late_pairs := ok_late_pairs (P := P) (w := w) (base := base) (plainK_fun F_late_pairs) (He.glo_ok X G (c.fact 14 (f := .glo "late_pairs") rfl)) B I h_pairs_of h_late_of
  have h_fresh_of := ok_fresh_of (P := P) (w := w) (base := base) (plainK_fun F_fresh_of) (He.glo_ok X G (c.fact 15 (f := .glo "fresh_of") rfl)) B I h_late_pairs
  have h_wants_of := ok_wants_of (P := P) (w := w) (base := base) (plainK_fun F_wants_of) (He.glo_ok X G (c.fact 16 (f := .glo "wants_of") rfl)) B I h_late_of
  have h_way_on := ok_way_on (P := P) (w := w) (base := base) (plainK_fun F_way_on) (He.glo_ok X G (c.fact 17 (f := .glo "way_on") rfl)) B I 
  have h_turned := ok_turned (P := P) (w := w) (base := base) (plainK_fun F_turned) (He.glo_ok X G (c.fact 18 (f := .glo "turned") rfl)) B I 
  have h_filled := ok_filled (P := P) (w := w) (base := base) (plainK_fun F_filled) (He.glo_ok X G (c.fact 19 (f := .glo "filled") rfl)) B I h_way_on h_turned
  have h_part := ok_part (P := P) (w := w) (base := base) (plainK_fun F_part) (He.glo_ok X G (c.fact 20 (f := .glo "part") rfl)) B I h_filled
  have h_parted := ok_parted (P := P) (w := w) (base := base) (plainK_fun F_parted) (He.glo_ok X G (c.fact 21 (f := .glo "parted") rfl)) B I h_part
  have h_greatest := ok_greatest (P := P) (w := w) (base := base) (plainK_fun F_greatest) (He.glo_ok X G (c.fact 22 (f := .glo "greatest") rfl)) B I h_part
  have h_lasting := ok_lasting (P := P) (w := w) (base := base) (plainK_fun F_lasting) (He.glo_ok X G (c.fact 23 (f := .glo "lasting") rfl)) B I h_fresh_of h_wants_of h_part
  have h_lasts := ok_lasts (P := P) (w := w) (base := base) (plainK_fun F_lasts) (He.glo_ok X G (c.fact 24 (f := .glo "lasts") rfl)) B I h_need_row h_lasting
  have h_more_on := ok_more_on (P := P) (w := w) (base := base) (plainK_fun F_more_on) (He.glo_ok X G (c.fact 25 (f := .glo "more_on") rfl)) B I h_fresh_of h_wants_of h_greatest
  have h_most_on := ok_most_on (P := P) (w := w) (base := base) (plainK_fun F_most_on) (He.glo_ok X G (c.fact 26 (f := .glo "most_on") rfl)) B I h_need_row h_more_on
  have h_going_on := ok_going_on (P := P) (w := w) (base := base) (plainK_fun F_going_on) (He.glo_ok X G (c.fact 27 (f := .glo "going_on") rfl)) B I h_need_row h_fresh_of h_wants_of h_part h_parted h_more_on
  have h_are_folk := ok_are_folk (P := P) (w := w) (base := base) (plainK_fun F_are_folk) (He.glo_ok X G (c.fact 28 (f := .glo "are_folk") rfl)) B I h_is_from h_is_rising
  have h_shows_end := ok_shows_end (P := P) (w := w) (base := base) (plainK_fun F_shows_end) (He.glo_ok X G (c.fact 29 (f := .glo "shows_end") rfl)) B I h_need_row h_fresh_of h_are_folk
  have h_most_memory := ok_most_memory (P := P) (w := w) (base := base) (plainK_fun F_most_memory) (He.glo_ok X G (c.fact 30 (f := .glo "most_memory") rfl)) B I h_need_floor h_greatest
  have h_memory_of := ok_memory_of (P := P) (w := w) (base := base) (plainK_fun F_memory_of) (He.glo_ok X G (c.fact 31 (f := .glo "memory_of") rfl)) B I h_are_dances h_is_by h_need_floor
  have h_next_pairs := ok_next_pairs (P := P) (w := w) (base := base) (plainK_fun F_next_pairs) (He.glo_ok X G (c.fact 32 (f := .glo "next_pairs") rfl)) B I h_need_row h_fresh_of h_wants_of h_filled
  have h_all_dances := ok_all_dances (P := P) (w := w) (base := base) (plainK_fun F_all_dances) (He.glo_ok X G (c.fact 33 (f := .glo "all_dances") rfl)) B I 
  have h_next_dances := ok_next_dances (P := P) (w := w) (base := base) (plainK_fun F_next_dances) (He.glo_ok X G (c.fact 34 (f := .glo "next_dances") rfl)) B I h_need_row h_fresh_of h_wants_of h_part h_all_dances
  have h_take_back := ok_take_back (P := P) (w := w) (base := base) (plainK_fun F_take_back) (He.glo_ok X G (c.fact 35 (f := .glo "take_back") rfl)) B I h_need_row h_lasting
  have h_costs_of := ok_costs_of (P := P) (w := w) (base := base) (plainK_fun F_costs_of) (He.glo_ok X G (c.fact 36 (f := .glo "costs_of") rfl)) B I h_late_pairs
  have h_cheapest_way := ok_cheapest_way (P := P) (w := w) (base := base) (plainK_fun F_cheapest_way) (He.glo_ok X G (c.fact 37 (f := .glo "cheapest_way") rfl)) B I 
  have h_begin_of := ok_begin_of (P := P) (w := w) (base := base) (plainK_fun F_begin_of) (He.glo_ok X G (c.fact 38 (f := .glo "begin_of") rfl)) B I 
  have h_cheapest := ok_cheapest (P := P) (w := w) (base := base) (plainK_fun F_cheapest) (He.glo_ok X G (c.fact 39 (f := .glo "cheapest") rfl)) B I h_wants_of h_turned h_costs_of h_cheapest_way h_begin_of
  have h_fewest_meets := ok_fewest_meets (P := P) (w := w) (base := base) (plainK_fun F_fewest_meets) (He.glo_ok X G (c.fact 40 (f := .glo "fewest_meets") rfl)) B I h_need_row h_cheapest
  have h_are_meets := ok_are_meets (P := P) (w := w) (base := base) (plainK_fun F_are_meets) (He.glo_ok X G (c.fact 41 (f := .glo "are_meets") rfl)) B I h_is_rising h_is_two h_need_row h_fresh_of h_wants_of h_part
  have h_prices := ok_prices (P := P) (w := w) (base := base) (plainK_fun F_prices) (He.glo_ok X G (c.fact 42 (f := .glo "prices") rfl)) B I h_need_row h_costs_of h_cheapest
  have h_are_numbers := ok_are_numbers (P := P) (w := w) (base := base) (plainK_fun F_are_numbers) (He.glo_ok X G (c.fact 43 (f := .glo "are_numbers") rfl)) B I 
  have h_shown_by := ok_shown_by (P := P) (w := w) (base := base) (plainK_fun F_shown_by) (He.glo_ok X G (c.fact 44 (f := .glo "shown_by") rfl)) B I h_need_row h_wants_of h_costs_of h_are_numbers
  have h__law_deck := ok__law_deck (P := P) (w := w) (base := base) (plainK_fun F__law_deck) (He.glo_ok X G (c.fact 45 (f := .glo "_law_deck") rfl)) B I 
  have h__law_pick := ok__law_pick (P := P) (w := w) (base := base) (plainK_fun F__law_pick) (He.glo_ok X G (c.fact 46 (f := .glo "_law_pick") rfl)) B I 
  have h__law_all_know := ok__law_all_know (P := P) (w := w) (base := base) (plainK_fun F__law_all_know) (He.glo_ok X G (c.fact 47 (f := .glo "_law_all_know") rfl)) B I 
  have h__law_all_right := ok__law_all_right (P := P) (w := w) (base := base) (plainK_fun F__law_all_right) (He.glo_ok X G (c.fact 48 (f := .glo "_law_all_right") rfl)) B I h_lasts h_most_on h_shows_end h_most_memory h_memory_of h_next_dances h_fewest_meets h__law_all_know
  have h__law_spoilt_right := ok__law_spoilt_right (P := P) (w := w) (base := base) (plainK_fun F__law_spoilt_right) (He.glo_ok X G (c.fact 49 (f := .glo "_law_spoilt_right") rfl)) B I h_lasts h_most_on h_going_on h_most_memory h_next_pairs h_next_dances h_take_back h_fewest_meets h_prices h_shown_by
  exact ok_law (plainK_fun F_law) B I h_most_on h_shows_end h_most_memory h_fewest_meets h_are_meets h__law_deck h__law_pick h__law_all_right h__law_spoilt_right law_true
end FP
end
open PySem PySem.W PySem.Calls PyProof.Rows
theorem PySem.Challenge.cw_freshpairs_k13_whole_small_floors_by_wor_holds : PySem.Challenge.rw_freshpairs_k13_whole_small_floors_by_wor.Holds := by
  w_on; o_law
  refine HandSHeadRun.head_any (r := OpenLaw.row PySem.Challenge.rw_freshpairs_k13_whole_small_floors_by_wor) (q := view (OpenLaw.row PySem.Challenge.rw_freshpairs_k13_whole_small_floors_by_wor).prog [67]) (H := FP.hk) (ob := FP.ob) (M := 6000) (loose := FP.loose) (d := HandSHeadRun.topDef (OpenLaw.row PySem.Challenge.rw_freshpairs_k13_whole_small_floors_by_wor).prog 67) (kwd := []) FP.ob_eq
    (by kernel_rfl) (fun s => by kernel_rfl) FP.run (by kernel_rfl) (by kernel_rfl) (by kernel_rfl) (by rfl) (by first | assumption | decide +kernel) (by decide +kernel) ⟨rfl, rfl, rfl, rfl, rfl, by decide +kernel⟩ ?hw ?hc
  case hw => w_witness2
  case hc =>
    refine L2.walk_ofE (l := PySem.Challenge.rw_freshpairs_k13_whole_small_floors_by_wor) (n := 63) (k := 8) (x := "script") (CX := L2.CX0) rfl (by decide) (by kernel_rfl) ⟨rfl, by decide, by decide⟩ ?F (fun _ _ _ _ z => z)
    intro w mg fa h Y G hmg0
    obtain ⟨K, KX, c⟩ := Y
    have hmg : mg ("law" : PySem.Str) = some (.ref fa) := by
      have e : (HandSHeadRun.topDef (OpenLaw.row PySem.Challenge.rw_freshpairs_k13_whole_small_floors_by_wor).prog 67).name = ("law" : PySem.Str) := by kernel_rfl
      rw [← e]
      exact hmg0
    obtain ⟨fd, hb, hF⟩ := FP.facts (P := (PySem.Challenge.rw_freshpairs_k13_whole_small_floors_by_wor).prog) (w := w) KX G hmg c
    refine ⟨VS.plainK K, fd, VS.spScr, VS.plainK_in KX, hb, fun H a ns hl _ hS => ⟨a, ns, rfl, hl, ?_, fun _ => rfl⟩, hF⟩
    rcases hS with z | ⟨o, its, n, lk, _, _, hd, _⟩
    · exact z
    · have z := (VS.plainK_some lk).2
      rw [hd] at z
      cases z
