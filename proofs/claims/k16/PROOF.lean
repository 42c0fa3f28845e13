import PyProof.Rows.All
import Wide.All
import OpenK.AllK
import Wide.FinOn
import HandS.ForMost
import HandS.ForExc
import HandS.Wide
import HandS.WideBits
import HandS.TupAny
import HandS.TupMul
import HandS.Deep
import HandS.IsInst
import HandS.SortInts
import HandS.ExcInit
import HandS.ExcField
import KE.LtSeq
import KE.LtData
import HandS.Style
import PySem.Challenge.RW_normwork_k16_whole_bytes_of_signs
set_option Elab.async false
set_option linter.all false
set_option maxRecDepth 100000
namespace DS
open PySem PySem.Spec L2

/-- data: what a value of the program stands for -/
inductive D where
  | non | bl (b : Bool) | int (i : Int) | str (x : Str)
  | tup (xs : List D) | lst (xs : List D)
  | dct (kvs : List (Key × D)) | dtp (kvs : List (List Key × D))
  | set (xs : List Int)
  | obj (c : Nat) (fs : List (Str × D))
  | scr (ns : List Int)

structure Cf where
  /-- the address of each own class -/
  cl : Nat → Addr
  /-- the one field of each own exception class -/
  xf : Nat → Str
  /-- the written part -/
  K : PySem.W.Frag

/-- one object, its data, the values and the data of its parts -/
inductive Node (c : Cf) : HO → D → List V → List D → Prop
  | lst (vs : List V) (ds : List D) : Node c (.lst vs) (.lst ds) vs ds
  | tup (vs : List V) (ds : List D) : Node c (.tup vs) (.tup ds) vs ds
  | dct (ks : List (Key × V)) (kd : List (Key × D)) : ks.map (·.1) = kd.map (·.1) → Node c (.dK ks) (.dct kd) (ks.map (·.2)) (kd.map (·.2))
  | dtp (ks : List (List Key × V)) (kd : List (List Key × D)) : ks.map (·.1) = kd.map (·.1) → Node c (.dT ks) (.dtp kd) (ks.map (·.2)) (kd.map (·.2))
  | set (S : Int → Bool) (xs : List Int) : (∀ i, S i = true ↔ i ∈ xs) → xs.Nodup → Node c (.set S xs.length) (.set xs) [] []
  | obj (k : Nat) (dx : Addr) (fv : List (Str × V)) (fd : List (Str × D)) : fv.map (·.1) = fd.map (·.1) → Node c (.ins (c.cl k) dx fv) (.obj k fd) (fv.map (·.2)) (fd.map (·.2))

/-- a list, a tuple of the written part -/
def KL (K : PySem.W.Frag) (a : Addr) (xs : List V) : Prop := ∃ (o : Obj) (its : Array Value) (n : Nat), K.lookup a = some o ∧ o.cls = .type "list" ∧ o.dict = none ∧ o.data = .seq its n ∧ its.size ≤ sizeLine ∧ Vals xs its.toList
def KTu (K : PySem.W.Frag) (a : Addr) (xs : List V) : Prop := ∃ (o : Obj) (its : Array Value) (n : Nat), K.lookup a = some o ∧ o.cls = .type "tuple" ∧ o.data = .seq its n ∧ its.size ≤ sizeLine ∧ Vals xs its.toList

/-- the value stands for the data; no object of it that can change lies in Z -/
inductive Rep (K : PySem.W.Frag) (c : Cf) (Z : Addr → Prop) (H : Hp) : V → D → Prop
  | non : Rep K c Z H .non .non
  | bl (b : Bool) : Rep K c Z H (.bl b) (.bl b)
  | int (i : Int) : Rep K c Z H (.int i) (.int i)
  | str (x : Str) : Rep K c Z H (.str x) (.str x)
  | node (a : Addr) (o : HO) (d : D) (vs : List V) (ds : List D) : Rd H a o → ¬ Z a → Node c o d vs ds → vs.length = ds.length → (∀ (i : Nat) v e, vs[i]? = some v → ds[i]? = some e → Rep K c Z H v e) → Rep K c Z H (.ref a) d
  | kt (a : Addr) (vs : List V) (ds : List D) : KTu K a vs → vs.length = ds.length → (∀ (i : Nat) v e, vs[i]? = some v → ds[i]? = some e → Rep K c Z H v e) → Rep K c Z H (.ref a) (.tup ds)

  | scr (a : Addr) (ns : List Int) : (Rd H a (.lst (ns.map V.int)) ∧ ¬ Z a) ∨ KL K a (ns.map V.int) → Rep K c Z H (.ref a) (.scr ns)

/-- item by item -/
def Reps (K : PySem.W.Frag) (c : Cf) (Z : Addr → Prop) (H : Hp) (vs : List V) (ds : List D) : Prop :=
  vs.length = ds.length ∧ ∀ (i : Nat) v e, vs[i]? = some v → ds[i]? = some e → Rep K c Z H v e

section
variable {K : PySem.W.Frag} {c : Cf} {Z Z' : Addr → Prop} {H H' : Hp} {v : V} {d : D}
theorem Rep.mono (r : Rep K c Z H v d) (hz : ∀ a, Z' a → Z a ∨ H a = none) (hk : ∀ a o, ¬ Z a → H a = some o → H' a = some o) : Rep K c Z' H' v d := by
  induction r with
  | non => exact .non
  | bl b => exact .bl b
  | int i => exact .int i
  | str x => exact .str x
  | node a o d vs ds hr hn nd hl _ ih =>
    have hs : ∃ u, H a = some u := by
      rcases hr with h | ⟨x, h⟩
      · exact ⟨_, h⟩
      · exact ⟨_, h⟩
    refine .node a o d vs ds ?_ ?_ nd hl ih
    · rcases hr with h | ⟨x, h⟩
      · exact .inl (hk _ _ hn h)
      · exact .inr ⟨x, hk _ _ hn h⟩
    · intro z
      rcases hz a z with q | q
      · exact hn q
      · obtain ⟨u, e⟩ := hs
        rw [q] at e
        cases e
  | kt a vs ds hr hl _ ih => exact .kt a vs ds hr hl ih
  | scr a ns h =>
    refine .scr a ns (h.imp (fun ⟨hr, hn⟩ => ⟨?_, fun z => ?_⟩) id)
    · rcases hr with h | ⟨x, h⟩
      · exact .inl (hk _ _ hn h)
      · exact .inr ⟨x, hk _ _ hn h⟩
    · rcases hz a z with q | q
      · exact hn q
      · rcases hr with h | ⟨x, h⟩
        · rw [q] at h; cases h
        · rw [q] at h; cases h
theorem Rep.anti (r : Rep K c Z H v d) (hz : ∀ a, Z' a → Z a) : Rep K c Z' H v d := r.mono (fun a z => .inl (hz a z)) fun _ _ _ e => e
theorem Rep.alloc {p : Addr} {o : HO} (r : Rep K c Z H v d) (hp : H p = none) (hz : ∀ a, Z' a → Z a ∨ a = p) : Rep K c Z' (upd H p o) v d :=
  r.mono (fun a z => (hz a z).imp id fun e => by rw [e]; exact hp) fun a u _ e => by rw [upd_ne (ne_of_none e hp)]; exact e
theorem Reps.mono {vs : List V} {ds : List D} (r : Reps K c Z H vs ds) (hz : ∀ a, Z' a → Z a ∨ H a = none) (hk : ∀ a o, ¬ Z a → H a = some o → H' a = some o) : Reps K c Z' H' vs ds :=
  ⟨r.1, fun i v e h1 h2 => (r.2 i v e h1 h2).mono hz hk⟩
theorem Reps.anti {vs : List V} {ds : List D} (r : Reps K c Z H vs ds) (hz : ∀ a, Z' a → Z a) : Reps K c Z' H vs ds := ⟨r.1, fun i v e h1 h2 => (r.2 i v e h1 h2).anti hz⟩
theorem Reps.nil : Reps K c Z H [] [] := ⟨rfl, fun i v e h => by simp at h⟩
theorem Reps.cons {vs : List V} {ds : List D} (r : Rep K c Z H v d) (t : Reps K c Z H vs ds) : Reps K c Z H (v :: vs) (d :: ds) := by
  refine ⟨by simp [t.1], fun i w e h1 h2 => ?_⟩
  cases i with
  | zero => simp at h1 h2; subst h1; subst h2; exact r
  | succ n => exact t.2 n w e (by simpa using h1) (by simpa using h2)
theorem Reps.append {vs ws : List V} {ds es : List D} (r : Reps K c Z H vs ds) (t : Reps K c Z H ws es) : Reps K c Z H (vs ++ ws) (ds ++ es) := by
  refine ⟨by simp [r.1, t.1], fun i w e h1 h2 => ?_⟩
  by_cases hi : i < vs.length
  · rw [List.getElem?_append_left hi] at h1
    rw [List.getElem?_append_left (by rw [← r.1]; exact hi)] at h2
    exact r.2 i w e h1 h2
  · rw [List.getElem?_append_right (by omega)] at h1
    rw [List.getElem?_append_right (by rw [← r.1]; omega)] at h2
    rw [← r.1] at h2
    exact t.2 _ w e h1 h2
theorem Reps.set {vs : List V} {ds : List D} (r : Reps K c Z H vs ds) (j : Nat) (q : Rep K c Z H v d) : Reps K c Z H (vs.set j v) (ds.set j d) := by
  refine ⟨by simp [r.1], fun i w e h1 h2 => ?_⟩
  by_cases hi : j = i
  · subst hi
    by_cases hj : j < vs.length
    · rw [List.getElem?_set_self hj] at h1
      rw [List.getElem?_set_self (by rw [← r.1]; exact hj)] at h2
      cases h1; cases h2; exact q
    · rw [List.getElem?_eq_none (by simpa using hj)] at h1; cases h1
  · rw [List.getElem?_set_ne hi] at h1 h2
    exact r.2 i w e h1 h2
theorem Reps.sub {vs ws : List V} {ds es : List D} (r : Reps K c Z H vs ds) (hl : ws.length = es.length) (h : ∀ (i : Nat) w e, ws[i]? = some w → es[i]? = some e → ∃ j : Nat, vs[j]? = some w ∧ ds[j]? = some e) : Reps K c Z H ws es :=
  ⟨hl, fun i w e h1 h2 => let ⟨j, a, b⟩ := h i w e h1 h2; r.2 j w e a b⟩
theorem Reps.at {vs : List V} {ds : List D} (r : Reps K c Z H vs ds) {i : Nat} {e : D} (h : ds[i]? = some e) : ∃ v, vs[i]? = some v ∧ Rep K c Z H v e := by
  have hi : i < vs.length := by rw [r.1]; exact (List.getElem?_eq_some_iff.mp h).1
  exact ⟨vs[i], List.getElem?_eq_getElem hi, r.2 i _ _ (List.getElem?_eq_getElem hi) h⟩
theorem Reps.atv {vs : List V} {ds : List D} (r : Reps K c Z H vs ds) {i : Nat} {v : V} (h : vs[i]? = some v) : ∃ e, ds[i]? = some e ∧ Rep K c Z H v e := by
  have hi : i < ds.length := by rw [← r.1]; exact (List.getElem?_eq_some_iff.mp h).1
  exact ⟨ds[i], List.getElem?_eq_getElem hi, r.2 i _ _ h (List.getElem?_eq_getElem hi)⟩
theorem Reps.drop {vs : List V} {ds : List D} (r : Reps K c Z H vs ds) (n : Nat) : Reps K c Z H (vs.drop n) (ds.drop n) :=
  r.sub (by simp [r.1]) fun i w e h1 h2 => ⟨n + i, by simpa using h1, by simpa using h2⟩
theorem Reps.take {vs : List V} {ds : List D} (r : Reps K c Z H vs ds) (n : Nat) : Reps K c Z H (vs.take n) (ds.take n) :=
  r.sub (by simp [r.1]) fun i w e h1 h2 => by
    have h3 := h1
    rw [List.getElem?_take] at h1 h2
    split at h1
    · rename_i hn
      rw [if_pos hn] at h2
      exact ⟨i, h1, h2⟩
    · cases h1
theorem Reps.inv_nil {vs : List V} (r : Reps K c Z H vs []) : vs = [] := List.eq_nil_of_length_eq_zero r.1
theorem Reps.inv_cons {vs : List V} {ds : List D} (r : Reps K c Z H vs (d :: ds)) : ∃ v ws, vs = v :: ws ∧ Rep K c Z H v d ∧ Reps K c Z H ws ds := by
  cases vs with
  | nil => exact absurd r.1 (by simp)
  | cons v ws => exact ⟨v, ws, rfl, r.2 0 v d rfl rfl, by simpa using r.1, fun i w e h1 h2 => r.2 (i + 1) w e (by simpa using h1) (by simpa using h2)⟩
end

/-- an object that may be changed: all of its own -/
def Top (K : PySem.W.Frag) (c : Cf) (Z : Addr → Prop) (H : Hp) (a : Addr) (d : D) : Prop :=
  ∃ o vs ds, H a = some o ∧ Mut (some o) ∧ Node c o d vs ds ∧ Reps K c Z H vs ds
theorem Top.mono {K : PySem.W.Frag} {c : Cf} {Z Z' : Addr → Prop} {H H' : Hp} {a : Addr} {d : D} (r : Top K c Z H a d) (hz : ∀ a, Z' a → Z a ∨ H a = none) (hk : ∀ a o, ¬ Z a → H a = some o → H' a = some o) (ha : H' a = H a) : Top K c Z' H' a d := by
  obtain ⟨o, vs, ds, h, m, n, q⟩ := r
  exact ⟨o, vs, ds, ha.trans h, m, n, q.mono hz hk⟩
theorem Top.anti {K : PySem.W.Frag} {c : Cf} {Z Z' : Addr → Prop} {H : Hp} {a : Addr} {d : D} (r : Top K c Z H a d) (hz : ∀ a, Z' a → Z a) : Top K c Z' H a d :=
  r.mono (fun a z => .inl (hz a z)) (fun _ _ _ e => e) rfl
theorem Top.rep {K : PySem.W.Frag} {c : Cf} {Z : Addr → Prop} {H : Hp} {a : Addr} {d : D} (r : Top K c Z H a d) (hz : ¬ Z a) : Rep K c Z H (.ref a) d := by
  obtain ⟨o, vs, ds, h, m, n, q⟩ := r
  exact .node a o d vs ds (.inl h) hz n q.1 q.2

/-- seen from above: the top may be of one's own -/
def Vw (K : PySem.W.Frag) (c : Cf) (Z : Addr → Prop) (H : Hp) (v : V) (d : D) : Prop := Rep K c Z H v d ∨ ∃ a, v = .ref a ∧ Top K c Z H a d

section
variable {K : PySem.W.Frag} {c : Cf} {Z : Addr → Prop} {H : Hp} {v : V}
theorem Vw.non (r : Vw K c Z H v .non) : v = .non := by
  rcases r with r | ⟨a, _, o, vs, ds, _, _, n, _⟩
  · cases r with
    | non => rfl
    | node a o d vs ds _ _ n => cases n
  · cases n
theorem Vw.bl {b : Bool} (r : Vw K c Z H v (.bl b)) : v = .bl b := by
  rcases r with r | ⟨a, _, o, vs, ds, _, _, n, _⟩
  · cases r with
    | bl => rfl
    | node a o d vs ds _ _ n => cases n
  · cases n
theorem Vw.int {i : Int} (r : Vw K c Z H v (.int i)) : v = .int i := by
  rcases r with r | ⟨a, _, o, vs, ds, _, _, n, _⟩
  · cases r with
    | int => rfl
    | node a o d vs ds _ _ n => cases n
  · cases n
theorem Vw.str {x : Str} (r : Vw K c Z H v (.str x)) : v = .str x := by
  rcases r with r | ⟨a, _, o, vs, ds, _, _, n, _⟩
  · cases r with
    | str => rfl
    | node a o d vs ds _ _ n => cases n
  · cases n
theorem Vw.lst {ds : List D} (r : Vw K c Z H v (.lst ds)) : ∃ a vs, v = .ref a ∧ Rd H a (.lst vs) ∧ Reps K c Z H vs ds := by
  rcases r with r | ⟨a, rfl, o, vs, ds', h, _, n, q⟩
  · cases r with
    | node a o d vs ds' hr hz n hl q =>
      cases n
      exact ⟨a, vs, rfl, hr, hl, q⟩
  · cases n
    exact ⟨a, vs, rfl, .inl h, q⟩
theorem Vw.tup {ds : List D} (r : Vw K c Z H v (.tup ds)) : ∃ a vs, v = .ref a ∧ SqT K H a vs ∧ Reps K c Z H vs ds := by
  rcases r with r | ⟨a, rfl, o, vs, ds', h, _, n, q⟩
  · cases r with
    | node a o d vs ds' hr hz n hl q =>
      cases n
      exact ⟨a, vs, rfl, .inl hr, hl, q⟩
    | kt a vs ds' hr hl q => exact ⟨a, vs, rfl, .inr hr, hl, q⟩
  · cases n
    exact ⟨a, vs, rfl, .inl (.inl h), q⟩
theorem Vw.dct {kd : List (Key × D)} (r : Vw K c Z H v (.dct kd)) : ∃ a ks, v = .ref a ∧ Rd H a (.dK ks) ∧ ks.map (·.1) = kd.map (·.1) ∧ Reps K c Z H (ks.map (·.2)) (kd.map (·.2)) := by
  rcases r with r | ⟨a, rfl, o, vs, ds', h, _, n, q⟩
  · cases r with
    | node a o d vs ds' hr hz n hl q =>
      cases n with
      | dct ks kd e => exact ⟨a, ks, rfl, hr, e, hl, q⟩
  · cases n with
    | dct ks kd e => exact ⟨a, ks, rfl, .inl h, e, q⟩
theorem Vw.dtp {kd : List (List Key × D)} (r : Vw K c Z H v (.dtp kd)) : ∃ a ks, v = .ref a ∧ Rd H a (.dT ks) ∧ ks.map (·.1) = kd.map (·.1) ∧ Reps K c Z H (ks.map (·.2)) (kd.map (·.2)) := by
  rcases r with r | ⟨a, rfl, o, vs, ds', h, _, n, q⟩
  · cases r with
    | node a o d vs ds' hr hz n hl q =>
      cases n with
      | dtp ks kd e => exact ⟨a, ks, rfl, hr, e, hl, q⟩
  · cases n with
    | dtp ks kd e => exact ⟨a, ks, rfl, .inl h, e, q⟩
theorem Vw.set {xs : List Int} (r : Vw K c Z H v (.set xs)) : ∃ a S, v = .ref a ∧ Rd H a (.set S xs.length) ∧ (∀ i, S i = true ↔ i ∈ xs) ∧ xs.Nodup := by
  rcases r with r | ⟨a, rfl, o, vs, ds', h, _, n, q⟩
  · cases r with
    | node a o d vs ds' hr hz n hl q =>
      cases n with
      | set S xs e nd => exact ⟨a, S, rfl, hr, e, nd⟩
  · cases n with
    | set S xs e nd => exact ⟨a, S, rfl, .inl h, e, nd⟩
theorem Vw.scr {ns : List Int} (r : Vw K c Z H v (.scr ns)) : ∃ a, v = .ref a ∧ SqL K H a (ns.map V.int) := by
  rcases r with r | ⟨a, rfl, o, vs, ds', h, _, n, q⟩
  · cases r with
    | node a o d vs ds' hr hz n hl q => cases n
    | scr a ns h => exact ⟨a, rfl, h.imp (fun q => q.1) id⟩
  · cases n
theorem Vw.obj {k : Nat} {fd : List (Str × D)} (r : Vw K c Z H v (.obj k fd)) : ∃ a dx fv, v = .ref a ∧ Rd H a (.ins (c.cl k) dx fv) ∧ fv.map (·.1) = fd.map (·.1) ∧ Reps K c Z H (fv.map (·.2)) (fd.map (·.2)) := by
  rcases r with r | ⟨a, rfl, o, vs, ds', h, _, n, q⟩
  · cases r with
    | node a o d vs ds' hr hz n hl q =>
      cases n with
      | obj k dx fv fd e => exact ⟨a, dx, fv, rfl, hr, e, hl, q⟩
  · cases n with
    | obj k dx fv fd e => exact ⟨a, dx, fv, rfl, .inl h, e, q⟩
/-- the whole, as it is read -/
theorem Vw.rep0 {d : D} (r : Vw K c Z H v d) : Rep K c (fun _ => False) H v d := by
  rcases r with r | ⟨a, rfl, r⟩
  · exact r.anti fun _ z => z.elim
  · exact (r.anti fun _ z => z.elim).rep fun z => z
end

/-! ### the state by data -/
inductive Kd | sh | ow | io
  deriving DecidableEq
abbrev Bd := Kd × D
abbrev En := List (Option Bd)

structure Gd where
  H0 : Hp
  Z0 : Addr → Prop
  U : Addr → Prop
  fx : Nat → Addr
  T : List (V × D)

def OwnA (E : En) (σ : St) (a : Addr) : Prop := ∃ (i : Nat) (k : Kd) (d : D), E[i]? = some (some (k, d)) ∧ k ≠ .sh ∧ σ[i]? = some (some (.ref a))
def ZZ (G : Gd) (E : En) (σ : St) (a : Addr) : Prop := G.Z0 a ∨ OwnA E σ a
def RelB (K : PySem.W.Frag) (c : Cf) (G : Gd) (Z : Addr → Prop) (H : Hp) (i : Nat) (v : V) : Bd → Prop
  | (.sh, d) => Rep K c Z H v d
  | (k, d) => ∃ a, v = .ref a ∧ Top K c Z H a d ∧ (G.U a ∨ G.H0 a = none) ∧ ¬ G.Z0 a ∧ (k = .io → a = G.fx i)

structure DI (K : PySem.W.Frag) (c : Cf) (G : Gd) (E : En) (σ : St) (H : Hp) : Prop where
  keep : ∀ b o, G.H0 b = some o → ¬ G.U b → H b = some o
  ln : E.length = σ.length
  rel : ∀ (i : Nat) b, E[i]? = some (some b) → ∃ v, σ[i]? = some (some v) ∧ RelB K c G (ZZ G E σ) H i v b
  un : ∀ (i j : Nat) k k' d d' a, E[i]? = some (some (k, d)) → E[j]? = some (some (k', d')) → k ≠ .sh → k' ≠ .sh → σ[i]? = some (some (.ref a)) → σ[j]? = some (some (.ref a)) → i = j
  zin : ∀ a, G.Z0 a → ∃ o, H a = some o
  pin : ∀ p ∈ G.T, Rep K c (ZZ G E σ) H p.1 p.2

/-- what an expression gives: shared data, a new object of one's own, a name's own object -/
inductive Ev | s (d : D) | o (d : D) | b (i : Nat)

def Gd.addZ (G : Gd) (a : Addr) : Gd := { G with Z0 := fun b => G.Z0 b ∨ b = a }
def Gd.addT (G : Gd) (v : V) (d : D) : Gd := { G with T := (v, d) :: G.T }

def RepE (K : PySem.W.Frag) (c : Cf) (G : Gd) (E : En) (σ : St) (H : Hp) (v : V) : Ev → Prop
  | .s d => Rep K c (ZZ G E σ) H v d
  | .o d => ∃ a, v = .ref a ∧ Top K c (ZZ (G.addZ a) E σ) H a d ∧ DI K c (G.addZ a) E σ H ∧ (G.U a ∨ G.H0 a = none) ∧ ¬ ZZ G E σ a
  | .b i => σ[i]? = some (some v)

def dat (E : En) : Ev → Option D
  | .s d => some d
  | .o d => some d
  | .b i => match E[i]? with
    | some (some b) => some b.2
    | _ => none

section
variable {K : PySem.W.Frag} {c : Cf} {G : Gd} {E : En} {σ : St} {H : Hp} {v : V} {e : Ev} {d : D}

theorem ZZ.addZ {a b : Addr} : ZZ (G.addZ a) E σ b ↔ ZZ G E σ b ∨ b = a := by
  unfold ZZ Gd.addZ
  constructor
  · rintro ((h | h) | h)
    · exact .inl (.inl h)
    · exact .inr h
    · exact .inl (.inr h)
  · rintro ((h | h) | h)
    · exact .inl (.inl h)
    · exact .inr h
    · exact .inl (.inr h)
theorem RelB.anti {Z Z' : Addr → Prop} {i : Nat} {b : Bd} (r : RelB K c G Z H i v b) (hz : ∀ a, Z' a → Z a) : RelB K c G Z' H i v b := by
  obtain ⟨k, d⟩ := b
  cases k with
  | sh => exact Rep.anti r hz
  | ow => obtain ⟨a, e, t, q⟩ := r; exact ⟨a, e, t.anti hz, q⟩
  | io => obtain ⟨a, e, t, q⟩ := r; exact ⟨a, e, t.anti hz, q⟩
/-- all that is own stands in the heap -/
theorem DI.ownH (I : DI K c G E σ H) {a : Addr} (h : OwnA E σ a) : ∃ o, H a = some o := by
  obtain ⟨i, k, d, e, nk, es⟩ := h
  obtain ⟨v, ev, r⟩ := I.rel i _ e
  rw [es] at ev
  cases ev
  cases k with
  | sh => exact absurd rfl nk
  | ow => obtain ⟨a', ea, ⟨o, _, _, h, _⟩, _⟩ := r; cases ea; exact ⟨o, h⟩
  | io => obtain ⟨a', ea, ⟨o, _, _, h, _⟩, _⟩ := r; cases ea; exact ⟨o, h⟩
theorem DI.zz (I : DI K c G E σ H) {a : Addr} (h : ZZ G E σ a) : ∃ o, H a = some o := h.elim (I.zin a) I.ownH
theorem DI.nz (I : DI K c G E σ H) {p : Addr} (h : H p = none) : ¬ ZZ G E σ p := fun z => by
  obtain ⟨o, e⟩ := I.zz z
  rw [h] at e
  cases e
theorem RelB.vw {Z : Addr → Prop} {i : Nat} {b : Bd} (r : RelB K c G Z H i v b) : Vw K c Z H v b.2 := by
  obtain ⟨k, d⟩ := b
  cases k with
  | sh => exact .inl r
  | ow => obtain ⟨a, e, t, q⟩ := r; exact .inr ⟨a, e, t⟩
  | io => obtain ⟨a, e, t, q⟩ := r; exact .inr ⟨a, e, t⟩
theorem DI.vw (I : DI K c G E σ H) (r : RepE K c G E σ H v e) (hd : dat E e = some d) : Vw K c (ZZ G E σ) H v d := by
  cases e with
  | s d' => cases hd; exact .inl r
  | o d' =>
    cases hd
    obtain ⟨a, e, t, _⟩ := r
    exact .inr ⟨a, e, t.anti fun b z => ZZ.addZ.mpr (.inl z)⟩
  | b i =>
    have hd' : (match E[i]? with
      | some (some b) => some b.2
      | _ => none) = some d := hd
    split at hd'
    · rename_i b hb
      cases hd'
      obtain ⟨w, ew, q⟩ := I.rel i b hb
      have : σ[i]? = some (some v) := r
      rw [this] at ew
      cases ew
      exact q.vw
    · cases hd'
theorem DI.unT {w : V} {d' : D} (I : DI K c (G.addT w d') E σ H) : DI K c G E σ H := ⟨I.keep, I.ln, I.rel, I.un, I.zin, fun p hp => I.pin p (List.mem_cons_of_mem _ hp)⟩
theorem DI.addT {w : V} {d' : D} (I : DI K c G E σ H) (r : Rep K c (ZZ G E σ) H w d') : DI K c (G.addT w d') E σ H :=
  ⟨I.keep, I.ln, I.rel, I.un, I.zin, fun p hp => by
    rcases List.mem_cons.mp hp with rfl | hp
    · exact r
    · exact I.pin p hp⟩
theorem DI.pinT {w : V} {d' : D} (I : DI K c (G.addT w d') E σ H) : Rep K c (ZZ G E σ) H w d' := I.pin (w, d') List.mem_cons_self
theorem RepE.unT {w : V} {d' : D} (r : RepE K c (G.addT w d') E σ H v e) : RepE K c G E σ H v e := by
  cases e with
  | s d => exact r
  | o d => obtain ⟨a, h1, h2, h3, h4⟩ := r; exact ⟨a, h1, h2, DI.unT (G := G.addZ a) h3, h4⟩
  | b i => exact r
/-- the new object becomes shared -/
theorem RepE.rep_o (r : RepE K c G E σ H v (.o d)) : Rep K c (ZZ G E σ) H v d := by
  obtain ⟨a, rfl, t, _, _, nz⟩ := r
  exact (t.anti fun b z => ZZ.addZ.mpr (.inl z)).rep nz
/-- a new object -/
theorem DI.alloc {p : Addr} {o : HO} (I : DI K c G E σ H) (hp : H p = none) : DI K c G E σ (upd H p o) := by
  refine ⟨fun b u e nu => ?_, I.ln, fun i b e => ?_, I.un, fun a z => ?_, fun q hq => ?_⟩
  · have := I.keep b u e nu
    rw [upd_ne (ne_of_none this hp)]
    exact this
  · obtain ⟨w, ew, r⟩ := I.rel i b e
    refine ⟨w, ew, ?_⟩
    obtain ⟨k, d⟩ := b
    have top : ∀ {a d}, Top K c (ZZ G E σ) H a d → Top K c (ZZ G E σ) (upd H p o) a d := fun {a d} t => by
      obtain ⟨u, _, _, h, _⟩ := id t
      exact t.mono (fun b z => .inl z) (fun b u _ e => by rw [upd_ne (ne_of_none e hp)]; exact e) (upd_ne (ne_of_none h hp))
    cases k with
    | sh => exact Rep.alloc r hp fun a z => .inl z
    | ow => obtain ⟨a, e, t, q⟩ := r; exact ⟨a, e, top t, q⟩
    | io => obtain ⟨a, e, t, q⟩ := r; exact ⟨a, e, top t, q⟩
  · obtain ⟨u, e⟩ := I.zin a z
    exact ⟨u, by rw [upd_ne (ne_of_none e hp)]; exact e⟩
  · exact (I.pin q hq).alloc hp fun a z => .inl z
theorem DI.h0 (I : DI K c G E σ H) {p : Addr} (hp : H p = none) : G.U p ∨ G.H0 p = none := by
  by_cases h : G.U p
  · exact .inl h
  · refine .inr ?_
    cases e : G.H0 p with
    | none => rfl
    | some o => rw [I.keep p o e h] at hp; cases hp
/-- a new thing that never changes, or is shared at once -/
theorem DI.newS {p : Addr} {o : HO} {vs : List V} {ds : List D} (I : DI K c G E σ H) (hp : H p = none) (n : Node c o d vs ds) (r : Reps K c (ZZ G E σ) H vs ds) :
    DI K c G E σ (upd H p o) ∧ Rep K c (ZZ G E σ) (upd H p o) (.ref p) d := by
  refine ⟨I.alloc hp, ?_⟩
  have r' := r.mono (Z' := ZZ G E σ) (H' := upd H p o) (fun a z => .inl z) fun a u _ e => by rw [upd_ne (ne_of_none e hp)]; exact e
  exact .node p o d vs ds (.inl upd_same) (I.nz hp) n r'.1 r'.2
/-- .. and it is one's own -/
theorem DI.new {p : Addr} {o : HO} {vs : List V} {ds : List D} (I : DI K c G E σ H) (hp : H p = none) (m : Mut (some o)) (n : Node c o d vs ds) (r : Reps K c (ZZ G E σ) H vs ds) :
    DI K c G E σ (upd H p o) ∧ RepE K c G E σ (upd H p o) (.ref p) (.o d) := by
  have J : DI K c G E σ (upd H p o) := I.alloc hp
  have hz : ∀ a, ZZ (G.addZ p) E σ a → ZZ G E σ a ∨ H a = none := fun a z => (ZZ.addZ.mp z).imp id fun e => by rw [e]; exact hp
  have hk : ∀ a u, ¬ ZZ G E σ a → H a = some u → upd H p o a = some u := fun a u _ e => by rw [upd_ne (ne_of_none e hp)]; exact e
  refine ⟨J, p, rfl, ⟨o, vs, ds, upd_same, m, n, r.mono hz hk⟩, ⟨J.keep, J.ln, fun i b e => ?_, J.un, fun a z => ?_, fun q hq => (I.pin q hq).mono hz hk⟩, I.h0 hp, I.nz hp⟩
  · obtain ⟨w, ew, r⟩ := I.rel i b e
    refine ⟨w, ew, ?_⟩
    obtain ⟨k, d⟩ := b
    have top : ∀ {a d}, σ[i]? = some (some (.ref a)) → Top K c (ZZ G E σ) H a d → Top K c (ZZ (G.addZ p) E σ) (upd H p o) a d ∧ a ≠ p := fun {a d} _ t => by
      obtain ⟨u, _, _, h, _⟩ := id t
      exact ⟨t.mono hz hk (upd_ne (ne_of_none h hp)), ne_of_none h hp⟩
    cases k with
    | sh => exact Rep.mono r hz hk
    | ow =>
      obtain ⟨a, rfl, t, q1, q2, q3⟩ := r
      exact ⟨a, rfl, (top ew t).1, q1, fun z => z.elim q2 (top ew t).2, q3⟩
    | io =>
      obtain ⟨a, rfl, t, q1, q2, q3⟩ := r
      exact ⟨a, rfl, (top ew t).1, q1, fun z => z.elim q2 (top ew t).2, q3⟩
  · rcases z with z | rfl
    · exact J.zin a z
    · exact ⟨o, upd_same⟩
end
end DS

namespace DS
open PySem PySem.Spec L2

inductive Res (α : Type) | ok (a : α) | ex (k : Nat) (v : V) (E : En) | fail
def Res.bind {α β : Type} : Res α → (α → Res β) → Res β
  | .ok a, f => f a
  | .ex k v E, _ => .ex k v E
  | .fail, _ => .fail
def Res.of {α : Type} : Option α → Res α
  | some a => .ok a
  | none => .fail
abbrev XE := En → Res (Ev × En)
abbrev XT := En → Res (Bool × En)
abbrev XA := En → Res (List Ev × En)

def ExOk (K : PySem.W.Frag) (c : Cf) (G : Gd) (W : WX) (σ : St) (k : Nat) (v : V) (E : En) : Prop :=
  ∀ dx H, DI K c G E σ H → H dx = some (.xd [(c.xf k, v)]) → W (.ref (c.cl k)) (some dx) σ H
def OkG (K : PySem.W.Frag) (c : Cf) (G : Gd) (W : WX) (σ : St) {α : Type} (P : α → Prop) : Res α → Prop
  | .ok a => P a
  | .ex k v E => ExOk K c G W σ k v E
  | .fail => False
theorem OkG.bind {K : PySem.W.Frag} {c : Cf} {G : Gd} {W : WX} {σ : St} {α β : Type} {P : β → Prop} {P' : α → Prop} {f : Res α} {g : α → Res β} (h : OkG K c G W σ P (f.bind g)) (k : ∀ a, OkG K c G W σ P (g a) → P' a) : OkG K c G W σ P' f := by
  cases f with
  | ok a => exact k a h
  | ex k v E => exact h
  | fail => exact h
theorem OkG.of {K : PySem.W.Frag} {c : Cf} {G : Gd} {W : WX} {σ : St} {α β : Type} {P : β → Prop} {o : Option α} {g : α → Res β} (h : OkG K c G W σ P ((Res.of o).bind g)) : ∃ a, o = some a ∧ OkG K c G W σ P (g a) := by
  cases o with
  | none => exact h.elim
  | some a => exact ⟨a, rfl, h⟩
/-- fewer pins -/
theorem OkG.addT {K : PySem.W.Frag} {c : Cf} {G : Gd} {W : WX} {σ : St} {α : Type} {P P' : α → Prop} {f : Res α} {w : V} {d : D} (h : OkG K c G W σ P f) (k : ∀ a, P a → P' a) : OkG K c (G.addT w d) W σ P' f := by
  cases f with
  | ok a => exact k a h
  | ex k v E => exact fun dx H I => h dx H I.unT
  | fail => exact h

def PE1 (K : PySem.W.Frag) (c : Cf) (G : Gd) (σ : St) (Q : VK) (p : Ev × En) : Prop := ∀ v H, DI K c G p.2 σ H → RepE K c G p.2 σ H v p.1 → Q v H
def PT1 (K : PySem.W.Frag) (c : Cf) (G : Gd) (σ : St) (Q : Bool → Hp → Prop) (p : Bool × En) : Prop := ∀ H, DI K c G p.2 σ H → Q p.1 H
/-- an argument that waits -/
def RepA (K : PySem.W.Frag) (c : Cf) (G : Gd) (E : En) (σ : St) (H : Hp) (v : V) : Ev → Prop
  | .s d => Rep K c (ZZ G E σ) H v d
  | .o d => Rep K c (ZZ G E σ) H v d
  | .b i => σ[i]? = some (some v)
def RepAs (K : PySem.W.Frag) (c : Cf) (G : Gd) (E : En) (σ : St) (H : Hp) : List V → List Ev → Prop
  | [], [] => True
  | v :: vs, e :: es => RepA K c G E σ H v e ∧ RepAs K c G E σ H vs es
  | _, _ => False
def PA1 (K : PySem.W.Frag) (c : Cf) (G : Gd) (σ : St) (Q : List V → Hp → Prop) (p : List Ev × En) : Prop := ∀ vs H, DI K c G p.2 σ H → RepAs K c G p.2 σ H vs p.1 → Q vs H

def SE (K : PySem.W.Frag) (c : Cf) (W : WX) (t : TE) (f : XE) : Prop := ∀ G E σ H Q, DI K c G E σ H → OkG K c G W σ (PE1 K c G σ Q) (f E) → t σ H Q
def SF (K : PySem.W.Frag) (c : Cf) (W : WX) (t : TT) (f : XT) : Prop := ∀ G E σ H Q, DI K c G E σ H → OkG K c G W σ (PT1 K c G σ Q) (f E) → t σ H Q
def SA (K : PySem.W.Frag) (c : Cf) (W : WX) (t : TA) (f : XA) : Prop := ∀ G E σ H Q, DI K c G E σ H → OkG K c G W σ (PA1 K c G σ Q) (f E) → t σ H Q

/-- an expression, its reading, its value by data -/
structure DE (c : Cf) (W : WX) (X : Cx) (e : Expr) (t : TE) (f : XE) : Prop where
  pe : PE X e t
  se : SE X.K c W t f
structure DT (c : Cf) (W : WX) (X : Cx) (e : Expr) (t : TT) (f : XT) : Prop where
  pe : PT X e t
  se : SF X.K c W t f
structure DA (c : Cf) (W : WX) (X : Cx) (e : List Expr) (t : TA) (f : XA) : Prop where
  pe : PA X e t
  se : SA X.K c W t f

section
variable {K : PySem.W.Frag} {c : Cf} {G : Gd} {E E' : En} {σ : St} {H H' : Hp} {v : V} {e : Ev} {d : D} {W : WX}
/-- hold a value while more is reckoned -/
def hold (G : Gd) (v : V) : Ev → Gd
  | .s d => G.addT v d
  | .o d => G.addT v d
  | .b _ => G
theorem RepE.a (r : RepE K c G E σ H v e) : RepA K c G E σ H v e := by
  cases e with
  | s d => exact r
  | o d => exact r.rep_o
  | b i => exact r
theorem DI.hold (I : DI K c G E σ H) (r : RepE K c G E σ H v e) : DI K c (hold G v e) E σ H := by
  cases e with
  | s d => exact I.addT r
  | o d => exact I.addT r.rep_o
  | b i => exact I
theorem DI.unhold (I : DI K c (DS.hold G v e) E σ H) : DI K c G E σ H := by
  cases e with
  | s d => exact I.unT
  | o d => exact I.unT
  | b i => exact I
theorem RepE.unhold {w : V} {e' : Ev} (r : RepE K c (DS.hold G v e) E σ H w e') : RepE K c G E σ H w e' := by
  cases e with
  | s d => exact r.unT
  | o d => exact r.unT
  | b i => exact r
theorem RepA.unhold {w : V} {e' : Ev} (r : RepA K c (DS.hold G v e) E σ H w e') : RepA K c G E σ H w e' := by
  cases e <;> (cases e' <;> exact r)
theorem RepAs.unhold : ∀ {ws : List V} {es : List Ev}, RepAs K c (DS.hold G v e) E σ H ws es → RepAs K c G E σ H ws es
  | [], [], _ => trivial
  | w :: ws, e' :: es, r => ⟨r.1.unhold, RepAs.unhold r.2⟩
  | [], _ :: _, r => r.elim
  | _ :: _, [], r => r.elim
/-- what was held is there -/
theorem DI.held {H0 : Hp} {E0 : En} (r : RepE K c G E0 σ H0 v e) (I : DI K c (DS.hold G v e) E σ H) : RepA K c G E σ H v e := by
  cases e with
  | s d => exact I.pinT
  | o d => exact I.pinT
  | b i => exact r
theorem DI.vwA (I : DI K c G E σ H) (r : RepA K c G E σ H v e) (hd : dat E e = some d) : Vw K c (ZZ G E σ) H v d := by
  cases e with
  | s d' => cases hd; exact .inl r
  | o d' => cases hd; exact .inl r
  | b i => exact I.vw (e := .b i) r hd
theorem OkG.hold {α : Type} {P P' : α → Prop} {f : Res α} (h : OkG K c G W σ P f) (k : ∀ a, P a → P' a) : OkG K c (DS.hold G v e) W σ P' f := by
  cases e with
  | s d => exact h.addT k
  | o d => exact h.addT k
  | b i =>
    cases f with
    | ok a => exact k a h
    | ex k v E => exact h
    | fail => exact h

/-! two operands -/
def Sem2 (K : PySem.W.Frag) (c : Cf) (r : R2) (g : D → D → Option Ev) : Prop := ∀ (G : Gd) (E : En) (σ : St) (H : Hp) (x y : V) (d1 d2 : D) (e : Ev) (Q : VK), DI K c G E σ H → Vw K c (ZZ G E σ) H x d1 → Vw K c (ZZ G E σ) H y d2 → g d1 d2 = some e →
  (∀ v H', DI K c G E σ H' → RepE K c G E σ H' v e → Q v H') → r x y H Q
def Sem1 (K : PySem.W.Frag) (c : Cf) (r : V → Hp → VK → Prop) (g : D → Option Ev) : Prop := ∀ (G : Gd) (E : En) (σ : St) (H : Hp) (x : V) (d1 : D) (e : Ev) (Q : VK), DI K c G E σ H → Vw K c (ZZ G E σ) H x d1 → g d1 = some e →
  (∀ v H', DI K c G E σ H' → RepE K c G E σ H' v e → Q v H') → r x H Q
/-- the arguments by data, as they stand at the call -/
def dats (E : En) : List Ev → Option (List D)
  | [] => some []
  | e :: es => (dat E e).bind fun d => (dats E es).bind fun ds => some (d :: ds)
def Vws (K : PySem.W.Frag) (c : Cf) (Z : Addr → Prop) (H : Hp) : List V → List D → Prop
  | [], [] => True
  | v :: vs, d :: ds => Vw K c Z H v d ∧ Vws K c Z H vs ds
  | _, _ => False
def SemL (K : PySem.W.Frag) (c : Cf) (r : List V → Hp → VK → Prop) (g : List D → Option Ev) : Prop := ∀ (G : Gd) (E : En) (σ : St) (H : Hp) (xs : List V) (ds : List D) (e : Ev) (Q : VK), DI K c G E σ H → Vws K c (ZZ G E σ) H xs ds → g ds = some e →
  (∀ v H', DI K c G E σ H' → RepE K c G E σ H' v e → Q v H') → r xs H Q
theorem DI.vws (I : DI K c G E σ H) : ∀ {vs : List V} {es : List Ev} {ds : List D}, RepAs K c G E σ H vs es → dats E es = some ds → Vws K c (ZZ G E σ) H vs ds
  | [], [], ds, _, h => by
    obtain rfl : [] = ds := Option.some.inj h
    trivial
  | v :: vs, e :: es, ds, r, h => by
    have h' : ((dat E e).bind fun d => (dats E es).bind fun ds => some (d :: ds)) = some ds := h
    obtain ⟨d, h1, h2⟩ := Option.bind_eq_some_iff.mp h'
    obtain ⟨ds', h3, h4⟩ := Option.bind_eq_some_iff.mp h2
    cases h4
    exact ⟨I.vwA r.1 h1, I.vws r.2 h3⟩
  | [], _ :: _, _, r, _ => r.elim
  | _ :: _, [], _, r, _ => r.elim
def Ev.nm : Ev → Ev
  | .o d => .s d
  | e => e
theorem RepA.nm (r : RepA K c G E σ H v e) : RepA K c G E σ H v e.nm := by cases e <;> exact r
def x2 (g : D → D → Option Ev) (f1 f2 : XE) : XE := fun E => (f1 E).bind fun p => (f2 p.2).bind fun q =>
  (Res.of (dat q.2 p.1)).bind fun a => (Res.of (dat q.2 q.1)).bind fun b => (Res.of (g a b)).bind fun e => .ok (e, q.2)
def x1 (g : D → Option Ev) (f1 : XE) : XE := fun E => (f1 E).bind fun p => (Res.of (dat p.2 p.1)).bind fun a => (Res.of (g a)).bind fun e => .ok (e, p.2)
def xs0 : XA := fun E => .ok ([], E)
def xsC (f : XE) (fs : XA) : XA := fun E => (f E).bind fun p => (fs p.2).bind fun q => .ok (p.1.nm :: q.1, q.2)
def xL (g : List D → Option Ev) (fs : XA) : XE := fun E => (fs E).bind fun p => (Res.of (dats p.2 p.1)).bind fun ds => (Res.of (g ds)).bind fun e => .ok (e, p.2)
variable {ta tb : TE} {f1 f2 : XE}
theorem SE.op2 {r : R2} {g : D → D → Option Ev} (ha : SE K c W ta f1) (hb : SE K c W tb f2) (hr : Sem2 K c r g) : SE K c W (tOp r ta tb) (x2 g f1 f2) := by
  intro G E σ H Q I h
  refine ha G E σ H _ I (h.bind fun p hp => ?_)
  intro v H1 I1 r1
  refine hb (hold G v p.1) p.2 σ H1 _ (I1.hold r1) (OkG.hold (OkG.bind hp fun q hq => hq) fun q hq => ?_)
  intro w H2 I2 r2
  obtain ⟨a, ea, hq⟩ := hq.of
  obtain ⟨b, eb, hq⟩ := hq.of
  obtain ⟨e, ee, hq⟩ := hq.of
  have A := DI.held r1 I2
  have J := I2.unhold
  exact hr G q.2 σ H2 v w a b e Q J (J.vwA A ea) (J.vw r2.unhold eb) ee hq
theorem SE.op1 {r : V → Hp → VK → Prop} {g : D → Option Ev} (ha : SE K c W ta f1) (hr : Sem1 K c r g) : SE K c W (tUn r ta) (x1 g f1) := by
  intro G E σ H Q I h
  refine ha G E σ H _ I (h.bind fun p hp => ?_)
  intro v H1 I1 r1
  obtain ⟨a, ea, hq⟩ := hp.of
  obtain ⟨e, ee, hq⟩ := hq.of
  exact hr G p.2 σ H1 v a e Q I1 (I1.vw r1 ea) ee hq
theorem SA.nil : SA K c W tNil xs0 := fun G E σ H Q I h => h [] H I trivial
theorem SA.cons {t : TA} {fs : XA} (ha : SE K c W ta f1) (hs : SA K c W t fs) : SA K c W (tCons ta t) (xsC f1 fs) := by
  intro G E σ H Q I h
  refine ha G E σ H _ I (h.bind fun p hp => ?_)
  intro v H1 I1 r1
  refine hs (hold G v p.1) p.2 σ H1 _ (I1.hold r1) (OkG.hold (OkG.bind hp fun q hq => hq) fun q hq => ?_)
  intro ws H2 I2 r2
  have A := DI.held r1 I2
  exact hq (v :: ws) H2 I2.unhold ⟨A.nm, r2.unhold⟩
/-- a built-in called, by values -/
abbrev tCal := tCB
theorem SE.lst {r : List V → Hp → VK → Prop} {g : List D → Option Ev} {t : TA} {fs : XA} (hs : SA K c W t fs) (hr : SemL K c r g) : SE K c W (tCal r t) (xL g fs) := by
  intro G E σ H Q I h
  refine hs G E σ H _ I (h.bind fun p hp => ?_)
  intro vs H1 I1 r1
  obtain ⟨ds, ea, hq⟩ := hp.of
  obtain ⟨e, ee, hq⟩ := hq.of
  exact hr G p.2 σ H1 vs ds e Q I1 (I1.vws r1 ea) ee hq

/-! what is kept elsewhere is shared from then on -/
def share (E : En) : Ev → Option (D × En)
  | .s d => some (d, E)
  | .o d => some (d, E)
  | .b i => match E[i]? with
    | some (some (.sh, d)) => some (d, E)
    | some (some (.ow, d)) => some (d, E.set i (some (.sh, d)))
    | _ => none
def shares (E : En) : List Ev → Option (List D × En)
  | [] => some ([], E)
  | e :: es => (share E e).bind fun p => (shares p.2 es).bind fun q => some (p.1 :: q.1, q.2)
theorem OwnA.freeze {i : Nat} {a : Addr} (h : OwnA (E.set i (some (.sh, d))) σ a) : OwnA E σ a := by
  obtain ⟨j, k, d', e, nk, es⟩ := h
  by_cases hj : i = j
  · subst hj
    by_cases hl : i < E.length
    · rw [List.getElem?_set_self hl] at e
      cases e
      exact absurd rfl nk
    · rw [List.getElem?_eq_none (by simpa using hl)] at e
      cases e
  · rw [List.getElem?_set_ne hj] at e
    exact ⟨j, k, d', e, nk, es⟩
theorem DI.freeze {i : Nat} {a : Addr} (I : DI K c G E σ H) (he : E[i]? = some (some (.ow, d))) (hs : σ[i]? = some (some (.ref a))) :
    DI K c G (E.set i (some (.sh, d))) σ H ∧ Rep K c (ZZ G (E.set i (some (.sh, d))) σ) H (.ref a) d := by
  have hz : ∀ b, ZZ G (E.set i (some (.sh, d))) σ b → ZZ G E σ b := fun b z => z.imp id OwnA.freeze
  have hl : i < E.length := (List.getElem?_eq_some_iff.mp he).1
  have R : Rep K c (ZZ G (E.set i (some (.sh, d))) σ) H (.ref a) d := by
    obtain ⟨v, ev, a', ea, t, q1, q2, q3⟩ := I.rel i _ he
    rw [hs] at ev
    cases ev
    cases ea
    refine (t.anti hz).rep ?_
    rintro (z | ⟨j, k, d', e, nk, es⟩)
    · exact q2 z
    · by_cases hj : i = j
      · subst hj
        rw [List.getElem?_set_self hl] at e
        cases e
        exact nk rfl
      · rw [List.getElem?_set_ne hj] at e
        exact hj (I.un i j .ow k d d' a he e (by decide) nk hs es)
  refine ⟨⟨I.keep, by simpa using I.ln, fun j b e => ?_, fun j j' k k' d1 d2 b e1 e2 n1 n2 s1 s2 => ?_, I.zin, fun p hp => (I.pin p hp).anti hz⟩, R⟩
  · by_cases hj : i = j
    · subst hj
      rw [List.getElem?_set_self hl] at e
      cases e
      exact ⟨.ref a, hs, R⟩
    · rw [List.getElem?_set_ne hj] at e
      obtain ⟨w, ew, r⟩ := I.rel j b e
      exact ⟨w, ew, r.anti hz⟩
  · by_cases hj : i = j
    · subst hj
      rw [List.getElem?_set_self hl] at e1
      cases e1
      exact absurd rfl n1
    · rw [List.getElem?_set_ne hj] at e1
      by_cases hj' : i = j'
      · subst hj'
        rw [List.getElem?_set_self hl] at e2
        cases e2
        exact absurd rfl n2
      · rw [List.getElem?_set_ne hj'] at e2
        exact I.un j j' k k' d1 d2 b e1 e2 n1 n2 s1 s2
theorem DI.share (I : DI K c G E σ H) (r : RepA K c G E σ H v e) (h : share E e = some (d, E')) :
    DI K c G E' σ H ∧ Rep K c (ZZ G E' σ) H v d ∧ ∀ b, ZZ G E' σ b → ZZ G E σ b := by
  cases e with
  | s d' =>
    cases h
    exact ⟨I, r, fun b z => z⟩
  | o d' =>
    cases h
    exact ⟨I, r, fun b z => z⟩
  | b i =>
    have h' : (match E[i]? with
      | some (some (.sh, d)) => some (d, E)
      | some (some (.ow, d)) => some (d, E.set i (some (.sh, d)))
      | _ => none) = some (d, E') := h
    split at h'
    · rename_i d' he
      cases h'
      obtain ⟨w, ew, q⟩ := I.rel i _ he
      have hv : σ[i]? = some (some v) := r
      rw [hv] at ew
      cases ew
      exact ⟨I, q, fun b z => z⟩
    · rename_i d' he
      cases h'
      obtain ⟨w, ew, a, ea, t, q⟩ := I.rel i _ he
      have hv : σ[i]? = some (some v) := r
      rw [hv] at ew
      cases ew
      subst ea
      obtain ⟨J, R⟩ := I.freeze he hv
      exact ⟨J, R, fun b z => z.imp id OwnA.freeze⟩
    · cases h'
theorem RepA.anti {w : V} {e' : Ev} (r : RepA K c G E σ H w e') (hz : ∀ b, ZZ G E' σ b → ZZ G E σ b) : RepA K c G E' σ H w e' := by
  cases e' with
  | s d => exact Rep.anti r hz
  | o d => exact Rep.anti r hz
  | b i => exact r
theorem RepAs.anti (hz : ∀ b, ZZ G E' σ b → ZZ G E σ b) : ∀ {ws : List V} {es : List Ev}, RepAs K c G E σ H ws es → RepAs K c G E' σ H ws es
  | [], [], _ => trivial
  | w :: ws, e' :: es, r => ⟨r.1.anti hz, RepAs.anti hz r.2⟩
  | [], _ :: _, r => r.elim
  | _ :: _, [], r => r.elim
theorem DI.shares : ∀ {vs : List V} {es : List Ev} {E E' : En} {ds : List D}, DI K c G E σ H → RepAs K c G E σ H vs es → shares E es = some (ds, E') →
    DI K c G E' σ H ∧ Reps K c (ZZ G E' σ) H vs ds ∧ ∀ b, ZZ G E' σ b → ZZ G E σ b
  | [], [], E, E', ds, I, _, h => by
    cases h
    exact ⟨I, .nil, fun b z => z⟩
  | v :: vs, e :: es, E, E', ds, I, r, h => by
    have h' : ((DS.share E e).bind fun p => (DS.shares p.2 es).bind fun q => some (p.1 :: q.1, q.2)) = some (ds, E') := h
    obtain ⟨⟨d, E1⟩, h1, h2⟩ := Option.bind_eq_some_iff.mp h'
    obtain ⟨⟨ds', E2⟩, h3, h4⟩ := Option.bind_eq_some_iff.mp h2
    cases h4
    obtain ⟨I1, R1, z1⟩ := I.share r.1 h1
    obtain ⟨I2, R2, z2⟩ := I1.shares (r.2.anti z1) h3
    exact ⟨I2, .cons (R1.anti z2) R2, fun b z => z1 b (z2 b z)⟩
  | [], _ :: _, _, _, _, _, r, _ => r.elim
  | _ :: _, [], _, _, _, _, r, _ => r.elim

/-! ### names and constants -/
def xVar (i : Nat) : XE := fun E => match E[i]? with
  | some (some (.sh, d)) => .ok (.s d, E)
  | some (some _) => .ok (.b i, E)
  | _ => .fail
def xD (d : D) : XE := fun E => .ok (.s d, E)
theorem SE.var {i : Nat} : SE K c W (tVar i) (xVar i) := by
  intro G E σ H Q I h
  have h' : OkG K c G W σ (PE1 K c G σ Q) (match E[i]? with
    | some (some (.sh, d)) => .ok (.s d, E)
    | some (some _) => .ok (.b i, E)
    | _ => .fail) := h
  split at h'
  · rename_i d he
    obtain ⟨v, ev, r⟩ := I.rel i _ he
    exact ⟨v, ev, h' v H I r⟩
  · rename_i b nb he
    obtain ⟨v, ev, r⟩ := I.rel i _ he
    exact ⟨v, ev, h' v H I ev⟩
  · exact h'.elim
theorem SE.int {i : Int} : SE K c W (tC (.int i)) (xD (.int i)) := fun G E σ H Q I h => h _ H I (.int i)
theorem SE.bl {b : Bool} : SE K c W (tC (.bl b)) (xD (.bl b)) := fun G E σ H Q I h => h _ H I (.bl b)
theorem SE.non : SE K c W (tC .non) (xD .non) := fun G E σ H Q I h => h _ H I .non
theorem SE.str {x : Str} : SE K c W (tC (.str x)) (xD (.str x)) := fun G E σ H Q I h => h _ H I (.str x)

/-! ### displays -/
def xTup (fs : XA) : XE := fun E => (fs E).bind fun p => (Res.of (shares p.2 p.1)).bind fun q => if q.1.length ≤ sizeLine then .ok (.s (.tup q.1), q.2) else .fail
def xLst (fs : XA) : XE := fun E => (fs E).bind fun p => (Res.of (shares p.2 p.1)).bind fun q => if q.1.length ≤ sizeLine then .ok (.o (.lst q.1), q.2) else .fail
theorem SE.tup {t : TA} {fs : XA} (hs : SA K c W t fs) : SE K c W (tTup t) (xTup fs) := by
  intro G E σ H Q I h
  refine hs G E σ H _ I (h.bind fun p hp => ?_)
  intro vs H1 I1 r1
  obtain ⟨⟨ds, E2⟩, ea, hq⟩ := hp.of
  obtain ⟨I2, R, _⟩ := I1.shares r1 ea
  by_cases hl : ds.length ≤ sizeLine
  · rw [if_pos hl] at hq
    refine ⟨by rw [R.1]; exact hl, fun a ha => ?_⟩
    obtain ⟨J, q⟩ := I2.newS ha (.tup vs ds) R
    exact hq _ _ J q
  · rw [if_neg hl] at hq
    exact hq.elim
theorem SE.lstD {t : TA} {fs : XA} (hs : SA K c W t fs) : SE K c W (tLst t) (xLst fs) := by
  intro G E σ H Q I h
  refine hs G E σ H _ I (h.bind fun p hp => ?_)
  intro vs H1 I1 r1
  obtain ⟨⟨ds, E2⟩, ea, hq⟩ := hp.of
  obtain ⟨I2, R, _⟩ := I1.shares r1 ea
  by_cases hl : ds.length ≤ sizeLine
  · rw [if_pos hl] at hq
    refine ⟨by rw [R.1]; exact hl, fun a ha => ?_⟩
    obtain ⟨J, q⟩ := I2.new ha (o := .lst vs) trivial (.lst vs ds) R
    exact hq _ _ J q
  · rw [if_neg hl] at hq
    exact hq.elim

/-! ### tests, conditional expressions -/
def tBool : Res (Ev × En) → Res (Bool × En)
  | .ok (e, E) => match dat E e with
    | some (.bl b) => .ok (b, E)
    | _ => .fail
  | .ex k v E => .ex k v E
  | .fail => .fail
/-- what an expression says as a test, by truth -/
def truth : D → Option Bool
  | .non => some false
  | .bl b => some b
  | .int i => some (i != 0)
  | .str x => if x.length ≤ sizeLine then some ((x.length : Int) != 0) else none
  | .lst xs => some (!xs.isEmpty)
  | .tup xs => some (!xs.isEmpty)
  | .dct kvs => some (!kvs.isEmpty)
  | _ => none
def xTru (f : XE) : XT := fun E => (f E).bind fun p => (Res.of (dat p.2 p.1)).bind fun d => (Res.of (truth d)).bind fun b => .ok (b, p.2)
def xBl (f : XE) : XT := fun E => (f E).bind fun p => (Res.of (dat p.2 p.1)).bind fun d => match d with
  | .bl b => .ok (b, p.2)
  | _ => .fail
def xNot (f : XT) : XT := fun E => (f E).bind fun p => .ok (!p.1, p.2)
def xAnd (f g : XT) : XT := fun E => (f E).bind fun p => if p.1 = true then g p.2 else .ok (false, p.2)
def xOr (f g : XT) : XT := fun E => (f E).bind fun p => if p.1 = true then .ok (true, p.2) else g p.2
def xIf (t : XT) (f g : XE) : XE := fun E => (t E).bind fun p => if p.1 = true then f p.2 else g p.2
def xNotV (f : XE) : XE := fun E => (xBl f E).bind fun p => .ok (.s (.bl (!p.1)), p.2)
def xAndV (f g : XE) : XE := fun E => (xBl f E).bind fun p => if p.1 = true then g p.2 else .ok (.s (.bl false), p.2)
def xOrV (f g : XE) : XE := fun E => (xBl f E).bind fun p => if p.1 = true then .ok (.s (.bl true), p.2) else g p.2
theorem SF.bl (ha : SE K c W ta f1) : SF K c W (tB ta) (xBl f1) := by
  intro G E σ H Q I h
  refine ha G E σ H _ I (h.bind fun p hp => ?_)
  intro v H1 I1 r1
  obtain ⟨d, ed, hq⟩ := hp.of
  cases d with
  | bl b =>
    have e := (I1.vw r1 ed).bl
    exact ⟨b, e, hq H1 I1⟩
  | _ => exact hq.elim
theorem SF.test (ha : SE K c W ta f1) : SF K c W (tTest ta) (xBl f1) := fun G E σ H Q I h => SF.bl ha G E σ H Q I h
variable {t1 t2 : TT} {g1 g2 : XT}
theorem SF.not (ha : SF K c W t1 g1) : SF K c W (tNot t1) (xNot g1) := by
  intro G E σ H Q I h
  exact ha G E σ H _ I (h.bind fun p hp H1 I1 => hp H1 I1)
theorem OkG.boolT {p : Bool × En} {Q : Bool → Hp → Prop} {P : Res (Bool × En)} (h : OkG K c G W σ (PT1 K c G σ Q) P) : OkG K c G W σ (PT1 K c G σ Q) P := h
theorem SF.and (ha : SF K c W t1 g1) (hb : SF K c W t2 g2) : SF K c W (tAnd t1 t2) (xAnd g1 g2) := by
  intro G E σ H Q I h
  refine ha G E σ H _ I (h.bind fun p hp H1 I1 => ?_)
  obtain ⟨b, E1⟩ := p
  cases b with
  | true => exact hb G E1 σ H1 Q I1 hp
  | false => exact hp H1 I1
theorem SF.or (ha : SF K c W t1 g1) (hb : SF K c W t2 g2) : SF K c W (tOr t1 t2) (xOr g1 g2) := by
  intro G E σ H Q I h
  refine ha G E σ H _ I (h.bind fun p hp H1 I1 => ?_)
  obtain ⟨b, E1⟩ := p
  cases b with
  | true => exact hp H1 I1
  | false => exact hb G E1 σ H1 Q I1 hp
theorem SE.ifE (ht : SF K c W t1 g1) (ha : SE K c W ta f1) (hb : SE K c W tb f2) : SE K c W (tIf t1 ta tb) (xIf g1 f1 f2) := by
  intro G E σ H Q I h
  refine ht G E σ H _ I (h.bind fun p hp H1 I1 => ?_)
  obtain ⟨b, E1⟩ := p
  cases b with
  | true => exact ha G E1 σ H1 Q I1 hp
  | false => exact hb G E1 σ H1 Q I1 hp
theorem SE.notV (ha : SE K c W ta f1) : SE K c W (tNotV ta) (xNotV f1) := by
  intro G E σ H Q I h
  have h' := h.bind (P' := PT1 K c G σ fun b H1 => Q (.bl (!b)) H1) fun p hp H1 I1 => hp (.bl (!p.1)) H1 I1 (.bl _)
  exact SF.bl ha G E σ H _ I h'
theorem SE.andV (ha : SE K c W ta f1) (hb : SE K c W tb f2) : SE K c W (tAndV ta tb) (xAndV f1 f2) := by
  intro G E σ H Q I h
  have h' := h.bind (P' := PT1 K c G σ fun b H1 => if b = true then tb σ H1 Q else Q (.bl false) H1) fun p hp H1 I1 => by
    obtain ⟨b, E1⟩ := p
    cases b with
    | true => exact hb G E1 σ H1 Q I1 hp
    | false => exact hp _ H1 I1 (.bl _)
  exact SF.bl ha G E σ H _ I h'
theorem SE.orV (ha : SE K c W ta f1) (hb : SE K c W tb f2) : SE K c W (tOrV ta tb) (xOrV f1 f2) := by
  intro G E σ H Q I h
  have h' := h.bind (P' := PT1 K c G σ fun b H1 => if b = true then Q (.bl true) H1 else tb σ H1 Q) fun p hp H1 I1 => by
    obtain ⟨b, E1⟩ := p
    cases b with
    | true => exact hp _ H1 I1 (.bl _)
    | false => exact hb G E1 σ H1 Q I1 hp
  exact SF.bl ha G E σ H _ I h'
def tTru (K : PySem.W.Frag) (ta : TE) : TT := fun σ H Q => ta σ H fun x H1 => ∃ k, TruV K x H1 k ∧ Q k H1
end
end DS

namespace DS
open PySem PySem.Spec L2

theorem OpR.or {X : Cx} {f : Value → Value → Sem Value} {r r' : R2} (h : OpR X f r) (h' : OpR X f r') : OpR X f (fun x y H Q => r x y H Q ∨ r' x y H Q) := by
  intro pins s σ H x y v u Q I rx ry q
  exact q.elim (fun q => h pins s σ H x y v u Q I rx ry q) fun q => h' pins s σ H x y v u Q I rx ry q
theorem CallR.or {X : Cx} {f : Value} {r r' : List V → Hp → VK → Prop} (h : CallR X f r) (h' : CallR X f r') : CallR X f (fun x H Q => r x H Q ∨ r' x H Q) := by
  intro pins s σ H xs us Q I rx q
  exact q.elim (fun q => h pins s σ H xs us Q I rx q) fun q => h' pins s σ H xs us Q I rx q

section
variable {X : Cx} {pins : List (Addr × Obj)} {σ : St} {H : Hp} {s : Shared} {a : Addr} {xs : List V}
/-- a list that is read, written out (as Inv.lstM) -/
theorem Inv.lstR (I : Inv X pins σ H s) (h : Rd H a (.lst xs)) : ∃ (_ : xs.length ≤ sizeLine) (its : List Value) (n : Nat), Vals xs its ∧ xs.length = its.length ∧ s.heap.get? a = some { cls := .type "list", data := .seq its.toArray n } := by
  obtain ⟨z, its, n, r, e⟩ := h.ok I.hok
  exact ⟨z, its, n, r, r.length, e⟩
def rCatR : R2 := fun x y H Q => ∃ l b xs zs, x = .ref l ∧ y = .ref b ∧ Rd H l (.lst xs) ∧ Rd H b (.lst zs) ∧ xs.length + zs.length ≤ sizeLine ∧ ∀ p, H p = none → Q (.ref p) (upd H p (.lst (xs ++ zs)))
theorem op_catR : OpR X (binaryOp .Add) rCatR := by
  intro pins s σ H x y v u Q I rx ry h
  obtain ⟨l, b, xs, zs, rfl, rfl, hH, hB, hz, q⟩ := h
  cases rx
  cases ry
  obtain ⟨z, its, n, r, hl, e⟩ := Inv.lstR I hH
  obtain ⟨z2, its2, n2, r2, hl2, e2⟩ := Inv.lstR I hB
  refine PySem.P.add_list e e2 ?_ (by rw [List.size_toArray, List.size_toArray]; omega)
  have ea : its.toArray ++ its2.toArray = (its ++ its2).toArray := by simp
  rw [ea]
  exact ⟨.ref _, _, I.lnew (t' := s.toks) (r.append r2) (by rw [List.length_append]; omega), rfl, q _ I.fresh⟩
def rRepR : R2 := fun x y H Q => ∃ l k xs, x = .ref l ∧ y = .int k ∧ Rd H l (.lst xs) ∧ -(2 ^ 63) ≤ k ∧ k < 2 ^ 63 ∧ xs.length * k.toNat ≤ sizeLine ∧
  ∀ p, H p = none → Q (.ref p) (upd H p (.lst (List.replicate k.toNat xs).flatten))
end

/-! ### by data: two operands -/
structure BinD (c : Cf) (X : Cx) (op : Operator) (r : R2) (g : D → D → Option Ev) : Prop where
  op : OpR X (binaryOp op) r
  se : Sem2 X.K c r g
structure CmpD (c : Cf) (X : Cx) (op : CmpOp) (r : R2) (g : D → D → Option Ev) : Prop where
  op : OpR X (compareOp op) r
  se : Sem2 X.K c r g
section
variable {c : Cf} {W : WX} {X : Cx} {a b : Expr} {ta tb : TE} {f1 f2 : XE} {r : R2} {g : D → D → Option Ev} {pos : Pos}
theorem DE.bin {op : Operator} (o : BinD c X op r g) (ha : DE c W X a ta f1) (hb : DE c W X b tb f2) : DE c W X (.BinOp a op b pos) (tOp r ta tb) (x2 g f1 f2) := ⟨pe_op o.op ha.pe hb.pe, SE.op2 ha.se hb.se o.se⟩
theorem DE.cmp {op : CmpOp} (o : CmpD c X op r g) (ha : DE c W X a ta f1) (hb : DE c W X b tb f2) (hm : behindInMarks op b = false) : DE c W X (.Compare a [op] [b] pos) (tOp r ta tb) (x2 g f1 f2) := ⟨pe_cmpR o.op ha.pe hb.pe hm, SE.op2 ha.se hb.se o.se⟩
theorem DT.cmp {op : CmpOp} (o : CmpD c X op r g) (ha : DE c W X a ta f1) (hb : DE c W X b tb f2) (hm : behindInMarks op b = false) : DT c W X (.Compare a [op] [b] pos) (tTest (tOp r ta tb)) (xBl (x2 g f1 f2)) := ⟨pt_cmpR o.op ha.pe hb.pe hm, SF.test (SE.op2 ha.se hb.se o.se)⟩
end

section
variable {K : PySem.W.Frag} {c : Cf} {X : Cx}
theorem RepE.i {G : Gd} {E : En} {σ : St} {H : Hp} {i : Int} : RepE K c G E σ H (.int i) (.s (.int i)) := Rep.int i
theorem RepE.t {G : Gd} {E : En} {σ : St} {H : Hp} {i : Bool} : RepE K c G E σ H (.bl i) (.s (.bl i)) := Rep.bl i
theorem RepE.x {G : Gd} {E : En} {σ : St} {H : Hp} {i : Str} : RepE K c G E σ H (.str i) (.s (.str i)) := Rep.str i
theorem RepE.n {G : Gd} {E : En} {σ : St} {H : Hp} : RepE K c G E σ H .non (.s .non) := Rep.non
theorem of_if {α : Type} {p : Prop} [Decidable p] {a b : α} (h : (if p then some a else none) = some b) : p ∧ a = b := by
  by_cases q : p
  · rw [if_pos q] at h; exact ⟨q, Option.some.inj h⟩
  · rw [if_neg q] at h; cases h
def D.two (d1 d2 : D) : Option (Int × Int) := match d1, d2 with
  | .int a, .int b => some (a, b)
  | _, _ => none
theorem D.two_eq {d1 d2 : D} {p : Int × Int} (h : D.two d1 d2 = some p) : d1 = .int p.1 ∧ d2 = .int p.2 := by
  cases d1 with
  | int a =>
    cases d2 with
    | int b => cases h; exact ⟨rfl, rfl⟩
    | _ => cases h
  | _ => cases h
def i2 (f : Int → Int → Int) : D → D → Option Ev
  | .int a, .int b => some (.s (.int (f a b)))
  | _, _ => none
def b2 (f : Int → Int → Bool) : D → D → Option Ev
  | .int a, .int b => some (.s (.bl (f a b)))
  | _, _ => none
theorem sem_i2 {f : Int → Int → Int} : Sem2 K c (rI0 fun i j => .int (f i j)) (i2 f) := by
  intro G E σ H x y d1 d2 e Q I v1 v2 hg q
  cases d1 with
  | int a =>
    cases d2 with
    | int b =>
      cases hg
      exact ⟨_, _, v1.int, v2.int, q _ H I RepE.i⟩
    | _ => cases hg
  | _ => cases hg
theorem sem_b2 {f : Int → Int → Bool} : Sem2 K c (rI0 fun i j => .bl (f i j)) (b2 f) := by
  intro G E σ H x y d1 d2 e Q I v1 v2 hg q
  cases d1 with
  | int a =>
    cases d2 with
    | int b =>
      cases hg
      exact ⟨_, _, v1.int, v2.int, q _ H I RepE.t⟩
    | _ => cases hg
  | _ => cases hg
def i2c (C : Int → Int → Prop) [∀ i j, Decidable (C i j)] (f : Int → Int → Int) : D → D → Option Ev
  | .int a, .int b => if C a b then some (.s (.int (f a b))) else none
  | _, _ => none
theorem sem_i2c {C C' : Int → Int → Prop} [∀ i j, Decidable (C i j)] {f : Int → Int → Int} (hc : ∀ i j, C i j → C' i j) : Sem2 K c (rI C' fun i j => .int (f i j)) (i2c C f) := by
  intro G E σ H x y d1 d2 e Q I v1 v2 hg q
  cases d1 with
  | int i =>
    cases d2 with
    | int j =>
      obtain ⟨h, rfl⟩ := of_if (show (if C i j then some (Ev.s (.int (f i j))) else none) = some e from hg)
      exact ⟨_, _, v1.int, v2.int, hc _ _ h, q _ H I RepE.i⟩
    | _ => cases hg
  | _ => cases hg

/-! + -/
def gAdd : D → D → Option Ev
  | .int a, .int b => some (.s (.int (a + b)))
  | .lst a, .lst b => if a.length + b.length ≤ sizeLine then some (.o (.lst (a ++ b))) else none
  | .str a, .str b => if a.length + b.length ≤ sizeLine then some (.s (.str (a ++ b))) else none
  | .tup a, .tup b => if a.length + b.length ≤ sizeLine then some (.s (.tup (a ++ b))) else none
  | _, _ => none
def rAdd (K : PySem.W.Frag) : R2 := fun x y H Q => rI0 (fun i j => .int (i + j)) x y H Q ∨ (rCatR x y H Q ∨ ((∃ i j, x = .str i ∧ y = .str j ∧ i.length + j.length ≤ sizeLine ∧ Q (.str (i ++ j)) H) ∨ rCatA K x y H Q))
theorem d_add : BinD c X .Add (rAdd X.K) gAdd := by
  refine ⟨OpR.or op_add (OpR.or op_catR (OpR.or op_add_str op_catA)), ?_⟩
  intro G E σ H x y d1 d2 e Q I v1 v2 hg q
  cases d1 with
  | int i =>
    cases d2 with
    | int j =>
      cases hg
      exact .inl ⟨_, _, v1.int, v2.int, q _ H I RepE.i⟩
    | _ => cases hg
  | lst xs =>
    cases d2 with
    | lst ys =>
      obtain ⟨hl, rfl⟩ := of_if (show (if xs.length + ys.length ≤ sizeLine then some (Ev.o (.lst (xs ++ ys))) else none) = some e from hg)
      obtain ⟨a, vs, rfl, h1, r1⟩ := v1.lst
      obtain ⟨b, ws, rfl, h2, r2⟩ := v2.lst
      refine .inr (.inl ⟨a, b, vs, ws, rfl, rfl, h1, h2, by rw [r1.1, r2.1]; exact hl, fun p hp => ?_⟩)
      obtain ⟨J, R⟩ := I.new hp (o := .lst (vs ++ ws)) trivial (.lst _ _) (r1.append r2)
      exact q _ _ J R
    | _ => cases hg
  | str i =>
    cases d2 with
    | str j =>
      obtain ⟨hl, rfl⟩ := of_if (show (if i.length + j.length ≤ sizeLine then some (Ev.s (.str (i ++ j))) else none) = some e from hg)
      exact .inr (.inr (.inl ⟨i, j, v1.str, v2.str, hl, q _ H I RepE.x⟩))
    | _ => cases hg
  | tup xs =>
    cases d2 with
    | tup ys =>
      obtain ⟨hl, rfl⟩ := of_if (show (if xs.length + ys.length ≤ sizeLine then some (Ev.s (.tup (xs ++ ys))) else none) = some e from hg)
      obtain ⟨a, vs, rfl, h1, r1⟩ := v1.tup
      obtain ⟨b, ws, rfl, h2, r2⟩ := v2.tup
      refine .inr (.inr (.inr ⟨a, b, vs, ws, rfl, rfl, h1, h2, by rw [r1.1, r2.1]; exact hl, fun e => ?_, fun e1 e2 => ?_, fun e1 e2 p hp => ?_⟩))
      · subst e
        obtain rfl : xs = [] := List.eq_nil_of_length_eq_zero r1.1.symm
        rcases v2 with r | ⟨_, _, o, _, _, _, m, n, _⟩
        · exact q _ H I r
        · cases n
          exact m.elim
      · subst e2
        obtain rfl : ys = [] := List.eq_nil_of_length_eq_zero r2.1.symm
        rw [List.append_nil] at q
        rcases v1 with r | ⟨_, _, o, _, _, _, m, n, _⟩
        · exact q _ H I r
        · cases n
          exact m.elim
      · obtain ⟨J, R⟩ := I.newS hp (.tup _ _) (r1.append r2)
        exact q _ _ J R
    | _ => cases hg
  | _ => cases hg
theorem d_sub : BinD c X .Sub (rI0 fun i j => .int (i - j)) (i2 (· - ·)) := ⟨op_sub, sem_i2⟩
def cMul (i j : Int) : Prop := (-(2 ^ 64) < i ∧ i < 2 ^ 64) ∨ (-(2 ^ 64) < j ∧ j < 2 ^ 64)
instance : ∀ i j, Decidable (cMul i j) := fun i j => by unfold cMul; exact inferInstance
theorem d_mul : BinD c X .Mult (rI CMul fun i j => .int (i * j)) (i2c cMul (· * ·)) := ⟨op_mul, sem_i2c fun _ _ h => h⟩
/-- a divisor above 0, below 2 ^ 30 -/
def cDiv (i j : Int) : Prop := 0 < j ∧ j < 1073741824
instance : ∀ i j, Decidable (cDiv i j) := fun i j => by unfold cDiv; exact inferInstance
theorem d_fdiv : BinD c X .FloorDiv (rI CDiv fun i j => .int (i / j)) (i2c cDiv (· / ·)) := ⟨op_fdiv, sem_i2c fun _ _ h => h⟩
def cMod (i j : Int) : Prop := 0 < j
instance : ∀ i j, Decidable (cMod i j) := fun i j => by unfold cMod; exact inferInstance
theorem d_mod : BinD c X .Mod (rI (fun _ j => 0 < j) fun i j => .int (i % j)) (i2c cMod (· % ·)) := ⟨op_mod, sem_i2c fun _ _ h => h⟩
theorem d_lt : CmpD c X .Lt (rI0 fun i j => .bl (decide (i < j))) (b2 fun i j => decide (i < j)) := ⟨op_lt, sem_b2⟩
theorem d_le : CmpD c X .LtE (rI0 fun i j => .bl (decide (i ≤ j))) (b2 fun i j => decide (i ≤ j)) := ⟨op_le, sem_b2⟩
theorem d_gt : CmpD c X .Gt (rI0 fun i j => .bl (decide (j < i))) (b2 fun i j => decide (j < i)) := ⟨op_gt, sem_b2⟩
theorem d_ge : CmpD c X .GtE (rI0 fun i j => .bl (decide (j ≤ i))) (b2 fun i j => decide (j ≤ i)) := ⟨op_ge, sem_b2⟩

/-! is None -/
@[simp] def D.isN : D → Bool
  | .non => true
  | _ => false
def gIsN (neg : Bool) : D → D → Option Ev
  | d, .non => some (.s (.bl (if neg then !d.isN else d.isN)))
  | _, _ => none
theorem Vw.isN {Z : Addr → Prop} {H : Hp} {v : V} {d : D} (r : Vw K c Z H v d) : decide (v = .non) = d.isN := by
  rcases r with r | ⟨a, rfl, o, vs, ds, _, _, n, _⟩
  · cases r with
    | non => rfl
    | node a o d vs ds _ _ n => cases n <;> rfl
    | _ => rfl
  · cases n <;> rfl
theorem sem_isN : Sem2 K c (fun x y H Q => y = .non ∧ Q (.bl (decide (x = .non))) H) (gIsN false) := by
  intro G E σ H x y d1 d2 e Q I v1 v2 hg q
  cases d2 with
  | non =>
    have hg' : some (Ev.s (.bl d1.isN)) = some e := by cases d1 <;> exact hg
    cases hg'
    refine ⟨v2.non, ?_⟩
    rw [v1.isN]
    exact q _ H I RepE.t
  | _ => cases d1 <;> cases hg
theorem sem_notN : Sem2 K c (fun x y H Q => y = .non ∧ Q (.bl (!decide (x = .non))) H) (gIsN true) := by
  intro G E σ H x y d1 d2 e Q I v1 v2 hg q
  cases d2 with
  | non =>
    have hg' : some (Ev.s (.bl (!d1.isN))) = some e := by cases d1 <;> exact hg
    cases hg'
    refine ⟨v2.non, ?_⟩
    rw [v1.isN]
    exact q _ H I RepE.t
  | _ => cases d1 <;> cases hg
theorem d_isN : CmpD c X .Is (fun x y H Q => y = .non ∧ Q (.bl (decide (x = .non))) H) (gIsN false) := ⟨op_isN, sem_isN⟩
theorem d_notN : CmpD c X .IsNot (fun x y H Q => y = .non ∧ Q (.bl (!decide (x = .non))) H) (gIsN true) := ⟨op_notN, sem_notN⟩

/-! == of data -/
mutual
def D.pd : D → PyData
  | .non => .none
  | .bl b => .bool b
  | .int i => .int i
  | .str x => .str x
  | .tup xs => .tuple (D.pds xs)
  | .lst xs => .list (D.pds xs)
  | .dct _ => .dict []
  | .dtp _ => .dict []
  | .set _ => .dict []
  | .obj _ _ => .dict []
  | .scr _ => .dict []
def D.pds : List D → List PyData
  | [] => []
  | d :: ds => D.pd d :: D.pds ds
end
mutual
/-- nothing but None, ints, texts, lists and tuples -/
def D.pl : D → Bool
  | .non => true
  | .int _ => true
  | .str x => PyData.strOk x
  | .tup xs => D.pls xs
  | .lst xs => D.pls xs
  | _ => false
def D.pls : List D → Bool
  | [] => true
  | d :: ds => D.pl d && D.pls ds
end
mutual
def D.dep : D → Nat
  | .tup xs => D.deps xs + 1
  | .lst xs => D.deps xs + 1
  | _ => 0
def D.deps : List D → Nat
  | [] => 0
  | d :: ds => max (D.dep d) (D.deps ds)
end
end
end DS

namespace DS
open PySem PySem.Spec L2

section
variable {K : PySem.W.Frag} {c : Cf} {X : Cx}
mutual
/-- what == can be asked of: nothing but None, bools, ints, texts, lists, tuples -/
def D.plB : D → Bool
  | .non => true
  | .bl _ => true
  | .int _ => true
  | .str x => PyData.strOk x
  | .tup xs => D.plBs xs
  | .lst xs => D.plBs xs
  | _ => false
def D.plBs : List D → Bool
  | [] => true
  | d :: ds => D.plB d && D.plBs ds
end
mutual
theorem canLay_pd : ∀ d : D, d.plB = true → PyData.canLay0 d.pd = true
  | .non, _ => by simp [D.pd, PyData.canLay0]
  | .bl _, _ => by simp [D.pd, PyData.canLay0]
  | .int _, _ => by simp [D.pd, PyData.canLay0]
  | .str x, h => by simpa [D.pd, PyData.canLay0, D.plB] using h
  | .tup xs, h => by
    simp only [D.plB] at h
    simp only [D.pd, PyData.canLay0]
    exact canLay_pds xs h
  | .lst xs, h => by
    simp only [D.plB] at h
    simp only [D.pd, PyData.canLay0]
    exact canLay_pds xs h
  | .dct _, h => by simp [D.plB] at h
  | .dtp _, h => by simp [D.plB] at h
  | .set _, h => by simp [D.plB] at h
  | .obj _ _, h => by simp [D.plB] at h
  | .scr _, h => by simp [D.plB] at h
theorem canLay_pds : ∀ ds : List D, D.plBs ds = true → PyData.canLayAll0 (D.pds ds) = true
  | [], _ => by simp [D.pds, PyData.canLayAll0]
  | d :: ds, h => by
    simp only [D.plBs, Bool.and_eq_true] at h
    simp only [D.pds, PyData.canLayAll0, Bool.and_eq_true]
    exact ⟨canLay_pd d h.1, canLay_pds ds h.2⟩
end
mutual
theorem depth_pd : ∀ d : D, d.plB = true → PyData.depth d.pd = D.dep d
  | .non, _ => by simp [D.pd, PyData.depth, D.dep]
  | .bl _, _ => by simp [D.pd, PyData.depth, D.dep]
  | .int _, _ => by simp [D.pd, PyData.depth, D.dep]
  | .str x, h => by simp [D.pd, PyData.depth, D.dep]
  | .tup xs, h => by
    simp only [D.plB] at h
    simp only [D.pd, PyData.depth, D.dep, depth_pds xs h]
  | .lst xs, h => by
    simp only [D.plB] at h
    simp only [D.pd, PyData.depth, D.dep, depth_pds xs h]
  | .dct _, h => by simp [D.plB] at h
  | .dtp _, h => by simp [D.plB] at h
  | .set _, h => by simp [D.plB] at h
  | .obj _ _, h => by simp [D.plB] at h
  | .scr _, h => by simp [D.plB] at h
theorem depth_pds : ∀ ds : List D, D.plBs ds = true → PyData.depthAll (D.pds ds) = D.deps ds
  | [], _ => by simp [D.pds, PyData.depthAll, D.deps]
  | d :: ds, h => by
    simp only [D.plBs, Bool.and_eq_true] at h
    simp only [D.pds, PyData.depthAll, D.deps, depth_pd d h.1, depth_pds ds h.2]
end
def D.shp (d : D) : Bool := d.plB && decide (D.dep d ≤ 64)
theorem shaped_pd {d : D} (h : d.shp = true) : SeqAt.shaped d.pd = true := by
  have h' := Bool.and_eq_true_iff.mp h
  unfold SeqAt.shaped
  rw [canLay_pd d h'.1, depth_pd d h'.1]
  exact h'.2
theorem plBs_at : ∀ {ds : List D} {i : Nat} {d : D}, D.plBs ds = true → ds[i]? = some d → D.plB d = true
  | [], _, _, _, h => by simp at h
  | d :: ds, 0, e, h, q => by
    simp only [D.plBs, Bool.and_eq_true] at h
    have : d = e := by simpa using q
    exact this ▸ h.1
  | d :: ds, i + 1, e, h, q => by
    simp only [D.plBs, Bool.and_eq_true] at h
    exact plBs_at h.2 (by simpa using q)
theorem dpAll_of {H : Hp} : ∀ {vs : List V} {ds : List D}, vs.length = ds.length → (∀ (i : Nat) v e, vs[i]? = some v → ds[i]? = some e → Dp K H v e.pd) → DpAll K H vs (D.pds ds)
  | [], [], _, _ => .nil
  | v :: vs, d :: ds, hl, h => .cons (h 0 v d rfl rfl) (dpAll_of (by simpa using hl) fun i w e h1 h2 => h (i + 1) w e (by simpa using h1) (by simpa using h2))
  | [], _ :: _, hl, _ => by simp at hl
  | _ :: _, [], hl, _ => by simp at hl
theorem Rep.dp {Z : Addr → Prop} {H : Hp} {v : V} {d : D} (r : Rep K c Z H v d) (h : d.plB = true) : Dp K H v d.pd := by
  induction r with
  | non => exact .non
  | bl b => exact .bl b
  | int i => exact .int i
  | str x => exact .str x
  | node a o d vs ds hr _ n hl _ ih =>
    cases n with
    | lst => exact .lst (.inl hr) (dpAll_of hl fun i v e h1 h2 => ih i v e h1 h2 (plBs_at (by simpa [D.plB] using h) h2))
    | tup => exact .tup (.inl hr) (dpAll_of hl fun i v e h1 h2 => ih i v e h1 h2 (plBs_at (by simpa [D.plB] using h) h2))
    | _ => simp [D.plB] at h
  | scr a ns => simp [D.plB] at h
  | kt a vs ds hr hl _ ih => exact .tup (.inr hr) (dpAll_of hl fun i v e h1 h2 => ih i v e h1 h2 (plBs_at (by simpa [D.plB] using h) h2))
theorem Vw.dp {Z : Addr → Prop} {H : Hp} {v : V} {d : D} (r : Vw K c Z H v d) (h : d.plB = true) : Dp K H v d.pd := r.rep0.dp h
def gEq (neg : Bool) (d1 d2 : D) : Option Ev := if (d1.shp && d2.shp) = true then some (.s (.bl (if neg then !PyData.eqv d1.pd d2.pd else PyData.eqv d1.pd d2.pd))) else none
theorem shp_plB {d : D} (h : d.shp = true) : d.plB = true := (Bool.and_eq_true_iff.mp h).1
theorem d_eq (hu : X.A.units + 64 < cLine) : CmpD c X .Eq (rEqD X.K) (gEq false) := by
  refine ⟨op_eqD hu, ?_⟩
  intro G E σ H x y d1 d2 e Q I v1 v2 hg q
  obtain ⟨hl, rfl⟩ := of_if hg
  obtain ⟨h1, h2⟩ := Bool.and_eq_true_iff.mp hl
  exact ⟨_, _, v1.dp (shp_plB h1), v2.dp (shp_plB h2), shaped_pd h1, shaped_pd h2, q _ H I RepE.t⟩
theorem d_ne (hu : X.A.units + 64 < cLine) : CmpD c X .NotEq (rNeD X.K) (gEq true) := by
  refine ⟨op_neD hu, ?_⟩
  intro G E σ H x y d1 d2 e Q I v1 v2 hg q
  obtain ⟨hl, rfl⟩ := of_if hg
  obtain ⟨h1, h2⟩ := Bool.and_eq_true_iff.mp hl
  exact ⟨_, _, v1.dp (shp_plB h1), v2.dp (shp_plB h2), shaped_pd h1, shaped_pd h2, q _ H I RepE.t⟩

/-! what == says where no bools are -/
mutual
theorem eqv_pl : ∀ d e : D, d.pl = true → e.pl = true → (PyData.eqv d.pd e.pd = true ↔ d = e)
  | .non, e, _, he => by cases e <;> simp_all [D.pd, PyData.eqv, D.pl]
  | .bl _, e, h, he => by simp [D.pl] at h
  | .int _, e, _, he => by cases e <;> simp_all [D.pd, PyData.eqv, D.pl]
  | .str x, e, h, he => by cases e <;> simp_all [D.pd, PyData.eqv, D.pl]
  | .tup xs, e, h, he => by
    cases e with
    | tup ys =>
      simp only [D.pl] at h he
      simp only [D.pd, PyData.eqv, D.tup.injEq]
      exact eqvs_pl xs ys h he
    | _ => simp_all [D.pd, PyData.eqv, D.pl]
  | .lst xs, e, h, he => by
    cases e with
    | lst ys =>
      simp only [D.pl] at h he
      simp only [D.pd, PyData.eqv, D.lst.injEq]
      exact eqvs_pl xs ys h he
    | _ => simp_all [D.pd, PyData.eqv, D.pl]
  | .dct _, _, h, _ => by simp [D.pl] at h
  | .dtp _, _, h, _ => by simp [D.pl] at h
  | .set _, _, h, _ => by simp [D.pl] at h
  | .obj _ _, _, h, _ => by simp [D.pl] at h
  | .scr _, _, h, _ => by simp [D.pl] at h
theorem eqvs_pl : ∀ ds es : List D, D.pls ds = true → D.pls es = true → (PyData.eqvAll (D.pds ds) (D.pds es) = true ↔ ds = es)
  | [], [], _, _ => by simp [D.pds, PyData.eqvAll]
  | [], _ :: _, _, _ => by simp [D.pds, PyData.eqvAll]
  | _ :: _, [], _, _ => by simp [D.pds, PyData.eqvAll]
  | d :: ds, e :: es, h, he => by
    simp only [D.pls, Bool.and_eq_true] at h he
    simp only [D.pds, PyData.eqvAll, Bool.and_eq_true, List.cons.injEq, eqv_pl d e h.1 he.1, eqvs_pl ds es h.2 he.2]
end
end
end DS

namespace DS
open PySem PySem.Spec L2

inductive Out | nx (E : En) | rt (e : Ev) (E : En) | bk (E : En) | ct (E : En) | ex (k : Nat) (v : V) (E : En) | fail
abbrev XS := En → Out
def Res.out {α : Type} : Res α → (α → Out) → Out
  | .ok a, g => g a
  | .ex k v E, _ => .ex k v E
  | .fail, _ => .fail

def OkS (K : PySem.W.Frag) (c : Cf) (G : Gd) (W : WX) (B : Ends) : Out → Prop
  | .nx E => ∀ σ H, DI K c G E σ H → B.nx σ H
  | .rt e E => ∀ v σ H, DI K c G E σ H → RepE K c G E σ H v e → B.rt v H
  | .bk E => ∀ σ H, DI K c G E σ H → B.bk σ H
  | .ct E => ∀ σ H, DI K c G E σ H → B.ct σ H
  | .ex k v E => ∀ σ, ExOk K c G W σ k v E
  | .fail => False
def SS (K : PySem.W.Frag) (c : Cf) (W : WX) (t : TS) (f : XS) : Prop := ∀ G E σ H B, DI K c G E σ H → OkS K c G W B (f E) → t B σ H
structure DS1 (c : Cf) (W : WX) (X : Cx) (s : Stmt) (t : TS) (f : XS) : Prop where
  ps : PS X s t
  se : SS X.K c W t f
structure DSs (c : Cf) (W : WX) (X : Cx) (s : List Stmt) (t : TS) (f : XS) : Prop where
  ps : PSs X s t
  se : SS X.K c W t f

section
variable {K : PySem.W.Frag} {c : Cf} {G : Gd} {E E' : En} {σ σ' : St} {H H' : Hp} {v : V} {e : Ev} {d : D} {W : WX} {B : Ends}
theorem OkS.bind {α : Type} {r : Res α} {g : α → Out} {P : α → Prop} (h : OkS K c G W B (r.out g)) (k : ∀ a, OkS K c G W B (g a) → P a) : OkG K c G W σ P r := by
  cases r with
  | ok a => exact k a h
  | ex k v E => exact h σ
  | fail => exact h
theorem OkS.of {α : Type} {o : Option α} {g : α → Out} (h : OkS K c G W B ((Res.of o).out g)) : ∃ a, o = some a ∧ OkS K c G W B (g a) := by
  cases o with
  | none => exact h.elim
  | some a => exact ⟨a, rfl, h⟩
/-- less is known -/
theorem OwnA.weak (h : ∀ (j : Nat) b, E'[j]? = some (some b) → E[j]? = some (some b) ∧ σ'[j]? = σ[j]?) {a : Addr} (o : OwnA E' σ' a) : OwnA E σ a := by
  obtain ⟨j, k, d, e, nk, es⟩ := o
  obtain ⟨h1, h2⟩ := h j _ e
  exact ⟨j, k, d, h1, nk, by rw [← h2]; exact es⟩
theorem DI.weak (I : DI K c G E σ H) (hl : E'.length = σ'.length) (h : ∀ (j : Nat) b, E'[j]? = some (some b) → E[j]? = some (some b) ∧ σ'[j]? = σ[j]?) : DI K c G E' σ' H := by
  have hz : ∀ b, ZZ G E' σ' b → ZZ G E σ b := fun b z => z.imp id (OwnA.weak h)
  refine ⟨I.keep, hl, fun i b e => ?_, fun i j k k' d1 d2 a e1 e2 n1 n2 s1 s2 => ?_, I.zin, fun p hp => (I.pin p hp).anti hz⟩
  · obtain ⟨h1, h2⟩ := h i b e
    obtain ⟨w, ew, r⟩ := I.rel i b h1
    exact ⟨w, h2.trans ew, r.anti hz⟩
  · obtain ⟨g1, g2⟩ := h i _ e1
    obtain ⟨g3, g4⟩ := h j _ e2
    exact I.un i j k k' d1 d2 a g1 g3 n1 n2 (by rw [← g2]; exact s1) (by rw [← g4]; exact s2)
theorem getElem?_set_some {α : Type} {l : List α} {i j : Nat} {x y : α} (h : (l.set i x)[j]? = some y) : (i = j ∧ y = x ∧ i < l.length) ∨ (i ≠ j ∧ l[j]? = some y) := by
  by_cases hj : i = j
  · subst hj
    by_cases hl : i < l.length
    · rw [List.getElem?_set_self hl] at h
      exact .inl ⟨rfl, (Option.some.inj h).symm, hl⟩
    · rw [List.getElem?_eq_none (by simpa using hl)] at h
      cases h
  · rw [List.getElem?_set_ne hj] at h
    exact .inr ⟨hj, h⟩
/-- shared data into a slot -/
theorem DI.putS {i : Nat} (I : DI K c G E σ H) (r : Rep K c (ZZ G E σ) H v d) : DI K c G (E.set i (some (.sh, d))) (σ.set i (some v)) H := by
  have hz : ∀ b, ZZ G (E.set i (some (.sh, d))) (σ.set i (some v)) b → ZZ G E σ b := by
    rintro b (z | ⟨j, k, d', e, nk, es⟩)
    · exact .inl z
    · rcases getElem?_set_some e with ⟨_, e', _⟩ | ⟨nj, e'⟩
      · cases e'
        exact absurd rfl nk
      · rw [List.getElem?_set_ne nj] at es
        exact .inr ⟨j, k, d', e', nk, es⟩
  refine ⟨I.keep, by simpa using I.ln, fun j b e => ?_, fun j j' k k' d1 d2 a e1 e2 n1 n2 s1 s2 => ?_, I.zin, fun p hp => (I.pin p hp).anti hz⟩
  · rcases getElem?_set_some e with ⟨ej, e', hl⟩ | ⟨nj, e'⟩
    · subst ej
      cases e'
      exact ⟨v, List.getElem?_set_self (by rw [← I.ln]; exact hl), r.anti hz⟩
    · obtain ⟨w, ew, q⟩ := I.rel j b e'
      exact ⟨w, by rw [List.getElem?_set_ne nj]; exact ew, q.anti hz⟩
  · rcases getElem?_set_some e1 with ⟨ej, e', _⟩ | ⟨nj, e'⟩
    · cases e'
      exact absurd rfl n1
    · rcases getElem?_set_some e2 with ⟨ej2, e2', _⟩ | ⟨nj2, e2'⟩
      · cases e2'
        exact absurd rfl n2
      · rw [List.getElem?_set_ne nj] at s1
        rw [List.getElem?_set_ne nj2] at s2
        exact I.un j j' k k' d1 d2 a e' e2' n1 n2 s1 s2
/-- a new object into a slot -/
theorem DI.putO {i : Nat} (r : RepE K c G E σ H v (.o d)) (I : DI K c G E σ H) : DI K c G (E.set i (some (.ow, d))) (σ.set i (some v)) H := by
  obtain ⟨a, rfl, t, J, u0, nz⟩ := r
  have hz : ∀ b, ZZ G (E.set i (some (.ow, d))) (σ.set i (some (.ref a))) b → ZZ (G.addZ a) E σ b := by
    rintro b (z | ⟨j, k, d', e, nk, es⟩)
    · exact .inl (.inl z)
    · rcases getElem?_set_some e with ⟨ej, e', hl⟩ | ⟨nj, e'⟩
      · subst ej
        rw [List.getElem?_set_self (by rw [← I.ln]; exact hl)] at es
        cases es
        exact .inl (.inr rfl)
      · rw [List.getElem?_set_ne nj] at es
        exact .inr ⟨j, k, d', e', nk, es⟩
  have rb : ∀ {j : Nat} {w : V} {b : Bd}, RelB K c (G.addZ a) (ZZ (G.addZ a) E σ) H j w b → RelB K c G (ZZ G (E.set i (some (.ow, d))) (σ.set i (some (.ref a)))) H j w b := fun {j w b} q => by
    obtain ⟨k, d'⟩ := b
    cases k with
    | sh => exact Rep.anti q hz
    | ow => obtain ⟨a', e, t', q1, q2, q3⟩ := q; exact ⟨a', e, t'.anti hz, q1, fun z => q2 (.inl z), q3⟩
    | io => obtain ⟨a', e, t', q1, q2, q3⟩ := q; exact ⟨a', e, t'.anti hz, q1, fun z => q2 (.inl z), q3⟩
  have nea : ∀ {j : Nat} {k : Kd} {d' : D}, E[j]? = some (some (k, d')) → k ≠ .sh → σ[j]? ≠ some (some (.ref a)) := fun {j k d'} e nk z => nz (.inr ⟨j, k, d', e, nk, z⟩)
  refine ⟨I.keep, by simpa using I.ln, fun j b e => ?_, fun j j' k k' d1 d2 b e1 e2 n1 n2 s1 s2 => ?_, I.zin, fun p hp => (J.pin p hp).anti hz⟩
  · rcases getElem?_set_some e with ⟨ej, e', hl⟩ | ⟨nj, e'⟩
    · subst ej
      cases e'
      exact ⟨.ref a, List.getElem?_set_self (by rw [← I.ln]; exact hl), a, rfl, t.anti hz, u0, fun z => nz (.inl z), fun q => by cases q⟩
    · obtain ⟨w, ew, q⟩ := J.rel j b e'
      exact ⟨w, by rw [List.getElem?_set_ne nj]; exact ew, rb q⟩
  · rcases getElem?_set_some e1 with ⟨ej, e', hl⟩ | ⟨nj, e'⟩
    · subst ej
      rw [List.getElem?_set_self (by rw [← I.ln]; exact hl)] at s1
      cases s1
      rcases getElem?_set_some e2 with ⟨ej2, e2', _⟩ | ⟨nj2, e2'⟩
      · exact ej2
      · rw [List.getElem?_set_ne nj2] at s2
        exact absurd s2 (nea e2' n2)
    · rw [List.getElem?_set_ne nj] at s1
      rcases getElem?_set_some e2 with ⟨ej2, e2', hl⟩ | ⟨nj2, e2'⟩
      · subst ej2
        rw [List.getElem?_set_self (by rw [← I.ln]; exact hl)] at s2
        cases s2
        exact absurd s1 (nea e' n1)
      · rw [List.getElem?_set_ne nj2] at s2
        exact I.un j j' k k' d1 d2 b e' e2' n1 n2 s1 s2
/-- a value into a slot (one that is not handed back to a caller) -/
def free (E : En) (i : Nat) : Bool := match E[i]? with
  | none => false
  | some (some (.io, _)) => false
  | _ => true
def stor (i : Nat) (E : En) : Ev → Option En
  | .o d => if free E i = true then some (E.set i (some (.ow, d))) else none
  | .s d => if free E i = true then some (E.set i (some (.sh, d))) else none
  | .b j => if free E i = true then (share E (.b j)).map fun p => p.2.set i (some (.sh, p.1)) else none
theorem DI.stor {i : Nat} (I : DI K c G E σ H) (r : RepE K c G E σ H v e) (h : stor i E e = some E') : DI K c G E' (σ.set i (some v)) H := by
  cases e with
  | o d =>
    obtain ⟨_, rfl⟩ := of_if (show (if free E i = true then some (E.set i (some (.ow, d))) else none) = some E' from h)
    exact DI.putO r I
  | s d =>
    obtain ⟨_, rfl⟩ := of_if (show (if free E i = true then some (E.set i (some (.sh, d))) else none) = some E' from h)
    exact I.putS r
  | b j =>
    have h' : (if DS.free E i = true then (DS.share E (.b j)).map fun p => p.2.set i (some (.sh, p.1)) else none) = some E' := h
    by_cases hf : DS.free E i = true
    · rw [if_pos hf] at h'
      obtain ⟨⟨d, E1⟩, h1, h2⟩ := Option.map_eq_some_iff.mp h'
      cases h2
      obtain ⟨J, R, _⟩ := I.share (e := .b j) r h1
      exact J.putS R
    · rw [if_neg hf] at h'
      cases h'

/-! more pins -/
def Gd.addTs (G : Gd) (vs : List V) (ds : List D) : Gd := { G with T := vs.zip ds ++ G.T }
theorem mem_zip {α β : Type} {l : List α} {m : List β} {x : α × β} (h : x ∈ l.zip m) : ∃ i : Nat, l[i]? = some x.1 ∧ m[i]? = some x.2 := by
  obtain ⟨i, hi⟩ := List.mem_iff_getElem?.mp h
  rw [List.getElem?_zip_eq_some] at hi
  exact ⟨i, hi⟩
theorem DI.addTs {vs : List V} {ds : List D} (I : DI K c G E σ H) (r : Reps K c (ZZ G E σ) H vs ds) : DI K c (G.addTs vs ds) E σ H :=
  ⟨I.keep, I.ln, I.rel, I.un, I.zin, fun p hp => by
    rcases List.mem_append.mp hp with hp | hp
    · obtain ⟨i, h1, h2⟩ := mem_zip hp
      exact r.2 i _ _ h1 h2
    · exact I.pin p hp⟩
theorem DI.unTs {vs : List V} {ds : List D} (I : DI K c (G.addTs vs ds) E σ H) : DI K c G E σ H := ⟨I.keep, I.ln, I.rel, I.un, I.zin, fun p hp => I.pin p (List.mem_append_right _ hp)⟩
theorem DI.pinTs {vs : List V} {ds : List D} (I : DI K c (G.addTs vs ds) E σ H) (hl : vs.length = ds.length) : Reps K c (ZZ G E σ) H vs ds :=
  ⟨hl, fun i v e h1 h2 => I.pin (v, e) (List.mem_append_left _ (List.mem_iff_getElem?.mpr ⟨i, by rw [List.getElem?_zip_eq_some]; exact ⟨h1, h2⟩⟩))⟩

/-! ### statements -/
def sNext : XS := fun E => .nx E
def sSeq (f g : XS) : XS := fun E => match f E with
  | .nx E' => g E'
  | o => o
def sBrk : XS := fun E => .bk E
def sCnt : XS := fun E => .ct E
def sExp (f : XE) : XS := fun E => (f E).out fun p => .nx p.2
def sIf (t : XT) (f g : XS) : XS := fun E => (t E).out fun p => if p.1 = true then f p.2 else g p.2
/-- what is given back: a name's own object goes with it -/
def outE (E : En) : Ev → Out
  | .s d => .rt (.s d) E
  | .o d => .rt (.o d) E
  | .b i => match E[i]? with
    | some (some (.ow, d)) => .rt (.o d) (E.set i none)
    | some (some (.sh, d)) => .rt (.s d) E
    | _ => .fail
def sRet (f : XE) : XS := fun E => (f E).out fun p => outE p.2 p.1
def sRetN : XS := fun E => .rt (.s .non) E
def sSet (i : Nat) (f : XE) : XS := fun E => (f E).out fun p => (Res.of (stor i p.2 p.1)).out fun E' => .nx E'
variable {t u : TS} {f g : XS} {te : TE} {fe : XE} {tc : TT} {fc : XT}
theorem SS.next : SS K c W tNext sNext := fun G E σ H B I h => h σ H I
theorem SS.brk : SS K c W tBreak sBrk := fun G E σ H B I h => h σ H I
theorem SS.cnt : SS K c W tCont sCnt := fun G E σ H B I h => h σ H I
theorem SS.seq (h1 : SS K c W t f) (h2 : SS K c W u g) : SS K c W (tSeq t u) (sSeq f g) := by
  intro G E σ H B I h
  refine h1 G E σ H _ I ?_
  have h' : OkS K c G W B (match f E with
    | .nx E' => g E'
    | o => o) := h
  cases q : f E with
  | nx E' => rw [q] at h'; exact fun σ' H' I' => h2 G E' σ' H' B I' h'
  | rt e E' => rw [q] at h'; exact h'
  | bk E' => rw [q] at h'; exact h'
  | ct E' => rw [q] at h'; exact h'
  | ex k v E' => rw [q] at h'; exact h'
  | fail => rw [q] at h'; exact h'
theorem SS.exp (he : SE K c W te fe) : SS K c W (tDrop te) (sExp fe) := by
  intro G E σ H B I h
  exact he G E σ H _ I (h.bind fun p hp v H1 I1 _ => hp σ H1 I1)
theorem SS.ifS (hc : SF K c W tc fc) (h1 : SS K c W t f) (h2 : SS K c W u g) : SS K c W (tIfS tc t u) (sIf fc f g) := by
  intro G E σ H B I h
  refine hc G E σ H _ I (h.bind fun p hp H1 I1 => ?_)
  obtain ⟨b, E1⟩ := p
  cases b with
  | true => exact h1 G E1 σ H1 B I1 hp
  | false => exact h2 G E1 σ H1 B I1 hp
theorem DI.give {i : Nat} (I : DI K c G E σ H) (hv : σ[i]? = some (some v)) (he : E[i]? = some (some (.ow, d))) : DI K c G (E.set i none) σ H ∧ RepE K c G (E.set i none) σ H v (.o d) := by
  have hw : ∀ (j : Nat) b, (E.set i none)[j]? = some (some b) → E[j]? = some (some b) ∧ σ[j]? = σ[j]? := fun j b e => by
    rcases getElem?_set_some e with ⟨_, e', _⟩ | ⟨nj, e'⟩
    · cases e'
    · exact ⟨e', rfl⟩
  have J : DI K c G (E.set i none) σ H := I.weak (by simpa using I.ln) hw
  refine ⟨J, ?_⟩
  obtain ⟨w, ew, a, ea, t, q1, q2, q3⟩ := I.rel i _ he
  rw [hv] at ew
  cases ew
  subst ea
  have own : OwnA E σ a := ⟨i, .ow, d, he, by decide, hv⟩
  have hz : ∀ b, ZZ (G.addZ a) (E.set i none) σ b → ZZ G E σ b := fun b z => by
    rcases z with (z | z) | z
    · exact .inl z
    · rw [z]; exact .inr own
    · exact .inr (OwnA.weak hw z)
  have nown : ¬ OwnA (E.set i none) σ a := by
    rintro ⟨j, k, d', e, nk, es⟩
    obtain ⟨e', _⟩ := hw j _ e
    have hij := I.un i j .ow k d d' a he e' (by decide) nk hv es
    subst hij
    rcases getElem?_set_some e with ⟨_, e2, _⟩ | ⟨nj, _⟩
    · cases e2
    · exact nj rfl
  refine ⟨a, rfl, t.anti hz, ⟨J.keep, J.ln, fun j b e => ?_, J.un, fun b z => ?_, fun p hp => (I.pin p hp).anti hz⟩, q1, fun z => z.elim q2 nown⟩
  · obtain ⟨e', _⟩ := hw j b e
    obtain ⟨w, ew, r⟩ := I.rel j b e'
    refine ⟨w, ew, ?_⟩
    obtain ⟨k, d'⟩ := b
    have ne : ∀ {a' : Addr}, k ≠ .sh → σ[j]? = some (some (.ref a')) → a' ≠ a := fun {a'} nk z q => nown ⟨j, k, d', e, nk, by rw [z, q]⟩
    cases k with
    | sh => exact Rep.anti r hz
    | ow => obtain ⟨a', rfl, t', p1, p2, p3⟩ := r; exact ⟨a', rfl, t'.anti hz, p1, fun z => z.elim p2 (ne (by decide) ew), p3⟩
    | io => obtain ⟨a', rfl, t', p1, p2, p3⟩ := r; exact ⟨a', rfl, t'.anti hz, p1, fun z => z.elim p2 (ne (by decide) ew), p3⟩
  · rcases z with z | rfl
    · exact J.zin b z
    · exact I.ownH own
theorem outE_ok {P : VK} {q : OkS K c G W B (outE E e)} (I : DI K c G E σ H) (r : RepE K c G E σ H v e) : B.rt v H := by
  cases e with
  | s d => exact q v σ H I r
  | o d => exact q v σ H I r
  | b i =>
    have q' : OkS K c G W B (match E[i]? with
      | some (some (.ow, d)) => .rt (.o d) (E.set i none)
      | some (some (.sh, d)) => .rt (.s d) E
      | _ => .fail) := q
    split at q'
    · rename_i d he
      obtain ⟨J, R⟩ := I.give r he
      exact q' v σ H J R
    · rename_i d he
      obtain ⟨w, ew, p⟩ := I.rel i _ he
      have hv : σ[i]? = some (some v) := r
      rw [hv] at ew
      cases ew
      exact q' v σ H I p
    · exact q'.elim
theorem SS.ret (he : SE K c W te fe) : SS K c W (tRet te) (sRet fe) := by
  intro G E σ H B I h
  refine he G E σ H _ I (h.bind fun p hp v H1 I1 r1 => ?_)
  exact outE_ok (P := B.rt) (q := hp) I1 r1
theorem SS.retN : SS K c W tRetN sRetN := fun G E σ H B I h => h .non σ H I Rep.non
theorem SS.set {i : Nat} (he : SE K c W te fe) : SS K c W (tAsg te (gName i)) (sSet i fe) := by
  intro G E σ H B I h
  refine he G E σ H _ I (h.bind fun p hp v H1 I1 r1 => ?_)
  obtain ⟨E', e1, hq⟩ := hp.of
  exact hq _ H1 (I1.stor r1 e1)

/-! ### while -/
def lp (k : XS) : Out → Out
  | .nx E => k E
  | .ct E => k E
  | .bk E => .nx E
  | o => o
def whl (t : XT) (b : XS) : Nat → XS
  | 0, _ => .fail
  | n + 1, E => (t E).out fun p => if p.1 = true then lp (whl t b n) (b p.2) else .nx p.2
@[simp] theorem whl_zero {t : XT} {b : XS} {E : En} : whl t b 0 E = .fail := rfl
theorem whl_succ {t : XT} {b : XS} {n : Nat} {E : En} : whl t b (n + 1) E = (t E).out fun p => if p.1 = true then lp (whl t b n) (b p.2) else .nx p.2 := rfl
theorem OkS.lp {k : XS} {N : St → Hp → Prop} {o : Out} (h : OkS K c G W B (lp k o)) (hN : ∀ E σ H, DI K c G E σ H → OkS K c G W B (k E) → N σ H) : OkS K c G W { B with nx := N, ct := N, bk := B.nx } o := by
  cases o with
  | nx E => exact fun σ H I => hN E σ H I h
  | ct E => exact fun σ H I => hN E σ H I h
  | bk E => exact h
  | rt e E => exact h
  | ex k v E => exact h
  | fail => exact h
theorem SS.whl {n : Nat} (hc : SF K c W tc fc) (hb : SS K c W t f) : SS K c W (tWhile tc t) (whl fc f n) := by
  intro G E σ H B I h
  refine ⟨fun m σ H => ∃ E, DI K c G E σ H ∧ OkS K c G W B (DS.whl fc f m E), ⟨n, E, I, h⟩, ?_⟩
  rintro m σ1 H1 ⟨E1, I1, h1⟩
  cases m with
  | zero => exact h1.elim
  | succ m =>
    rw [whl_succ] at h1
    refine hc G E1 σ1 H1 _ I1 (h1.bind fun p hp H2 I2 => ?_)
    obtain ⟨b, E2⟩ := p
    cases b with
    | false => exact hp σ1 H2 I2
    | true =>
      refine ⟨fun σ' H' => ∃ E, DI K c G E σ' H' ∧ OkS K c G W B (DS.whl fc f m E), fun σ' H' hN => ⟨m, Nat.lt_succ_self m, hN⟩, ?_⟩
      exact hb G E2 σ1 H2 _ I2 (OkS.lp hp fun E' σ' H' I' q => ⟨E', I', q⟩)

/-! ### targets -/
abbrev XG := D → En → Option En
/-- a target: the slots that it stores -/
def SG (K : PySem.W.Frag) (c : Cf) (t : TG) (is : List Nat) (f : XG) : Prop := ∀ G E σ H v d E' Q, DI K c G E σ H → Rep K c (ZZ G E σ) H v d → f d E = some E' →
  (∀ σ' H', DI K c G E' σ' H' → σ'.length = σ.length → (∀ j, j ∉ is → σ'[j]? = σ[j]?) → (∀ b o, H b = some o → H' b = some o) → Q σ' H') → t v σ H Q
def SGs (K : PySem.W.Frag) (c : Cf) (t : TGs) (is : List Nat) (f : List D → En → Option En) : Prop := ∀ G E σ H vs ds E' Q, DI K c G E σ H → Reps K c (ZZ G E σ) H vs ds → f ds E = some E' →
  (∀ σ' H', DI K c G E' σ' H' → σ'.length = σ.length → (∀ j, j ∉ is → σ'[j]? = σ[j]?) → (∀ b o, H b = some o → H' b = some o) → Q σ' H') → t vs σ H Q
structure DG (c : Cf) (X : Cx) (e : Expr) (t : TG) (is : List Nat) (f : XG) : Prop where
  pg : PG X e t
  se : SG X.K c t is f
structure DGs (c : Cf) (X : Cx) (e : List Expr) (t : TGs) (is : List Nat) (f : List D → En → Option En) : Prop where
  pg : PGs X e t
  se : SGs X.K c t is f
def gSlot (i : Nat) : XG := fun d E => if free E i = true then some (E.set i (some (.sh, d))) else none
def gNilD : List D → En → Option En := fun ds E => match ds with
  | [] => some E
  | _ => none
def gConsD (f : XG) (g : List D → En → Option En) : List D → En → Option En := fun ds E => match ds with
  | d :: ds => (f d E).bind fun E' => g ds E'
  | _ => none
def gTupD (n : Nat) (g : List D → En → Option En) : XG := fun d E => match d with
  | .tup ds => if ds.length = n then g ds E else none
  | _ => none
theorem SG.slot {i : Nat} : SG K c (gName i) [i] (gSlot i) := by
  intro G E σ H v d E' Q I r h q
  obtain ⟨_, rfl⟩ := of_if (show (if free E i = true then some (E.set i (some (.sh, d))) else none) = some E' from h)
  exact q _ _ (I.putS r) (by simp) (fun j hj => List.getElem?_set_ne (fun z => hj (by simp [z]))) fun _ _ e => e
theorem SGs.nil : SGs K c gNil [] gNilD := by
  intro G E σ H vs ds E' Q I r h q
  cases ds with
  | nil =>
    cases h
    exact ⟨r.inv_nil, q σ H I rfl (fun _ _ => rfl) fun _ _ e => e⟩
  | cons _ _ => cases h
theorem SGs.cons {t : TG} {u : TGs} {is js : List Nat} {f : XG} {g : List D → En → Option En} (h1 : SG K c t is f) (h2 : SGs K c u js g) : SGs K c (gCons t u) (is ++ js) (gConsD f g) := by
  intro G E σ H vs ds E' Q I r h q
  cases ds with
  | nil => cases h
  | cons d ds =>
    obtain ⟨v, ws, rfl, rv, rw'⟩ := r.inv_cons
    obtain ⟨E1, e1, e2⟩ := Option.bind_eq_some_iff.mp h
    refine ⟨v, ws, rfl, h1 (G.addTs ws ds) E σ H v d E1 _ (I.addTs rw') rv e1 fun σ1 H1 I1 l1 k1 m1 => ?_⟩
    refine h2 G E1 σ1 H1 ws ds E' Q I1.unTs (I1.pinTs rw'.1) e2 fun σ2 H2 I2 l2 k2 m2 => ?_
    refine q σ2 H2 I2 (l2.trans l1) (fun j hj => ?_) fun b o e => m2 b o (m1 b o e)
    rw [k2 j fun z => hj (List.mem_append_right _ z), k1 j fun z => hj (List.mem_append_left _ z)]
theorem SG.tup {n : Nat} {t : TGs} {is : List Nat} {g : List D → En → Option En} (h1 : SGs K c t is g) : SG K c (gTup K n t) is (gTupD n g) := by
  intro G E σ H v d E' Q I r h q
  cases d with
  | tup ds =>
    have h' : (if ds.length = n then g ds E else none) = some E' := h
    by_cases hn : ds.length = n
    · rw [if_pos hn] at h'
      obtain ⟨a, vs, rfl, hs, rs⟩ := (show Vw K c (ZZ G E σ) H v (.tup ds) from .inl r).tup
      exact ⟨a, vs, rfl, hs, rs.1.trans hn, h1 G E σ H vs ds E' Q I rs h' q⟩
    · rw [if_neg hn] at h'
      cases h'
  | _ => cases h
def sAsg (f : XE) (g : XG) : XS := fun E => (f E).out fun p => (Res.of (share p.2 p.1)).out fun q => (Res.of (g q.1 q.2)).out fun E' => .nx E'
theorem SS.asg {is : List Nat} {g : TG} {gd : XG} (he : SE K c W te fe) (hg : SG K c g is gd) : SS K c W (tAsg te g) (sAsg fe gd) := by
  intro G E σ H B I h
  refine he G E σ H _ I (h.bind fun p hp v H1 I1 r1 => ?_)
  obtain ⟨⟨d, E2⟩, e2, hq⟩ := hp.of
  obtain ⟨E3, e3, hq⟩ := hq.of
  obtain ⟨I2, R, _⟩ := I1.share r1.a e2
  exact hg G E2 σ H1 v d E3 _ I2 R e3 fun σ' H' I' _ _ _ => hq σ' H' I'

/-! ### for -/
def forL (g : XG) (b : XS) : List D → XS
  | [], E => .nx E
  | d :: ds, E => (Res.of (g d E)).out fun E1 => lp (forL g b ds) (b E1)
@[simp] theorem forL_nil {g : XG} {b : XS} {E : En} : forL g b [] E = .nx E := rfl
theorem forL_cons {g : XG} {b : XS} {d : D} {ds : List D} {E : En} : forL g b (d :: ds) E = (Res.of (g d E)).out fun E1 => lp (forL g b ds) (b E1) := rfl
/-- what is walked, turn by turn, while the pins ts stand -/
structure Good (K : PySem.W.Frag) (c : Cf) (ts : List (V × D)) (J : It) (ds : List D) : Prop where
  go : ∀ (G : Gd) (i : Nat) d E σ H, (∀ p ∈ ts, p ∈ G.T) → DI K c G E σ H → ds[i]? = some d → J.go i H ∧ ∀ x H', J.yld i H x H' → DI K c G E σ H' ∧ Rep K c (ZZ G E σ) H' x d ∧ ∀ b o, H b = some o → H' b = some o
  stop : ∀ (G : Gd) (i : Nat) E σ H, (∀ p ∈ ts, p ∈ G.T) → DI K c G E σ H → ds.length ≤ i → J.stop i H
def Gd.pins (G : Gd) (ts : List (V × D)) : Gd := { G with T := ts ++ G.T }
theorem DI.unP {ts : List (V × D)} (I : DI K c (G.pins ts) E σ H) : DI K c G E σ H := ⟨I.keep, I.ln, I.rel, I.un, I.zin, fun p hp => I.pin p (List.mem_append_right _ hp)⟩
theorem RepE.unP {ts : List (V × D)} (r : RepE K c (G.pins ts) E σ H v e) : RepE K c G E σ H v e := by
  cases e with
  | s d => exact r
  | o d => obtain ⟨a, h1, h2, h3, h4⟩ := r; exact ⟨a, h1, h2, DI.unP (G := G.addZ a) h3, h4⟩
  | b i => exact r
theorem OkS.pins {ts : List (V × D)} {o : Out} (h : OkS K c G W B o) : OkS K c (G.pins ts) W B o := by
  cases o with
  | nx E => exact fun σ H I => h σ H I.unP
  | bk E => exact fun σ H I => h σ H I.unP
  | ct E => exact fun σ H I => h σ H I.unP
  | ex k v E => exact fun σ dx H I => h σ dx H I.unP
  | fail => exact h
  | rt e E => exact fun v σ H I r => h v σ H I.unP r.unP
theorem OkS.lpP {ts : List (V × D)} {k : XS} {N : St → Hp → Prop} {o : Out} (h : OkS K c G W B (DS.lp k o)) (hN : ∀ E σ H, DI K c (G.pins ts) E σ H → OkS K c G W B (k E) → N σ H) : OkS K c (G.pins ts) W { B with nx := N, ct := N, bk := B.nx } o := by
  cases o with
  | nx E => exact fun σ H I => hN E σ H I h
  | ct E => exact fun σ H I => hN E σ H I h
  | bk E => exact fun σ H I => h σ H I.unP
  | rt e E => exact fun v σ H I r => h v σ H I.unP r.unP
  | ex k v E => exact fun σ dx H I => h σ dx H I.unP
  | fail => exact h
abbrev XI := En → Res (List D × En)
def PI1 (K : PySem.W.Frag) (c : Cf) (G : Gd) (σ : St) (R : It → Hp → Prop) (p : List D × En) : Prop := ∀ J H ts, DI K c (G.pins ts) p.2 σ H → Good K c ts J p.1 → R J H
def SI (K : PySem.W.Frag) (c : Cf) (W : WX) (w : TI) (f : XI) : Prop := ∀ G E σ H R, DI K c G E σ H → OkG K c G W σ (PI1 K c G σ R) (f E) → w σ H R
structure DIt (c : Cf) (W : WX) (X : Cx) (tg iter : Expr) (w : TI) (f : XI) : Prop where
  pi : PI X tg iter w
  se : SI X.K c W w f
def sFor (f : XI) (g : XG) (b : XS) : XS := fun E => (f E).out fun p => forL g b p.1 p.2
theorem SS.forS {wi : TI} {fi : XI} {g : TG} {is : List Nat} {gd : XG} (hi : SI K c W wi fi) (hg : SG K c g is gd) (hb : SS K c W t f) : SS K c W (tFor wi g t) (sFor fi gd f) := by
  intro G E σ H B I h
  refine hi G E σ H _ I (h.bind fun p hp J H1 ts I1 good => ?_)
  obtain ⟨ds, E1⟩ := p
  refine ⟨fun i m σ H => ∃ E, DI K c (G.pins ts) E σ H ∧ OkS K c G W B (forL gd f (ds.drop i) E) ∧ m = ds.length - i, ⟨_, E1, I1, hp, rfl⟩, ?_⟩
  rintro i m σ2 H2 ⟨E2, I2, h2, em⟩
  by_cases hi : i < ds.length
  · have ed : ds.drop i = ds[i] :: ds.drop (i + 1) := List.drop_eq_getElem_cons hi
    rw [ed, forL_cons] at h2
    obtain ⟨E3, e3, h3⟩ := h2.of
    obtain ⟨g1, g2⟩ := good.go (G.pins ts) i ds[i] E2 σ2 H2 (fun p hp => List.mem_append_left _ hp) I2 (List.getElem?_eq_getElem hi)
    refine .inr ⟨g1, fun σ' H' => ∃ E, DI K c (G.pins ts) E σ' H' ∧ OkS K c G W B (forL gd f (ds.drop (i + 1)) E), fun σ' H' hN => ?_, fun x H3 hy => ?_⟩
    · obtain ⟨E', I', q⟩ := hN
      exact ⟨ds.length - (i + 1), by omega, E', I', q, rfl⟩
    · obtain ⟨I3, R3, _⟩ := g2 x H3 hy
      refine hg _ E2 σ2 H3 x ds[i] E3 _ I3 R3 e3 fun σ4 H4 I4 _ _ _ => ?_
      exact hb (G.pins ts) E3 σ4 H4 _ I4 (OkS.lpP h3 fun E' σ' H' I' q => ⟨E', I', q⟩)
  · rw [List.drop_eq_nil_of_le (by omega), forL_nil] at h2
    exact .inl ⟨good.stop (G.pins ts) i E2 σ2 H2 (fun p hp => List.mem_append_left _ hp) I2 (show ds.length ≤ i by omega), h2 σ2 H2 I2.unP⟩
theorem Reps.keepH {vs : List V} {ds : List D} (r : Reps K c (ZZ G E σ) H vs ds) (hk : ∀ b o, H b = some o → H' b = some o) : Reps K c (ZZ G E σ) H' vs ds := r.mono (fun a z => .inl z) fun a o _ e => hk a o e
end
end DS

namespace DS
open PySem PySem.Spec L2

section
variable {K : PySem.W.Frag} {c : Cf} {G : Gd} {E E' : En} {σ σ' : St} {H H' : Hp} {v : V} {e : Ev} {d : D} {W : WX} {B : Ends}
theorem SqL.rd {a : Addr} {xs : List V} (h : Rd H a (.lst xs)) : SqL K H a xs := .inl h
/-- a list or a tuple, walked -/
def iSeq (K : PySem.W.Frag) (tl : TE) : TI := fun σ H R => tl σ H fun x H1 => ∃ a, x = .ref a ∧ (((∃ xs, SqL K H1 a xs) ∧ R (Itl K a) H1) ∨ ((∃ xs, SqT K H1 a xs) ∧ R (Itt K a) H1))
theorem pi_seq {X : Cx} {tg l : Expr} {tl : TE} (hl : PE X l tl) : PI X tg l (iSeq X.K tl) := by
  refine ⟨fun pins s σ H R I h => ?_⟩
  refine thn (hl.run pins s σ H _ I h) fun v s1 ⟨x, H1, I1, r1, q1⟩ => ?_
  obtain ⟨a, e, q1⟩ := q1
  subst e
  cases r1
  rcases q1 with ⟨⟨xs, hq⟩, q⟩ | ⟨⟨xs, hq⟩, q⟩
  · obtain ⟨its, rv, p, hz⟩ := I1.list hq
    refine wpAny_pyIter_list p.isList ?_
    refine ⟨s1.heap.objs.size, [s1.heap.objs.size], _, _, H1, rfl, I1.kept (t' := s1.toks) fun b o e => Heap.get?_push_of_some _ e, turn_list a _, ⟨_, Heap.get?_push_size _ rfl, rfl, rfl⟩, fun b hb => ?_, q⟩
    have e : b = s1.heap.objs.size := by simpa using hb
    subst e
    exact I1.fpOk (Nat.le_refl _) (I1.hok.fresh (Nat.le_refl _))
  · obtain ⟨its, rv, p, hz⟩ := I1.tuple hq
    refine PySem.wpAny_pyIter_tuple (show s1.heap.IsTuple a its.toArray from p) ?_
    refine ⟨s1.heap.objs.size, [s1.heap.objs.size], _, _, H1, rfl, I1.kept (t' := s1.toks) fun b o e => Heap.get?_push_of_some _ e, turn_tuple a _, ⟨_, Heap.get?_push_size _ rfl, rfl, rfl⟩, fun b hb => ?_, q⟩
    have e : b = s1.heap.objs.size := by simpa using hb
    subst e
    exact I1.fpOk (Nat.le_refl _) (I1.hok.fresh (Nat.le_refl _))
def itemsOf : D → Option (List D)
  | .lst xs => some xs
  | .tup xs => some xs
  | _ => none
def xiSeq (f : XE) : XI := fun E => (f E).bind fun p => (Res.of (share p.2 p.1)).bind fun q => (Res.of (itemsOf q.1)).bind fun ds => .ok (ds, q.2)
theorem DI.pinP {w : V} {d' : D} (I : DI K c (G.pins [(w, d')]) E σ H) : Rep K c (ZZ G E σ) H w d' := I.pin (w, d') List.mem_cons_self
theorem DI.addP {w : V} {d' : D} (I : DI K c G E σ H) (r : Rep K c (ZZ G E σ) H w d') : DI K c (G.pins [(w, d')]) E σ H := I.addT r
theorem SI.seq {te : TE} {f : XE} (he : SE K c W te f) : SI K c W (iSeq K te) (xiSeq f) := by
  intro G E σ H R I h
  refine he G E σ H _ I (h.bind fun p hp v H1 I1 r1 => ?_)
  obtain ⟨⟨d, E2⟩, e2, hq⟩ := hp.of
  obtain ⟨ds, e3, hq⟩ := hq.of
  obtain ⟨I2, R2, _⟩ := I1.share r1.a e2
  have I3 := I2.addP R2
  cases d with
  | lst xs =>
    obtain rfl : xs = ds := Option.some.inj e3
    obtain ⟨a, vs, rfl, hs, rs⟩ := (show Vw K c (ZZ G E2 σ) H1 v (.lst xs) from .inl R2).lst
    refine ⟨a, rfl, .inl ⟨⟨vs, .inl hs⟩, hq _ H1 _ I3 ⟨fun G i d E σ H ht I hi => ?_, fun G i E σ H ht I hi => ?_⟩⟩⟩
    · obtain ⟨a', ws, ea, hs', rs'⟩ := (show Vw K c (ZZ G E σ) H (.ref a) (.lst xs) from .inl (I.pin _ (ht _ List.mem_cons_self))).lst
      cases ea
      obtain ⟨w, hw, rw'⟩ := rs'.at hi
      refine ⟨⟨ws, w, .inl hs', hw⟩, fun x H' hy => ?_⟩
      obtain ⟨rfl, hx⟩ := hy
      have := hx ws (.inl hs')
      rw [hw] at this
      cases this
      exact ⟨I, rw', fun _ _ e => e⟩
    · obtain ⟨a', ws, ea, hs', rs'⟩ := (show Vw K c (ZZ G E σ) H (.ref a) (.lst xs) from .inl (I.pin _ (ht _ List.mem_cons_self))).lst
      cases ea
      exact ⟨ws, .inl hs', by rw [rs'.1]; exact hi⟩
  | tup xs =>
    obtain rfl : xs = ds := Option.some.inj e3
    obtain ⟨a, vs, rfl, hs, rs⟩ := (show Vw K c (ZZ G E2 σ) H1 v (.tup xs) from .inl R2).tup
    refine ⟨a, rfl, .inr ⟨⟨vs, hs⟩, hq _ H1 _ I3 ⟨fun G i d E σ H ht I hi => ?_, fun G i E σ H ht I hi => ?_⟩⟩⟩
    · obtain ⟨a', ws, ea, hs', rs'⟩ := (show Vw K c (ZZ G E σ) H (.ref a) (.tup xs) from .inl (I.pin _ (ht _ List.mem_cons_self))).tup
      cases ea
      obtain ⟨w, hw, rw'⟩ := rs'.at hi
      refine ⟨⟨ws, w, hs', hw⟩, fun x H' hy => ?_⟩
      obtain ⟨rfl, hx⟩ := hy
      have := hx ws hs'
      rw [hw] at this
      cases this
      exact ⟨I, rw', fun _ _ e => e⟩
    · obtain ⟨a', ws, ea, hs', rs'⟩ := (show Vw K c (ZZ G E σ) H (.ref a) (.tup xs) from .inl (I.pin _ (ht _ List.mem_cons_self))).tup
      cases ea
      exact ⟨ws, hs', by rw [rs'.1]; exact hi⟩
  | _ => cases e3
/-! ranges -/
def rngD (lo : Int) (n : Nat) : List D := (List.range n).map fun (i : Nat) => .int (lo + (i : Int))
theorem rngD_len {lo : Int} {n : Nat} : (rngD lo n).length = n := by simp [rngD]
theorem rngD_at {lo : Int} {n i : Nat} {d : D} (h : (rngD lo n)[i]? = some d) : i < n ∧ d = .int (lo + (i : Int)) := by
  unfold rngD at h
  rw [List.getElem?_map] at h
  obtain ⟨j, hj, rfl⟩ := Option.map_eq_some_iff.mp h
  obtain ⟨h1, h2⟩ := List.getElem?_eq_some_iff.mp hj
  simp at h1 h2
  subst h2
  exact ⟨h1, rfl⟩
theorem good_rng {lo : Int} {n : Nat} : Good K c [] (Itr lo n) (rngD lo n) := by
  refine ⟨fun G i d E σ H ht I hi => ?_, fun G i E σ H ht I hi => by rw [rngD_len] at hi; exact hi⟩
  obtain ⟨h1, rfl⟩ := rngD_at hi
  exact ⟨h1, fun x H' ⟨e1, e2⟩ => by subst e1; subst e2; exact ⟨I, .int _, fun _ _ e => e⟩⟩
def inR (j : Int) : Bool := decide (-(2 ^ 62) ≤ j ∧ j < 2 ^ 62)
def xiRng (fs : XA) : XI := fun E => (fs E).bind fun p => (Res.of (dats p.2 p.1)).bind fun ds => match ds with
  | [.int j] => if inR j = true then .ok (rngD 0 j.toNat, p.2) else .fail
  | [.int i, .int j] => if (inR i && inR j) = true then .ok (rngD i (j - i).toNat, p.2) else .fail
  | _ => .fail
theorem pins_nil : G.pins [] = G := rfl
theorem SI.rng1 {ta : TA} {fs : XA} (hs : SA K c W ta fs) : SI K c W (iRng1 ta) (fun E => (fs E).bind fun p => (Res.of (dats p.2 p.1)).bind fun ds => match ds with
  | [.int j] => if inR j = true then .ok (rngD 0 j.toNat, p.2) else .fail
  | _ => .fail) := by
  intro G E σ H R I h
  refine hs G E σ H _ I (h.bind fun p hp vs H1 I1 r1 => ?_)
  obtain ⟨ds, e2, hq⟩ := hp.of
  have vw := I1.vws r1 e2
  split at hq
  · rename_i j
    by_cases hj : inR j = true
    · rw [if_pos hj] at hq
      have hj' := of_decide_eq_true hj
      match vs, vw with
      | [x], ⟨vx, _⟩ =>
        obtain rfl := vx.int
        exact ⟨j, rfl, hj'.1, hj'.2, hq _ H1 [] I1 good_rng⟩
    · rw [if_neg hj] at hq
      exact hq.elim
  · exact hq.elim
theorem SI.rng2 {ta : TA} {fs : XA} (hs : SA K c W ta fs) : SI K c W (iRng2 ta) (fun E => (fs E).bind fun p => (Res.of (dats p.2 p.1)).bind fun ds => match ds with
  | [.int i, .int j] => if (inR i && inR j) = true then .ok (rngD i (j - i).toNat, p.2) else .fail
  | _ => .fail) := by
  intro G E σ H R I h
  refine hs G E σ H _ I (h.bind fun p hp vs H1 I1 r1 => ?_)
  obtain ⟨ds, e2, hq⟩ := hp.of
  have vw := I1.vws r1 e2
  split at hq
  · rename_i i j
    by_cases hj : (inR i && inR j) = true
    · rw [if_pos hj] at hq
      obtain ⟨h1, h2⟩ := Bool.and_eq_true_iff.mp hj
      have h1' := of_decide_eq_true h1
      have h2' := of_decide_eq_true h2
      match vs, vw with
      | [x, y], ⟨vx, vy, _⟩ =>
        obtain rfl := vx.int
        obtain rfl := vy.int
        exact ⟨i, j, rfl, ⟨h1'.1, h1'.2, h2'.1, h2'.2⟩, hq _ H1 [] I1 good_rng⟩
    · rw [if_neg hj] at hq
      exact hq.elim
  · exact hq.elim
/-! enumerate, zip of lists -/
def enumD (n : Nat) : List D → List D
  | [] => []
  | d :: ds => .tup [.int (n : Int), d] :: enumD (n + 1) ds
theorem enumD_len : ∀ {n : Nat} {ds : List D}, (enumD n ds).length = ds.length
  | _, [] => rfl
  | n, d :: ds => by simp [enumD, enumD_len]
theorem enumD_at : ∀ {n : Nat} {ds : List D} {i : Nat} {d : D}, (enumD n ds)[i]? = some d → ∃ x, ds[i]? = some x ∧ d = .tup [.int ((n + i : Nat) : Int), x]
  | _, [], _, _, h => by simp [enumD] at h
  | n, x :: ds, 0, d, h => by
    have : D.tup [.int (n : Int), x] = d := by simpa [enumD] using h
    exact ⟨x, rfl, this.symm⟩
  | n, x :: ds, i + 1, d, h => by
    obtain ⟨y, h1, h2⟩ := enumD_at (n := n + 1) (ds := ds) (i := i) (by simpa [enumD] using h)
    exact ⟨y, by simpa using h1, by rw [h2]; congr 3; omega⟩
def xiEnum (fs : XA) : XI := fun E => (fs E).bind fun p => (Res.of (shares p.2 p.1)).bind fun q => match q.1 with
  | [.lst ds] => .ok (enumD 0 ds, q.2)
  | _ => .fail
theorem SI.enum {ta : TA} {fs : XA} (hs : SA K c W ta fs) : SI K c W (iEnum K ta) (xiEnum fs) := by
  intro G E σ H R I h
  refine hs G E σ H _ I (h.bind fun p hp vs H1 I1 r1 => ?_)
  obtain ⟨⟨ds, E2⟩, e2, hq⟩ := hp.of
  obtain ⟨I2, R2, _⟩ := I1.shares r1 e2
  match ds, e2, hq, R2 with
  | [.lst xs], e2, hq, R2 =>
    obtain ⟨v, ws, rfl, rv, rn⟩ := R2.inv_cons
    obtain rfl := rn.inv_nil
    have I3 := I2.addP rv
    obtain ⟨a, vs, rfl, hs, rs⟩ := (show Vw K c (ZZ G E2 σ) H1 v (.lst xs) from .inl rv).lst
    refine ⟨a, vs, rfl, .inl hs, hq _ H1 _ I3 ⟨fun G i d E σ H ht I hi => ?_, fun G i E σ H ht I hi => ?_⟩⟩
    · obtain ⟨y, hy, rfl⟩ := enumD_at hi
      obtain ⟨a', ws, ea, hs', rs'⟩ := (show Vw K c (ZZ G E σ) H (.ref a) (.lst xs) from .inl (I.pin _ (ht _ List.mem_cons_self))).lst
      cases ea
      obtain ⟨w, hw, rw'⟩ := rs'.at hy
      refine ⟨⟨ws, w, .inl hs', hw⟩, fun x H' hyy => ?_⟩
      obtain ⟨T, z, rfl, hT, rfl, hz⟩ := hyy
      have := hz ws (.inl hs')
      rw [hw] at this
      cases this
      obtain ⟨J, Q⟩ := I.newS hT (.tup [.int ((i : Nat) : Int), w] [.int ((0 + i : Nat) : Int), y]) (.cons (by rw [Nat.zero_add]; exact .int _) (.cons rw' .nil))
      exact ⟨J, Q, fun b o e => by rw [upd_ne (ne_of_none e hT)]; exact e⟩
    · obtain ⟨a', ws, ea, hs', rs'⟩ := (show Vw K c (ZZ G E σ) H (.ref a) (.lst xs) from .inl (I.pin _ (ht _ List.mem_cons_self))).lst
      cases ea
      exact ⟨ws, .inl hs', by rw [rs'.1]; rw [enumD_len] at hi; exact hi⟩
def zipD : List D → List D → List D
  | d :: ds, e :: es => .tup [d, e] :: zipD ds es
  | _, _ => []
theorem zipD_at : ∀ {ds es : List D} {i : Nat} {d : D}, (zipD ds es)[i]? = some d → ∃ x y, ds[i]? = some x ∧ es[i]? = some y ∧ d = .tup [x, y]
  | [], _, _, _, h => by simp [zipD] at h
  | _ :: _, [], _, _, h => by simp [zipD] at h
  | x :: ds, y :: es, 0, d, h => by
    have : D.tup [x, y] = d := by simpa [zipD] using h
    exact ⟨x, y, rfl, rfl, this.symm⟩
  | x :: ds, y :: es, i + 1, d, h => by
    obtain ⟨a, b, h1, h2, h3⟩ := zipD_at (ds := ds) (es := es) (i := i) (by simpa [zipD] using h)
    exact ⟨a, b, by simpa using h1, by simpa using h2, h3⟩
theorem zipD_end : ∀ {ds es : List D} {i : Nat}, (zipD ds es).length ≤ i → ds.length ≤ i ∨ es.length ≤ i
  | [], _, _, _ => .inl (Nat.zero_le _)
  | _ :: _, [], _, _ => .inr (Nat.zero_le _)
  | x :: ds, y :: es, 0, h => by simp [zipD] at h
  | x :: ds, y :: es, i + 1, h => by
    have := zipD_end (ds := ds) (es := es) (i := i) (by simpa [zipD] using h)
    simpa using this
def xiZip (fs : XA) : XI := fun E => (fs E).bind fun p => (Res.of (shares p.2 p.1)).bind fun q => match q.1 with
  | [.lst ds, .lst es] => .ok (zipD ds es, q.2)
  | _ => .fail
theorem SI.zip {ta : TA} {fs : XA} (hs : SA K c W ta fs) : SI K c W (iZip K ta) (xiZip fs) := by
  intro G E σ H R I h
  refine hs G E σ H _ I (h.bind fun p hp vs H1 I1 r1 => ?_)
  obtain ⟨⟨ds, E2⟩, e2, hq⟩ := hp.of
  obtain ⟨I2, R2, _⟩ := I1.shares r1 e2
  match ds, e2, hq, R2 with
  | [.lst xs, .lst ys], e2, hq, R2 =>
    obtain ⟨v, ws, rfl, rv, rn⟩ := R2.inv_cons
    obtain ⟨v', ws', rfl, rv', rn'⟩ := rn.inv_cons
    obtain rfl := rn'.inv_nil
    have I3 : DI K c (G.pins [(v, .lst xs), (v', .lst ys)]) E2 σ H1 := (I2.addP rv').addP rv
    have look : ∀ {G : Gd} {E σ H}, (∀ p ∈ [(v, D.lst xs), (v', D.lst ys)], p ∈ G.T) → DI K c G E σ H → Rep K c (ZZ G E σ) H v (.lst xs) ∧ Rep K c (ZZ G E σ) H v' (.lst ys) := fun {G E σ H} ht I =>
      ⟨I.pin (v, .lst xs) (ht _ List.mem_cons_self), I.pin (v', .lst ys) (ht _ (List.mem_cons_of_mem _ List.mem_cons_self))⟩
    obtain ⟨a, vs, rfl, hs, rs⟩ := (show Vw K c (ZZ G E2 σ) H1 v (.lst xs) from .inl rv).lst
    obtain ⟨b, us, rfl, hu, rt⟩ := (show Vw K c (ZZ G E2 σ) H1 v' (.lst ys) from .inl rv').lst
    refine ⟨a, b, vs, us, rfl, .inl hs, .inl hu, hq _ H1 _ I3 ⟨fun G i d E σ H ht I hi => ?_, fun G i E σ H ht I hi => ?_⟩⟩
    · obtain ⟨x, y, hx, hy, rfl⟩ := zipD_at hi
      obtain ⟨q1, q2⟩ := look ht I
      obtain ⟨a', ws, ea, hs', rs'⟩ := (show Vw K c (ZZ G E σ) H (.ref a) (.lst xs) from .inl q1).lst
      cases ea
      obtain ⟨b', ws2, eb, hs2, rs2⟩ := (show Vw K c (ZZ G E σ) H (.ref b) (.lst ys) from .inl q2).lst
      cases eb
      obtain ⟨w, hw, rw'⟩ := rs'.at hx
      obtain ⟨w2, hw2, rw2⟩ := rs2.at hy
      refine ⟨⟨ws, ws2, w, w2, .inl hs', .inl hs2, hw, hw2⟩, fun z H' hyy => ?_⟩
      obtain ⟨T, z1, z2, rfl, hT, rfl, hz1, hz2⟩ := hyy
      have t1 := hz1 ws (.inl hs')
      rw [hw] at t1
      cases t1
      have t2 := hz2 ws2 (.inl hs2)
      rw [hw2] at t2
      cases t2
      obtain ⟨J, Q⟩ := I.newS hT (.tup [w, w2] [x, y]) (.cons rw' (.cons rw2 .nil))
      exact ⟨J, Q, fun b o e => by rw [upd_ne (ne_of_none e hT)]; exact e⟩
    · obtain ⟨q1, q2⟩ := look ht I
      obtain ⟨a', ws, ea, hs', rs'⟩ := (show Vw K c (ZZ G E σ) H (.ref a) (.lst xs) from .inl q1).lst
      cases ea
      obtain ⟨b', ws2, eb, hs2, rs2⟩ := (show Vw K c (ZZ G E σ) H (.ref b) (.lst ys) from .inl q2).lst
      cases eb
      exact ⟨ws, ws2, .inl hs', .inl hs2, by rw [rs'.1, rs2.1]; exact zipD_end hi⟩
end
end DS

namespace DS
open PySem PySem.Spec L2
section
variable {K : PySem.W.Frag} {c : Cf} {G : Gd} {E E' : En} {σ σ' : St} {H H' : Hp} {v : V} {e : Ev} {d : D} {W : WX} {B : Ends}
abbrev WF : WX := fun _ _ _ _ => False
def wipeE (E : En) : List Nat → En
  | [] => E
  | v :: vs => (wipeE E vs).set v none
theorem wipeE_length (E : En) : ∀ vs : List Nat, (wipeE E vs).length = E.length
  | [] => rfl
  | v :: vs => by unfold wipeE; rw [List.length_set, wipeE_length E vs]
theorem wipeE_some : ∀ {vs : List Nat} {j : Nat} {b : Bd}, (wipeE E vs)[j]? = some (some b) → E[j]? = some (some b) ∧ j ∉ vs
  | [], _, _, h => ⟨h, by simp⟩
  | v :: vs, j, b, h => by
    unfold wipeE at h
    rcases getElem?_set_some h with ⟨_, e, _⟩ | ⟨nj, e⟩
    · cases e
    · obtain ⟨h1, h2⟩ := wipeE_some e
      exact ⟨h1, by simp only [List.mem_cons, not_or]; exact ⟨fun z => nj z.symm, h2⟩⟩
theorem wipe_at {σ : St} : ∀ {vs : List Nat} {j : Nat}, j ∉ vs → (wipe σ vs)[j]? = σ[j]?
  | [], _, _ => rfl
  | v :: vs, j, h => by
    unfold wipe
    rw [List.getElem?_set_ne (fun z => h (by simp [z])), wipe_at fun z => h (List.mem_cons_of_mem _ z)]
theorem wipe_in {σ : St} : ∀ {vs : List Nat} {j : Nat}, j ∈ vs → j < σ.length → (wipe σ vs)[j]? = some none
  | [], _, h, _ => by cases h
  | v :: vs, j, h, hl => by
    unfold wipe
    by_cases hv : v = j
    · subst hv
      rw [List.getElem?_set_self (by rw [wipe_length]; exact hl)]
    · rw [List.getElem?_set_ne hv]
      rcases List.mem_cons.mp h with z | z
      · exact absurd z.symm hv
      · exact wipe_in z hl
theorem wipe_eq {σ σ2 : St} {vs : List Nat} (hl : σ2.length = σ.length) (h : ∀ j, j ∉ vs → σ2[j]? = σ[j]?) : wipe σ2 vs = wipe σ vs := by
  apply List.ext_getElem?
  intro j
  by_cases hj : j ∈ vs
  · by_cases hs : j < σ.length
    · rw [wipe_in hj (by rw [hl]; exact hs), wipe_in hj hs]
    · rw [List.getElem?_eq_none (by rw [wipe_length]; omega), List.getElem?_eq_none (by rw [wipe_length]; omega)]
  · rw [wipe_at hj, wipe_at hj, h j hj]
theorem wipe_wipe {σ : St} {vs : List Nat} : wipe (wipe σ vs) vs = wipe σ vs := wipe_eq (wipe_length _ _) fun j hj => wipe_at hj
theorem DI.wipe (I : DI K c G E σ H) (vs : List Nat) : DI K c G (wipeE E vs) (L2.wipe σ vs) H :=
  I.weak (by rw [wipeE_length, wipe_length]; exact I.ln) fun j b h => by
    obtain ⟨h1, h2⟩ := wipeE_some h
    exact ⟨h1, wipe_at h2⟩
/-- from here on -/
def reb (G : Gd) (E : En) (σ : St) (H : Hp) (ts : List (V × D)) : Gd := { H0 := H, Z0 := G.Z0, U := OwnA E σ, fx := G.fx, T := ts ++ G.T }
theorem DI.reb {ts : List (V × D)} (I : DI K c G E σ H) (ht : ∀ p ∈ ts, Rep K c (ZZ G E σ) H p.1 p.2) : DI K c (DS.reb G E σ H ts) E σ H := by
  refine ⟨fun b o e _ => e, I.ln, fun i b e => ?_, I.un, I.zin, fun p hp => ?_⟩
  · obtain ⟨w, ew, r⟩ := I.rel i b e
    refine ⟨w, ew, ?_⟩
    obtain ⟨k, d⟩ := b
    cases k with
    | sh => exact r
    | ow => obtain ⟨a, rfl, t, q1, q2, q3⟩ := r; exact ⟨a, rfl, t, .inl ⟨i, .ow, d, e, by decide, ew⟩, q2, q3⟩
    | io => obtain ⟨a, rfl, t, q1, q2, q3⟩ := r; exact ⟨a, rfl, t, .inl ⟨i, .io, d, e, by decide, ew⟩, q2, q3⟩
  · rcases List.mem_append.mp hp with hp | hp
    · exact ht p hp
    · exact I.pin p hp
theorem DI.ownU (I : DI K c G E σ H) {a : Addr} (h : OwnA E σ a) : (G.U a ∨ G.H0 a = none) ∧ ¬ G.Z0 a := by
  obtain ⟨i, k, d, e, nk, es⟩ := h
  obtain ⟨w, ew, r⟩ := I.rel i _ e
  rw [es] at ew
  cases ew
  cases k with
  | sh => exact absurd rfl nk
  | ow => obtain ⟨a', ea, _, q1, q2, _⟩ := r; cases ea; exact ⟨q1, q2⟩
  | io => obtain ⟨a', ea, _, q1, q2, _⟩ := r; cases ea; exact ⟨q1, q2⟩
theorem DI.unreb {ts : List (V × D)} (I : DI K c G E σ H) (J : DI K c (DS.reb G E σ H ts) E' σ' H') : DI K c G E' σ' H' := by
  refine ⟨fun b o e nu => ?_, J.ln, fun i b e => ?_, J.un, J.zin, fun p hp => J.pin p (List.mem_append_right _ hp)⟩
  · have h1 := I.keep b o e nu
    refine J.keep b o h1 fun z => ?_
    rcases (I.ownU z).1 with q | q
    · exact nu q
    · rw [e] at q; cases q
  · obtain ⟨w, ew, r⟩ := J.rel i b e
    refine ⟨w, ew, ?_⟩
    have low : ∀ {a : Addr}, (OwnA E σ a ∨ H a = none) → G.U a ∨ G.H0 a = none := fun {a} q => q.elim (fun z => (I.ownU z).1) I.h0
    obtain ⟨k, d⟩ := b
    cases k with
    | sh => exact r
    | ow => obtain ⟨a, rfl, t, q1, q2, q3⟩ := r; exact ⟨a, rfl, t, low q1, q2, q3⟩
    | io => obtain ⟨a, rfl, t, q1, q2, q3⟩ := r; exact ⟨a, rfl, t, low q1, q2, q3⟩
theorem DI.unZ {a : Addr} (I : DI K c (G.addZ a) E σ H) : DI K c G E σ H := by
  have hz : ∀ b, ZZ G E σ b → ZZ (G.addZ a) E σ b := fun b z => ZZ.addZ.mpr (.inl z)
  refine ⟨I.keep, I.ln, fun i b e => ?_, I.un, fun b z => I.zin b (.inl z), fun p hp => (I.pin p hp).anti hz⟩
  obtain ⟨w, ew, r⟩ := I.rel i b e
  refine ⟨w, ew, ?_⟩
  obtain ⟨k, d⟩ := b
  cases k with
  | sh => exact Rep.anti r hz
  | ow => obtain ⟨a, rfl, t, q1, q2, q3⟩ := r; exact ⟨a, rfl, t.anti hz, q1, fun z => q2 (.inl z), q3⟩
  | io => obtain ⟨a, rfl, t, q1, q2, q3⟩ := r; exact ⟨a, rfl, t.anti hz, q1, fun z => q2 (.inl z), q3⟩
/-- a hidden object of one's own is changed -/
theorem DI.hid {a : Addr} {o : HO} (I : DI K c G E σ H) (ha : G.Z0 a) (hu : G.U a ∨ G.H0 a = none) : DI K c G E σ (upd H a o) := by
  have hk : ∀ b u, ¬ ZZ G E σ b → H b = some u → upd H a o b = some u := fun b u nz e => by
    rw [upd_ne (fun z => nz (by rw [z]; exact .inl ha))]
    exact e
  refine ⟨fun b u e nu => ?_, I.ln, fun i b e => ?_, I.un, fun b z => ?_, fun p hp => (I.pin p hp).mono (fun b z => .inl z) hk⟩
  · have nb : b ≠ a := fun z => by
      subst z
      rcases hu with q | q
      · exact nu q
      · rw [e] at q; cases q
    rw [upd_ne nb]
    exact I.keep b u e nu
  · obtain ⟨w, ew, r⟩ := I.rel i b e
    refine ⟨w, ew, ?_⟩
    obtain ⟨k, d⟩ := b
    cases k with
    | sh => exact Rep.mono r (fun b z => .inl z) hk
    | ow => obtain ⟨a', rfl, t, q1, q2, q3⟩ := r; exact ⟨a', rfl, t.mono (fun b z => .inl z) hk (upd_ne fun z => q2 (by rw [z]; exact ha)), q1, q2, q3⟩
    | io => obtain ⟨a', rfl, t, q1, q2, q3⟩ := r; exact ⟨a', rfl, t.mono (fun b z => .inl z) hk (upd_ne fun z => q2 (by rw [z]; exact ha)), q1, q2, q3⟩
  · by_cases hb : b = a
    · subst hb; exact ⟨o, upd_same⟩
    · obtain ⟨u, e⟩ := I.zin b z
      exact ⟨u, by rw [upd_ne hb]; exact e⟩

def Res.nox {α : Type} : Res α → Res α
  | .ok a => .ok a
  | _ => .fail
theorem OkG.nox {α β : Type} {P : β → Prop} {P' : α → Prop} {f : Res α} {g : α → Res β} {W' : WX} {G' : Gd} {σ'' : St} (h : OkG K c G W σ P (f.nox.bind g)) (k : ∀ a, OkG K c G W σ P (g a) → P' a) : OkG K c G' W' σ'' P' f := by
  cases f with
  | ok a => exact k a h
  | ex k v E => exact h.elim
  | fail => exact h
def lcL (g : XG) (t : XT) (f : XE) (vs : List Nat) : List D → En → List D → Res (List D × En)
  | [], E, acc => .ok (acc, E)
  | d :: ds, E, acc => (Res.of (g d E)).bind fun E1 => (t E1).nox.bind fun p => if p.1 = true then (f p.2).nox.bind fun q => (Res.of (share q.2 q.1)).bind fun r => if acc.length < sizeLine then lcL g t f vs ds (wipeE r.2 vs) (acc ++ [r.1]) else .fail
    else lcL g t f vs ds (wipeE p.2 vs) acc
@[simp] theorem lcL_nil {g : XG} {t : XT} {f : XE} {vs : List Nat} {E : En} {acc : List D} : lcL g t f vs [] E acc = .ok (acc, E) := rfl
theorem lcL_cons {g : XG} {t : XT} {f : XE} {vs : List Nat} {d : D} {ds : List D} {E : En} {acc : List D} : lcL g t f vs (d :: ds) E acc = (Res.of (g d E)).bind fun E1 => (t E1).nox.bind fun p => if p.1 = true then (f p.2).nox.bind fun q => (Res.of (share q.2 q.1)).bind fun r => if acc.length < sizeLine then lcL g t f vs ds (wipeE r.2 vs) (acc ++ [r.1]) else .fail
    else lcL g t f vs ds (wipeE p.2 vs) acc := rfl
def noOwn (E : En) (vs : List Nat) : Bool := vs.all fun v => match E[v]? with
  | some none => true
  | some (some (.sh, _)) => true
  | _ => false
def backE (E0 E1 : En) : List Nat → En
  | [] => E1
  | v :: vs => (backE E0 E1 vs).set v (E0[v]?.join)
def xLc (fi : XI) (g : XG) (t : XT) (f : XE) (vs : List Nat) : XE := fun E => (fi E).bind fun p => if noOwn p.2 vs = true then (lcL g t f vs p.1 (wipeE p.2 vs) []).bind fun q => .ok (.o (.lst q.1), backE p.2 q.2 vs) else .fail
theorem RepE.unpinO {ts : List (V × D)} (r : RepE K c (G.pins ts) E σ H v e) : RepE K c G E σ H v e := r.unP
theorem backE_len {E0 E1 : En} : ∀ {vs : List Nat}, (backE E0 E1 vs).length = E1.length
  | [] => rfl
  | v :: vs => by unfold backE; rw [List.length_set, backE_len]
/-- the outer names come back -/
theorem DI.back {E0 : En} (tp : List (V × D)) : ∀ {vs : List Nat}, DI K c G E σ H → (∀ p ∈ tp, p ∈ G.T) → (∀ j ∈ vs, ∀ b, E0[j]? = some (some b) → ∃ d w, b = (.sh, d) ∧ σ[j]? = some (some w) ∧ (w, d) ∈ tp) → DI K c G (backE E0 E vs) σ H
  | [], I, _, _ => I
  | v :: vs, I, ht, h => by
    have J := DI.back (vs := vs) tp I ht fun j hj => h j (List.mem_cons_of_mem _ hj)
    unfold backE
    have wk : DI K c G ((backE E0 E vs).set v none) σ H := J.weak (by simpa using J.ln) fun j b e => by
      rcases getElem?_set_some e with ⟨_, e', _⟩ | ⟨_, e'⟩
      · cases e'
      · exact ⟨e', rfl⟩
    cases q : E0[v]? with
    | none => exact wk
    | some x =>
      cases x with
      | none => exact wk
      | some b =>
        obtain ⟨d, w, rfl, hw, hm⟩ := h v List.mem_cons_self b q
        have R := J.putS (i := v) (J.pin _ (ht _ hm))
        have es : σ.set v (some w) = σ := by
          apply List.ext_getElem?
          intro j
          by_cases hj : v = j
          · subst hj
            rw [List.getElem?_set_self (List.getElem?_eq_some_iff.mp hw).1, hw]
          · rw [List.getElem?_set_ne hj]
        rw [es] at R
        exact R
theorem pinsOf (I : DI K c G E σ H) : ∀ {vs : List Nat}, noOwn E vs = true → ∃ tp : List (V × D), (∀ p ∈ tp, Rep K c (ZZ G E σ) H p.1 p.2) ∧ ∀ j ∈ vs, ∀ b, E[j]? = some (some b) → ∃ d w, b = (.sh, d) ∧ σ[j]? = some (some w) ∧ (w, d) ∈ tp
  | [], _ => ⟨[], by simp, by simp⟩
  | v :: vs, h => by
    have h' : ((match E[v]? with
      | some none => true
      | some (some (.sh, _)) => true
      | _ => false) && noOwn E vs) = true := h
    obtain ⟨h1, h2⟩ := Bool.and_eq_true_iff.mp h'
    obtain ⟨tp, t1, t2⟩ := pinsOf I h2
    split at h1
    · rename_i q
      refine ⟨tp, t1, fun j hj b hb => ?_⟩
      rcases List.mem_cons.mp hj with rfl | hj
      · rw [q] at hb; cases hb
      · exact t2 j hj b hb
    · rename_i d q
      obtain ⟨w, hw, r⟩ := I.rel v _ q
      refine ⟨(w, d) :: tp, fun p hp => ?_, fun j hj b hb => ?_⟩
      · rcases List.mem_cons.mp hp with rfl | hp
        · exact r
        · exact t1 p hp
      · rcases List.mem_cons.mp hj with rfl | hj
        · rw [q] at hb; cases hb
          exact ⟨d, w, rfl, hw, List.mem_cons_self⟩
        · obtain ⟨d', w', a1, a2, a3⟩ := t2 j hj b hb
          exact ⟨d', w', a1, a2, List.mem_cons_of_mem _ a3⟩
    · cases h1
theorem SE.lc {wi : TI} {fi : XI} {g : TG} {is : List Nat} {gd : XG} {tt : TT} {ft : XT} {te : TE} {fe : XE} {vs : List Nat} (hi : SI K c W wi fi) (hg : SG K c g is gd) (his : ∀ i ∈ is, i ∈ vs) (ht : SF K c WF tt ft) (he : SE K c WF te fe) :
    SE K c W (tLc wi g tt te vs) (xLc fi gd ft fe vs) := by
  intro G E σ H Q I h
  refine hi G E σ H _ I (h.bind fun p hp J H1 ts I1 good => ?_)
  obtain ⟨ds, E1⟩ := p
  intro A hA
  by_cases hno : noOwn E1 vs = true
  case neg =>
    have hp' : OkG K c G W σ (PE1 K c G σ Q) (if noOwn E1 vs = true then (lcL gd ft fe vs ds (wipeE E1 vs) []).bind fun q => .ok (.o (.lst q.1), backE E1 q.2 vs) else .fail) := hp
    rw [if_neg hno] at hp'
    exact hp'.elim
  have hp' : OkG K c G W σ (PE1 K c G σ Q) (if noOwn E1 vs = true then (lcL gd ft fe vs ds (wipeE E1 vs) []).bind fun q => .ok (.o (.lst q.1), backE E1 q.2 vs) else .fail) := hp
  rw [if_pos hno] at hp'
  obtain ⟨tp, tp1, tp2⟩ := pinsOf I1 hno
  have I2 : DI K c ((G.pins ts).pins tp) E1 σ H1 := ⟨I1.keep, I1.ln, I1.rel, I1.un, I1.zin, fun p hp => by
    rcases List.mem_append.mp hp with hp | hp
    · exact tp1 p hp
    · exact I1.pin p hp⟩
  obtain ⟨_, a', ea, tA, IA, uA, _⟩ := I2.new hA (o := .lst []) trivial (.lst [] []) .nil
  cases ea
  obtain ⟨G1, eG1⟩ : ∃ G1, G1 = ((G.pins ts).pins tp).addZ A := ⟨_, rfl⟩
  have hu1 : G1.U A ∨ G1.H0 A = none := by rw [eG1]; exact uA
  have hz1 : G1.Z0 A := by rw [eG1]; exact .inr rfl
  have hts : ∀ p ∈ ts, p ∈ G1.T := fun p hp => by rw [eG1]; exact List.mem_append_right _ (List.mem_append_left _ hp)
  have htp : ∀ p ∈ tp, p ∈ G1.T := fun p hp => by rw [eG1]; exact List.mem_append_left _ hp
  rw [← eG1] at IA
  refine ⟨fun i m H => ∃ E acc vacc, DI K c G1 E (wipe σ vs) H ∧ H A = some (.lst vacc) ∧ Reps K c (ZZ G1 E (wipe σ vs)) H vacc acc ∧ (∀ j ∈ vs, ∀ b, E[j]? ≠ some (some b)) ∧
    OkG K c G W σ (PE1 K c G σ Q) ((lcL gd ft fe vs (ds.drop i) E acc).bind fun q => .ok (.o (.lst q.1), backE E1 q.2 vs)) ∧ m = ds.length - i, ⟨_, wipeE E1 vs, [], [], IA.wipe vs, upd_same, .nil, fun j hj b e => (wipeE_some e).2 hj, hp', rfl⟩, ?_⟩
  rintro i m H2 ⟨E2, acc, vacc, J2, hA2, R2, wn, q2, em⟩
  by_cases hi : i < ds.length
  · have ed : ds.drop i = ds[i] :: ds.drop (i + 1) := List.drop_eq_getElem_cons hi
    rw [ed, lcL_cons] at q2
    obtain ⟨g1, g2⟩ := good.go G1 i ds[i] E2 (wipe σ vs) H2 hts J2 (List.getElem?_eq_getElem hi)
    refine .inr ⟨g1, fun H' => ∃ E acc vacc, DI K c G1 E (wipe σ vs) H' ∧ H' A = some (.lst vacc) ∧ Reps K c (ZZ G1 E (wipe σ vs)) H' vacc acc ∧ (∀ j ∈ vs, ∀ b, E[j]? ≠ some (some b)) ∧
      OkG K c G W σ (PE1 K c G σ Q) ((lcL gd ft fe vs (ds.drop (i + 1)) E acc).bind fun q => .ok (.o (.lst q.1), backE E1 q.2 vs)), fun H' hN => ?_, fun x H3 hy => ?_⟩
    · obtain ⟨E, acc, vacc, h1, h2, h3, h4, h5⟩ := hN
      exact ⟨ds.length - (i + 1), by omega, E, acc, vacc, h1, h2, h3, h4, h5, rfl⟩
    · obtain ⟨J3, R3, k3⟩ := g2 x H3 hy
      have hA3 := k3 _ _ hA2
      have R3' : Reps K c (ZZ G1 E2 (wipe σ vs)) H3 vacc acc := R2.keepH k3
      -- the base of this turn
      have B3 : DI K c (DS.reb G1 E2 (wipe σ vs) H3 (vacc.zip acc)) E2 (wipe σ vs) H3 := J3.reb fun p hp => by
        obtain ⟨j, h1, h2⟩ := mem_zip hp
        exact R3'.2 j _ _ h1 h2
      cases eg : gd ds[i] E2 with
      | none => rw [eg] at q2; exact q2.elim
      | some E3 =>
        rw [eg] at q2
        have q3 : OkG K c G W σ (PE1 K c G σ Q) (((ft E3).nox.bind fun p => if p.1 = true then (fe p.2).nox.bind fun q => (Res.of (share q.2 q.1)).bind fun r => if acc.length < sizeLine then lcL gd ft fe vs (ds.drop (i + 1)) (wipeE r.2 vs) (acc ++ [r.1]) else .fail
          else lcL gd ft fe vs (ds.drop (i + 1)) (wipeE p.2 vs) acc).bind fun q => .ok (.o (.lst q.1), backE E1 q.2 vs)) := q2
        refine hg _ E2 (wipe σ vs) H3 x ds[i] E3 _ B3 R3 eg fun σ4 H4 B4 l4 s4 k4 => ?_
        have ew : wipe σ4 vs = wipe σ vs := by
          rw [wipe_eq (σ := wipe σ vs) l4 fun j hj => s4 j fun z => hj (his j z), wipe_wipe]
        refine ⟨ew, ?_⟩
        -- what is kept through the turn
        have fin : ∀ {E5 : En} {H5 : Hp}, DI K c (DS.reb G1 E2 (wipe σ vs) H3 (vacc.zip acc)) E5 σ4 H5 → DI K c G1 (wipeE E5 vs) (wipe σ vs) H5 ∧ H5 A = some (.lst vacc) ∧ Reps K c (ZZ G1 (wipeE E5 vs) (wipe σ vs)) H5 vacc acc ∧ DI K c G1 E5 σ4 H5 := fun {E5 H5} B5 => by
          have J5 := J3.unreb B5
          have w5 := J5.wipe vs
          have hzz : ∀ b, ZZ G1 (wipeE E5 vs) (wipe σ4 vs) b → ZZ G1 E5 σ4 b := fun b z => z.imp id (OwnA.weak fun j b e => by
            obtain ⟨h1, h2⟩ := wipeE_some e
            exact ⟨h1, wipe_at h2⟩)
          rw [ew] at w5 hzz
          refine ⟨w5, B5.keep A _ hA3 fun z => (J3.ownU z).2 hz1, ⟨R3'.1, fun j v e h1 h2 => ?_⟩, J5⟩
          exact (B5.pin (v, e) (List.mem_append_left _ (List.mem_iff_getElem?.mpr ⟨j, by rw [List.getElem?_zip_eq_some]; exact ⟨h1, h2⟩⟩))).anti hzz
        have q3' : OkG K c G W σ (PE1 K c G σ Q) ((ft E3).nox.bind fun p => (if p.1 = true then (fe p.2).nox.bind fun q => (Res.of (share q.2 q.1)).bind fun r => if acc.length < sizeLine then lcL gd ft fe vs (ds.drop (i + 1)) (wipeE r.2 vs) (acc ++ [r.1]) else .fail
          else lcL gd ft fe vs (ds.drop (i + 1)) (wipeE p.2 vs) acc).bind fun q => .ok (.o (.lst q.1), backE E1 q.2 vs)) := by
          cases hf : ft E3 with
          | ok a => rw [hf] at q3; exact q3
          | ex k v E => rw [hf] at q3; exact q3.elim
          | fail => rw [hf] at q3; exact q3.elim
        refine ht _ E3 σ4 H4 _ B4 (OkG.nox q3' fun p hp H5 B5 => ?_)
        obtain ⟨b, E5⟩ := p
        cases b with
        | false =>
          obtain ⟨f1, f2, f3, _⟩ := fin B5
          exact ⟨_, acc, vacc, f1, f2, f3, fun j hj b e => (wipeE_some e).2 hj, hp⟩
        | true =>
          have hp2 : OkG K c G W σ (PE1 K c G σ Q) ((fe E5).nox.bind fun q => ((Res.of (share q.2 q.1)).bind fun r => if acc.length < sizeLine then lcL gd ft fe vs (ds.drop (i + 1)) (wipeE r.2 vs) (acc ++ [r.1]) else .fail).bind fun q => .ok (.o (.lst q.1), backE E1 q.2 vs)) := by
            have hp3 : OkG K c G W σ (PE1 K c G σ Q) (((fe E5).nox.bind fun q => (Res.of (share q.2 q.1)).bind fun r => if acc.length < sizeLine then lcL gd ft fe vs (ds.drop (i + 1)) (wipeE r.2 vs) (acc ++ [r.1]) else .fail).bind fun q => .ok (.o (.lst q.1), backE E1 q.2 vs)) := hp
            cases hf : fe E5 with
            | ok a => rw [hf] at hp3; exact hp3
            | ex k v E => rw [hf] at hp3; exact hp3.elim
            | fail => rw [hf] at hp3; exact hp3.elim
          refine he _ E5 σ4 H5 _ B5 (OkG.nox hp2 fun q hq y H6 B6 r6 => ?_)
          obtain ⟨ev, E6⟩ := q
          cases es : share E6 ev with
          | none => rw [es] at hq; exact hq.elim
          | some r =>
            obtain ⟨dd, E7⟩ := r
            rw [es] at hq
            have hq2 : OkG K c G W σ (PE1 K c G σ Q) ((if acc.length < sizeLine then lcL gd ft fe vs (ds.drop (i + 1)) (wipeE E7 vs) (acc ++ [dd]) else .fail).bind fun q => .ok (.o (.lst q.1), backE E1 q.2 vs)) := hq
            by_cases hlen : acc.length < sizeLine
            · rw [if_pos hlen] at hq2
              obtain ⟨B7, R7, _⟩ := B6.share r6.a es
              obtain ⟨f1, f2, f3, f4⟩ := fin B7
              have R7' : Rep K c (ZZ G1 (wipeE E7 vs) (wipe σ vs)) H6 y dd := R7.anti fun b z => by
                rw [← ew] at z
                exact z.imp id (OwnA.weak fun j b e => by
                  obtain ⟨h1, h2⟩ := wipeE_some e
                  exact ⟨h1, wipe_at h2⟩)
              refine ⟨vacc, f2, by rw [f3.1]; exact hlen, wipeE E7 vs, acc ++ [dd], vacc ++ [y], f1.hid hz1 hu1, upd_same, ?_, fun j hj b e => (wipeE_some e).2 hj, hq2⟩
              exact (f3.append (.cons R7' .nil)).mono (fun b z => .inl z) fun b u nz e => by
                rw [upd_ne (fun z => nz (by rw [z]; exact .inl hz1))]
                exact e
            · rw [if_neg hlen] at hq2
              exact hq2.elim
  · rw [List.drop_eq_nil_of_le (by omega), lcL_nil] at q2
    refine .inl ⟨good.stop G1 i E2 (wipe σ vs) H2 hts J2 (show ds.length ≤ i by omega), ?_⟩
    have hln : E2.length = σ.length := by rw [J2.ln, wipe_length]
    have hwk : ∀ (j : Nat) b, E2[j]? = some (some b) → E2[j]? = some (some b) ∧ σ[j]? = (wipe σ vs)[j]? := fun j b e => ⟨e, (wipe_at fun z => wn j z b e).symm⟩
    have J3 : DI K c G1 E2 σ H2 := J2.weak hln hwk
    have J4 : DI K c G1 (backE E1 E2 vs) σ H2 := DI.back tp J3 htp tp2
    have zz4 : ∀ b, ZZ G1 (backE E1 E2 vs) σ b → ZZ G1 E2 (wipe σ vs) b := by
      rintro b (z | ⟨j, k, d, e, nk, es⟩)
      · exact .inl z
      · have bk : ∀ {ws : List Nat}, (∀ j ∈ ws, j ∈ vs) → (backE E1 E2 ws)[j]? = some (some (k, d)) → E2[j]? = some (some (k, d)) := by
          intro ws
          induction ws with
          | nil => intro _ e; exact e
          | cons w ws ih =>
            intro hw e
            unfold backE at e
            rcases getElem?_set_some e with ⟨ew, e', _⟩ | ⟨_, e'⟩
            · subst ew
              have q : E1[w]? = some (some (k, d)) := by
                cases q : E1[w]? with
                | none => rw [q] at e'; cases e'
                | some x => rw [q] at e'; exact congrArg some e'.symm
              obtain ⟨d', w', e2, _⟩ := tp2 w (hw w List.mem_cons_self) _ q
              cases e2
              exact absurd rfl nk
            · exact ih (fun j hj => hw j (List.mem_cons_of_mem _ hj)) e'
        have e2 := bk (fun j hj => hj) e
        exact .inr ⟨j, k, d, e2, nk, by rw [(hwk j _ e2).2] at es; exact es⟩
    have J5 : DI K c ((G.addZ A).pins (tp ++ ts)) (backE E1 E2 vs) σ H2 := ⟨by have := J4.keep; rw [eG1] at this; exact this, J4.ln, by have := J4.rel; rw [eG1] at this; exact this, J4.un, by have := J4.zin; rw [eG1] at this; exact this, fun p hp => by
      have := J4.pin p (by rw [eG1]; show p ∈ tp ++ (ts ++ G.T); rw [← List.append_assoc]; exact hp)
      rw [eG1] at this
      exact this⟩
    refine q2 _ H2 J5.unP.unZ ⟨A, rfl, ⟨.lst vacc, vacc, acc, hA2, trivial, .lst _ _, ?_⟩, J5.unP, ?_, ?_⟩
    · have := R2.anti zz4
      rw [eG1] at this
      exact this
    · rw [eG1] at hu1; exact hu1
    · intro z
      have hAz : ¬ ZZ ((G.pins ts).pins tp) E1 σ A := I2.nz hA
      rcases z with z | z
      · exact hAz (.inl z)
      · exact (J4.ownU z).2 hz1
end
end DS

namespace DS
open PySem PySem.Spec L2
section
variable {K : PySem.W.Frag} {c : Cf} {G : Gd} {E E' : En} {σ σ' : St} {H H' : Hp} {v : V} {e : Ev} {d : D} {W : WX} {B : Ends}

/-! ### defs -/
inductive FR | ok (e : Ev) (bs : En) | ex (k : Nat) (v : V) | fail
abbrev FS := List Bd → FR
/-- what is handed back to the caller of its own objects -/
@[simp] def keepIo : List Bd → En → En
  | [], _ => []
  | (.io, _) :: bs, some (.io, d) :: E => some (.io, d) :: keepIo bs E
  | _ :: bs, E => none :: keepIo bs E.tail
def Out.fr (bs : List Bd) : Out → FR
  | .nx E => .ok (.s .non) (keepIo bs E)
  | .rt (.b _) _ => .fail
  | .rt e E => .ok e (keepIo bs E)
  | .ex k v _ => .ex k v
  | _ => .fail
/-- a def by its body, nl local names beside the parameters -/
def fnOf (body : XS) (nl : Nat) : FS := fun bs => (body (bs.map some ++ List.replicate nl none)).fr bs
def OkF (K : PySem.W.Frag) (c : Cf) (G : Gd) (bs : List Bd) (vs : List V) (Q : VK) (X : XK) : FR → Prop
  | .ok e bs' => ∀ v H', DI K c G bs' (vs.map some) H' → RepE K c G bs' (vs.map some) H' v e → Q v H'
  | .ex k v => ∀ dx H', DI K c G (bs.map fun _ => none) (vs.map some) H' → H' dx = some (.xd [(c.xf k, v)]) → X (.ref (c.cl k)) (some dx) H'
  | .fail => False
/-- a def's promise by data -/
def spD (K : PySem.W.Frag) (c : Cf) (n : Nat) (F : FS) : Sp := fun vs H Q X => ∃ G bs, vs.length = n ∧ bs.length = n ∧ (∀ (i : Nat) d, bs[i]? ≠ some (.ow, d)) ∧ DI K c G (bs.map some) (vs.map some) H ∧ OkF K c G bs vs Q X (F bs)

theorem keepIo_len : ∀ {bs : List Bd} {E : En}, (keepIo bs E).length = bs.length
  | [], E => by simp
  | (k, d) :: bs, [] => by
    have ih := keepIo_len (bs := bs) (E := [])
    cases k <;> simp [ih]
  | (k, d) :: bs, x :: E => by
    have ih := keepIo_len (bs := bs) (E := E)
    cases k with
    | io =>
      cases x with
      | none => simp [ih]
      | some p =>
        obtain ⟨k', d'⟩ := p
        cases k' <;> simp [ih]
    | sh => simp [ih]
    | ow => simp [ih]
theorem keepIo_at : ∀ {bs : List Bd} {E : En} {j : Nat} {b : Bd}, (keepIo bs E)[j]? = some (some b) → ∃ d d', b = (.io, d') ∧ bs[j]? = some (.io, d) ∧ E[j]? = some (some (.io, d'))
  | [], E, _, _, h => by simp at h
  | (k, d) :: bs, [], 0, b, h => by cases k <;> simp at h
  | (k, d) :: bs, [], j + 1, b, h => by
    have h' : (keepIo bs [])[j]? = some (some b) := by cases k <;> simpa using h
    obtain ⟨d1, d2, e1, e2, e3⟩ := keepIo_at h'
    simp at e3
  | (k, d) :: bs, x :: E, 0, b, h => by
    cases k with
    | io =>
      cases x with
      | none => simp at h
      | some p =>
        obtain ⟨k', d'⟩ := p
        cases k' with
        | io => simp at h; subst h; exact ⟨d, d', rfl, rfl, rfl⟩
        | sh => simp at h
        | ow => simp at h
    | sh => simp at h
    | ow => simp at h
  | (k, d) :: bs, x :: E, j + 1, b, h => by
    have h' : (keepIo bs E)[j]? = some (some b) := by
      cases k with
      | io =>
        cases x with
        | none => simpa using h
        | some p =>
          obtain ⟨k', d'⟩ := p
          cases k' <;> simpa using h
      | sh => simpa using h
      | ow => simpa using h
    obtain ⟨d1, d2, e1, e2, e3⟩ := keepIo_at h'
    exact ⟨d1, d2, e1, by simpa using e2, by simpa using e3⟩
theorem DI.lessZ {Z1 : Addr → Prop} (I : DI K c { G with Z0 := Z1 } E σ H) (h : ∀ a, G.Z0 a → Z1 a) : DI K c G E σ H := by
  have hz : ∀ b, ZZ G E σ b → ZZ { G with Z0 := Z1 } E σ b := fun b z => z.imp (h b) id
  refine ⟨I.keep, I.ln, fun i b e => ?_, I.un, fun b z => I.zin b (h b z), fun p hp => (I.pin p hp).anti hz⟩
  obtain ⟨w, ew, r⟩ := I.rel i b e
  refine ⟨w, ew, ?_⟩
  obtain ⟨k, d⟩ := b
  cases k with
  | sh => exact Rep.anti r hz
  | ow => obtain ⟨a, rfl, t, q1, q2, q3⟩ := r; exact ⟨a, rfl, t.anti hz, q1, fun z => q2 (h a z), q3⟩
  | io => obtain ⟨a, rfl, t, q1, q2, q3⟩ := r; exact ⟨a, rfl, t.anti hz, q1, fun z => q2 (h a z), q3⟩
theorem RepE.weak (r : RepE K c G E σ H v e) (hb : ∀ i, e ≠ .b i) (hl : E'.length = σ'.length) (h : ∀ (j : Nat) b, E'[j]? = some (some b) → E[j]? = some (some b) ∧ σ'[j]? = σ[j]?) : RepE K c G E' σ' H v e := by
  have hz : ∀ {G : Gd} b, ZZ G E' σ' b → ZZ G E σ b := fun b z => z.imp id (OwnA.weak h)
  cases e with
  | s d => exact Rep.anti r hz
  | o d =>
    obtain ⟨a, rfl, t, J, u, nz⟩ := r
    exact ⟨a, rfl, t.anti hz, J.weak hl h, u, fun z => nz (hz a z)⟩
  | b i => exact absurd rfl (hb i)

theorem fn_se {t : TS} {body : XS} {n nl : Nat} {N : List Str} {X : XK} {Q : VK} {vs : List V} {H : Hp} (hb : SS K c (fun cls d _ H => X cls d H) t body) (hN : N.length = n + nl) (h : spD K c n (fnOf body nl) vs H Q X) : t { nx := fun _ H' => Q .non H', rt := Q } (L2.start N vs) H := by
  obtain ⟨G, bs, hv, hbs, now, I, ok⟩ := h
  have est : L2.start N vs = vs.map some ++ List.replicate nl none := by
    unfold L2.start
    rw [hN, hv, Nat.add_sub_cancel_left]
  have hat : ∀ (j : Nat) b, (bs.map some ++ List.replicate nl none)[j]? = some (some b) → (bs.map some)[j]? = some (some b) ∧ (L2.start N vs)[j]? = (vs.map some)[j]? := fun j b e => by
    rw [est]
    by_cases hj : j < n
    · rw [List.getElem?_append_left (by simpa [hbs] using hj)] at e
      exact ⟨e, List.getElem?_append_left (by simpa [hv] using hj)⟩
    · rw [List.getElem?_append_right (by simpa [hbs] using hj)] at e
      rw [List.getElem?_replicate] at e
      split at e <;> cases e
  have I0 : DI K c G (bs.map some ++ List.replicate nl none) (L2.start N vs) H := I.weak (by rw [est]; simp [hv, hbs]) hat
  refine hb G _ _ H _ I0 ?_
  -- the end
  have fx0 : ∀ (j : Nat) d, bs[j]? = some (.io, d) → vs[j]? = some (.ref (G.fx j)) := fun j d e => by
    obtain ⟨w, ew, a, rfl, _, _, _, q⟩ := I.rel j (.io, d) (by rw [List.getElem?_map, e]; rfl)
    rw [q rfl] at ew
    rw [List.getElem?_map] at ew
    cases e2 : vs[j]? with
    | none => rw [e2] at ew; cases ew
    | some w => rw [e2] at ew; cases ew; rfl
  have back : ∀ {E : En} {σ : St} {H' : Hp}, DI K c G E σ H' → ∀ (j : Nat) b, (keepIo bs E)[j]? = some (some b) → E[j]? = some (some b) ∧ (vs.map some)[j]? = σ[j]? := fun {E σ H'} J j b e => by
    obtain ⟨d, d', rfl, e1, e2⟩ := keepIo_at e
    refine ⟨e2, ?_⟩
    obtain ⟨w, ew, a, rfl, _, _, _, q⟩ := J.rel j (.io, d') e2
    rw [ew, q rfl, List.getElem?_map, fx0 j d e1]
    rfl
  have ln : ∀ {E : En}, (keepIo bs E).length = (vs.map some).length := fun {E} => by rw [keepIo_len, List.length_map, hv, hbs]
  have ok' : OkF K c G bs vs Q X (((body (bs.map some ++ List.replicate nl none))).fr bs) := ok
  cases q : body (bs.map some ++ List.replicate nl none) with
  | nx E =>
    rw [q] at ok'
    exact fun σ H' J => ok' .non H' (J.weak ln (back J)) Rep.non
  | rt e E =>
    rw [q] at ok'
    intro v σ H' J r
    cases e with
    | b i => exact ok'.elim
    | s d => exact ok' v H' (J.weak ln (back J)) (r.weak (fun i z => by cases z) ln (back J))
    | o d => exact ok' v H' (J.weak ln (back J)) (r.weak (fun i z => by cases z) ln (back J))
  | ex k v E =>
    rw [q] at ok'
    intro σ dx H' J hx
    refine ok' dx H' (J.weak (by simp [hv, hbs]) fun j b e => ?_) hx
    rw [List.getElem?_map] at e
    cases e2 : bs[j]? with
    | none => rw [e2] at e; cases e
    | some _ => rw [e2] at e; cases e
  | bk E => rw [q] at ok'; exact ok'.elim
  | ct E => rw [q] at ok'; exact ok'.elim
  | fail => rw [q] at ok'; exact ok'.elim

/-! ### calls -/
/-- the arguments as the callee gets them: a name's own object is lent -/
def lend (E : En) : Ev → Option Bd
  | .s d => some (.sh, d)
  | .o d => some (.sh, d)
  | .b i => match E[i]? with
    | some (some (.sh, d)) => some (.sh, d)
    | some (some (_, d)) => some (.io, d)
    | _ => none
def lends (E : En) : List Ev → Option (List Bd)
  | [] => some []
  | e :: es => (lend E e).bind fun b => (lends E es).bind fun bs => some (b :: bs)
/-- the places that are lent -/
def lent (E : En) : List Ev → List Nat
  | [] => []
  | .b i :: es => match E[i]? with
    | some (some (.sh, _)) => lent E es
    | _ => i :: lent E es
  | _ :: es => lent E es
/-- what was lent comes back -/
def regain (E : En) : List Ev → En → Option En
  | [], _ => some E
  | .b i :: es, bs => match E[i]? with
    | some (some (.sh, _)) => regain E es bs.tail
    | some (some (k, _)) => match bs with
      | some (.io, d) :: bs => (regain E es bs).map fun E' => E'.set i (some (k, d))
      | _ => none
    | _ => none
  | _ :: es, bs => regain E es bs.tail
/-- .. or is lost, behind an error -/
def lost (E : En) : List Ev → En
  | [] => E
  | .b i :: es => match E[i]? with
    | some (some (.sh, _)) => lost E es
    | _ => (lost E es).set i none
  | _ :: es => lost E es
def xCall (F : FS) (fs : XA) : XE := fun E => (fs E).bind fun p => (Res.of (lends p.2 p.1)).bind fun bs => if (lent p.2 p.1).Nodup then
    (match F bs with
    | .ok (.b _) _ => .fail
    | .ok e bs' => (Res.of (regain p.2 p.1 bs')).bind fun E' => .ok (e, E')
    | .ex k v => .ex k v (lost p.2 p.1)
    | .fail => .fail) else .fail
end
end DS

namespace DS
open PySem PySem.Spec L2
section
variable {K : PySem.W.Frag} {c : Cf} {G : Gd} {E E' : En} {σ σ' : St} {H H' : Hp} {v : V} {e : Ev} {d : D} {W : WX} {B : Ends}

theorem lends_at : ∀ {vs : List V} {es : List Ev} {bs : List Bd}, RepAs K c G E σ H vs es → lends E es = some bs →
    vs.length = bs.length ∧ es.length = bs.length ∧ ∀ (j : Nat) b, bs[j]? = some b → ∃ v e, vs[j]? = some v ∧ es[j]? = some e ∧ RepA K c G E σ H v e ∧ lend E e = some b
  | [], [], bs, _, h => by
    obtain rfl : [] = bs := Option.some.inj h
    exact ⟨rfl, rfl, fun j b e => by simp at e⟩
  | v :: vs, e :: es, bs, r, h => by
    have h' : ((lend E e).bind fun b => (lends E es).bind fun bs => some (b :: bs)) = some bs := h
    obtain ⟨b, h1, h2⟩ := Option.bind_eq_some_iff.mp h'
    obtain ⟨bs', h3, h4⟩ := Option.bind_eq_some_iff.mp h2
    cases h4
    obtain ⟨l1, l2, ih⟩ := lends_at r.2 h3
    refine ⟨by simp [l1], by simp [l2], fun j b' e' => ?_⟩
    cases j with
    | zero =>
      have : b = b' := by simpa using e'
      subst this
      exact ⟨v, e, rfl, rfl, r.1, h1⟩
    | succ j =>
      obtain ⟨w, e2, a1, a2, a3⟩ := ih j b' (by simpa using e')
      exact ⟨w, e2, by simpa using a1, by simpa using a2, a3⟩
  | [], _ :: _, _, r, _ => r.elim
  | _ :: _, [], _, r, _ => r.elim
theorem lend_io {b : Bd} (h : lend E e = some b) (hb : b.1 ≠ .sh) : ∃ i k d, e = .b i ∧ E[i]? = some (some (k, d)) ∧ k ≠ .sh ∧ b = (.io, d) := by
  cases e with
  | s d => cases h; exact absurd rfl hb
  | o d => cases h; exact absurd rfl hb
  | b i =>
    have h' : (match E[i]? with
      | some (some (.sh, d)) => some (Kd.sh, d)
      | some (some (_, d)) => some (Kd.io, d)
      | _ => none) = some b := h
    split at h'
    · cases h'; exact absurd rfl hb
    · rename_i k d hn he
      cases h'
      exact ⟨i, k, d, rfl, he, fun z => hn (by rw [z]), rfl⟩
    · cases h'
theorem lend_own {i : Nat} {k : Kd} (h : E[i]? = some (some (k, d))) (hk : k ≠ .sh) : lend E (.b i) = some (.io, d) := by
  show (match E[i]? with
      | some (some (.sh, d)) => some (Kd.sh, d)
      | some (some (_, d)) => some (Kd.io, d)
      | _ => none) = some (.io, d)
  rw [h]
  cases k with
  | sh => exact absurd rfl hk
  | ow => rfl
  | io => rfl
theorem lent_b {i : Nat} {es : List Ev} (h : ∀ d, E[i]? ≠ some (some (.sh, d))) : lent E (.b i :: es) = i :: lent E es := by
  show (match E[i]? with
    | some (some (.sh, _)) => lent E es
    | _ => i :: lent E es) = _
  split
  · rename_i d hd; exact absurd hd (h d)
  · rfl
theorem lent_sh {i : Nat} {es : List Ev} {d : D} (h : E[i]? = some (some (.sh, d))) : lent E (.b i :: es) = lent E es := by
  show (match E[i]? with
    | some (some (.sh, _)) => lent E es
    | _ => i :: lent E es) = _
  rw [h]
theorem lent_mem {i : Nat} {k : Kd} (h : E[i]? = some (some (k, d))) (hk : k ≠ .sh) : ∀ {es : List Ev} {j : Nat}, es[j]? = some (.b i) → i ∈ lent E es := by
  have hn : ∀ d', E[i]? ≠ some (some (.sh, d')) := fun d' z => by rw [h] at z; cases z; exact hk rfl
  intro es
  induction es with
  | nil => intro j e; simp at e
  | cons x es ih =>
    intro j e
    cases j with
    | zero =>
      have : x = .b i := by simpa using e
      subst this
      rw [lent_b hn]
      exact List.mem_cons_self
    | succ j =>
      have m := ih (j := j) (by simpa using e)
      cases x with
      | s _ => exact m
      | o _ => exact m
      | b i' =>
        show i ∈ (match E[i']? with
          | some (some (.sh, _)) => lent E es
          | _ => i' :: lent E es)
        split
        · exact m
        · exact List.mem_cons_of_mem _ m
theorem lent_one {i : Nat} {k : Kd} (h : E[i]? = some (some (k, d))) (hk : k ≠ .sh) : ∀ {es : List Ev} {j j' : Nat}, (lent E es).Nodup → es[j]? = some (.b i) → es[j']? = some (.b i) → j = j' := by
  have hn : ∀ d', E[i]? ≠ some (some (.sh, d')) := fun d' z => by rw [h] at z; cases z; exact hk rfl
  intro es
  induction es with
  | nil => intro j j' _ e; simp at e
  | cons x es ih =>
    intro j j' nd e1 e2
    have ndt : (lent E es).Nodup := by
      cases x with
      | s _ => exact nd
      | o _ => exact nd
      | b i' =>
        have nd' : (match E[i']? with
          | some (some (.sh, _)) => lent E es
          | _ => i' :: lent E es).Nodup := nd
        split at nd'
        · exact nd'
        · exact (List.nodup_cons.mp nd').2
    cases j with
    | zero =>
      have : x = .b i := by simpa using e1
      subst this
      cases j' with
      | zero => rfl
      | succ j' =>
        rw [lent_b hn] at nd
        exact absurd (lent_mem h hk (j := j') (by simpa using e2)) (List.nodup_cons.mp nd).1
    | succ j =>
      cases j' with
      | zero =>
        have : x = .b i := by simpa using e2
        subst this
        rw [lent_b hn] at nd
        exact absurd (lent_mem h hk (j := j) (by simpa using e1)) (List.nodup_cons.mp nd).1
      | succ j' =>
        exact congrArg Nat.succ (ih (j := j) (j' := j') ndt (by simpa using e1) (by simpa using e2))
/-- what comes back, place by place -/
theorem regain_at : ∀ {es : List Ev} {bs : En} {E' : En}, (lent E es).Nodup → regain E es bs = some E' →
    E'.length = E.length ∧ ∀ i, (i ∉ lent E es → E'[i]? = E[i]?) ∧ ∀ (j : Nat) k d, es[j]? = some (.b i) → E[i]? = some (some (k, d)) → k ≠ .sh → ∃ d', bs[j]? = some (some (.io, d')) ∧ E'[i]? = some (some (k, d'))
  | [], bs, E', _, h => by
    cases h
    exact ⟨rfl, fun i => ⟨fun _ => rfl, fun j k d e => by simp at e⟩⟩
  | .s x :: es, bs, E', nd, h => by
    obtain ⟨l, ih⟩ := regain_at (es := es) (bs := bs.tail) nd h
    refine ⟨l, fun i => ⟨(ih i).1, fun j k d e h1 h2 => ?_⟩⟩
    cases j with
    | zero => simp at e
    | succ j =>
      obtain ⟨d', a, b⟩ := (ih i).2 j k d (by simpa using e) h1 h2
      exact ⟨d', by simpa using a, b⟩
  | .o x :: es, bs, E', nd, h => by
    obtain ⟨l, ih⟩ := regain_at (es := es) (bs := bs.tail) nd h
    refine ⟨l, fun i => ⟨(ih i).1, fun j k d e h1 h2 => ?_⟩⟩
    cases j with
    | zero => simp at e
    | succ j =>
      obtain ⟨d', a, b⟩ := (ih i).2 j k d (by simpa using e) h1 h2
      exact ⟨d', by simpa using a, b⟩
  | .b i0 :: es, bs, E', nd, h => by
    cases hd : E[i0]? with
    | none =>
      unfold regain at h
      rw [hd] at h
      cases h
    | some x =>
      cases x with
      | none =>
        unfold regain at h
        rw [hd] at h
        cases h
      | some p =>
        obtain ⟨k0, d0⟩ := p
        by_cases hs : k0 = .sh
        · subst hs
          unfold regain at h
          rw [hd] at h
          rw [lent_sh hd] at nd
          obtain ⟨l, ih⟩ := regain_at (es := es) (bs := bs.tail) nd h
          refine ⟨l, fun i => ⟨fun hm => (ih i).1 (by rw [lent_sh hd] at hm; exact hm), fun j k d e h1 h2 => ?_⟩⟩
          cases j with
          | zero =>
            have : i0 = i := by simpa using e
            subst this
            rw [hd] at h1
            cases h1
            exact absurd rfl h2
          | succ j =>
            obtain ⟨d', a, b⟩ := (ih i).2 j k d (by simpa using e) h1 h2
            exact ⟨d', by simpa using a, b⟩
        · have hk0 : ∀ d', E[i0]? ≠ some (some (.sh, d')) := fun d' z => by rw [hd] at z; cases z; exact hs rfl
          rw [lent_b hk0] at nd
          obtain ⟨nm, nd⟩ := List.nodup_cons.mp nd
          have hh : ∃ d1 bs1 E1, bs = some (.io, d1) :: bs1 ∧ regain E es bs1 = some E1 ∧ E1.set i0 (some (k0, d1)) = E' := by
            unfold regain at h
            rw [hd] at h
            cases k0 with
            | sh => exact absurd rfl hs
            | ow =>
              cases bs with
              | nil => cases h
              | cons y bs1 =>
                cases y with
                | none => cases h
                | some y =>
                  obtain ⟨ky, dy⟩ := y
                  cases ky with
                  | io => obtain ⟨E1, a, b⟩ := Option.map_eq_some_iff.mp h; exact ⟨dy, bs1, E1, rfl, a, b⟩
                  | sh => cases h
                  | ow => cases h
            | io =>
              cases bs with
              | nil => cases h
              | cons y bs1 =>
                cases y with
                | none => cases h
                | some y =>
                  obtain ⟨ky, dy⟩ := y
                  cases ky with
                  | io => obtain ⟨E1, a, b⟩ := Option.map_eq_some_iff.mp h; exact ⟨dy, bs1, E1, rfl, a, b⟩
                  | sh => cases h
                  | ow => cases h
          obtain ⟨d1, bs1, E1, rfl, h1, rfl⟩ := hh
          obtain ⟨l, ih⟩ := regain_at (es := es) (bs := bs1) nd h1
          have hl : i0 < E1.length := by rw [l]; exact (List.getElem?_eq_some_iff.mp hd).1
          refine ⟨by simpa using l, fun i => ⟨fun hm => ?_, fun j k d e q1 q2 => ?_⟩⟩
          · rw [lent_b hk0] at hm
            have h3 : i0 ≠ i := fun z => hm (by rw [z]; exact List.mem_cons_self)
            rw [List.getElem?_set_ne h3]
            exact (ih i).1 fun z => hm (List.mem_cons_of_mem _ z)
          · cases j with
            | zero =>
              have : i0 = i := by simpa using e
              subst this
              rw [hd] at q1
              cases q1
              exact ⟨d1, rfl, List.getElem?_set_self hl⟩
            | succ j =>
              have e' : es[j]? = some (.b i) := by simpa using e
              have h3 : i0 ≠ i := fun z => nm (by rw [z]; exact lent_mem q1 q2 e')
              obtain ⟨d', a, b⟩ := (ih i).2 j k d e' q1 q2
              exact ⟨d', by simpa using a, by rw [List.getElem?_set_ne h3]; exact b⟩
theorem lent_sub {i : Nat} : ∀ {es : List Ev}, i ∈ lent E es → ∃ j : Nat, es[j]? = some (.b i)
  | [], h => by cases h
  | .s _ :: es, h => let ⟨j, q⟩ := lent_sub (es := es) h; ⟨j + 1, by simpa using q⟩
  | .o _ :: es, h => let ⟨j, q⟩ := lent_sub (es := es) h; ⟨j + 1, by simpa using q⟩
  | .b i' :: es, h => by
    have h' : i ∈ (match E[i']? with
      | some (some (.sh, _)) => lent E es
      | _ => i' :: lent E es) := h
    split at h'
    · obtain ⟨j, q⟩ := lent_sub (es := es) h'
      exact ⟨j + 1, by simpa using q⟩
    · rcases List.mem_cons.mp h' with rfl | h'
      · exact ⟨0, rfl⟩
      · obtain ⟨j, q⟩ := lent_sub (es := es) h'
        exact ⟨j + 1, by simpa using q⟩
theorem lost_at : ∀ {es : List Ev}, (lost E es).length = E.length ∧ ∀ (i : Nat) b, (lost E es)[i]? = some (some b) → E[i]? = some (some b) ∧ (b.1 ≠ Kd.sh → ∀ j : Nat, es[j]? ≠ some (Ev.b i))
  | [] => ⟨rfl, fun i b e => ⟨e, fun _ j z => by simp at z⟩⟩
  | .s x :: es => by
    obtain ⟨l, ih⟩ := lost_at (es := es)
    refine ⟨l, fun i b e => ⟨(ih i b e).1, fun nb j z => ?_⟩⟩
    cases j with
    | zero => simp at z
    | succ j => exact (ih i b e).2 nb j (by simpa using z)
  | .o x :: es => by
    obtain ⟨l, ih⟩ := lost_at (es := es)
    refine ⟨l, fun i b e => ⟨(ih i b e).1, fun nb j z => ?_⟩⟩
    cases j with
    | zero => simp at z
    | succ j => exact (ih i b e).2 nb j (by simpa using z)
  | .b i0 :: es => by
    obtain ⟨l, ih⟩ := lost_at (es := es)
    show (match E[i0]? with
      | some (some (.sh, _)) => lost E es
      | _ => (lost E es).set i0 none).length = E.length ∧ ∀ (i : Nat) b, (match E[i0]? with
      | some (some (.sh, _)) => lost E es
      | _ => (lost E es).set i0 none)[i]? = some (some b) → E[i]? = some (some b) ∧ (b.1 ≠ .sh → ∀ (j : Nat), (Ev.b i0 :: es)[j]? ≠ some (.b i))
    split
    · rename_i d0 hd0
      refine ⟨l, fun i b e => ⟨(ih i b e).1, fun nb j z => ?_⟩⟩
      cases j with
      | zero =>
        have : i0 = i := by simpa using z
        subst this
        have := (ih i0 b e).1
        rw [hd0] at this
        cases this
        exact nb rfl
      | succ j => exact (ih i b e).2 nb j (by simpa using z)
    · refine ⟨by simpa using l, fun i b e => ?_⟩
      rcases getElem?_set_some e with ⟨_, e', _⟩ | ⟨nj, e'⟩
      · cases e'
      · refine ⟨(ih i b e').1, fun nb j z => ?_⟩
        cases j with
        | zero => exact nj (by simpa using z)
        | succ j => exact (ih i b e').2 nb j (by simpa using z)

/-- the callee's ground -/
def lendG (G : Gd) (E : En) (σ : St) (H : Hp) (bs : List Bd) (vs : List V) : Gd :=
  { H0 := H, Z0 := fun a => ZZ G E σ a ∧ ¬ OwnA (bs.map some) (vs.map some) a, U := OwnA (bs.map some) (vs.map some), fx := fun j => match vs[j]? with
    | some (.ref a) => a
    | _ => 0, T := [] }
theorem map_some_at {α : Type} {l : List α} {j : Nat} {x : α} (h : (l.map some)[j]? = some (some x)) : l[j]? = some x := by
  rw [List.getElem?_map] at h
  cases e : l[j]? with
  | none => rw [e] at h; cases h
  | some y => rw [e] at h; cases h; rfl
theorem some_map_at {α : Type} {l : List α} {j : Nat} {x : α} (h : l[j]? = some x) : (l.map some)[j]? = some (some x) := by rw [List.getElem?_map, h]; rfl
/-- what is lent is one's own -/
theorem lent_own {vs : List V} {es : List Ev} {bs : List Bd} (r : RepAs K c G E σ H vs es) (hl : lends E es = some bs) {a : Addr} (h : OwnA (bs.map some) (vs.map some) a) :
    ∃ (j i : Nat) (k : Kd) (d : D), es[j]? = some (.b i) ∧ E[i]? = some (some (k, d)) ∧ k ≠ .sh ∧ bs[j]? = some (.io, d) ∧ vs[j]? = some (.ref a) ∧ σ[i]? = some (some (.ref a)) := by
  obtain ⟨_, _, at_⟩ := lends_at r hl
  obtain ⟨j, k, d, e1, nk, s1⟩ := h
  obtain ⟨v, e, h1, h2, h3, h4⟩ := at_ j (k, d) (map_some_at e1)
  obtain ⟨i, k', d', rfl, h5, h6, h7⟩ := lend_io h4 nk
  cases h7
  rw [map_some_at s1] at h1
  cases h1
  exact ⟨j, i, k', d, h2, h5, h6, map_some_at e1, map_some_at s1, h3⟩
theorem DI.lend {vs : List V} {es : List Ev} {bs : List Bd} (I : DI K c G E σ H) (r : RepAs K c G E σ H vs es) (hl : lends E es = some bs) (nd : (lent E es).Nodup) :
    DI K c (lendG G E σ H bs vs) (bs.map some) (vs.map some) H := by
  obtain ⟨l1, l2, at_⟩ := lends_at r hl
  have own : ∀ {a}, OwnA (bs.map some) (vs.map some) a → OwnA E σ a := fun {a} h => by
    obtain ⟨j, i, k, d, h1, h2, h3, h4, h5, h6⟩ := lent_own r hl h
    exact ⟨i, k, d, h2, h3, h6⟩
  have zz : ∀ b, ZZ (lendG G E σ H bs vs) (bs.map some) (vs.map some) b → ZZ G E σ b := fun b z => z.elim (fun q => q.1) fun q => .inr (own q)
  refine ⟨fun b o e _ => e, by simp [l1], fun j b e => ?_, fun j j' k k' d d' a e1 e2 n1 n2 s1 s2 => ?_, fun a z => I.zz z.1, fun p hp => by cases hp⟩
  · obtain ⟨v, e', h1, h2, h3, h4⟩ := at_ j b (map_some_at e)
    refine ⟨v, some_map_at h1, ?_⟩
    by_cases hb : b.1 = .sh
    · obtain ⟨k, d⟩ := b
      cases hb
      cases e' with
      | s d' => cases h4; exact Rep.anti h3 zz
      | o d' => cases h4; exact Rep.anti h3 zz
      | b i =>
        have h4' : (match E[i]? with
          | some (some (.sh, d)) => some (Kd.sh, d)
          | some (some (_, d)) => some (Kd.io, d)
          | _ => none) = some (.sh, d) := h4
        split at h4'
        · rename_i d2 hd2
          cases h4'
          obtain ⟨w, ew, q⟩ := I.rel i _ hd2
          have hv : σ[i]? = some (some v) := h3
          rw [hv] at ew
          cases ew
          exact Rep.anti q zz
        · cases h4'
        · cases h4'
    · obtain ⟨i, k, d, rfl, h5, h6, rfl⟩ := lend_io h4 hb
      obtain ⟨w, ew, q⟩ := I.rel i _ h5
      have hv : σ[i]? = some (some v) := h3
      rw [hv] at ew
      cases ew
      have tp : ∃ a, v = .ref a ∧ Top K c (ZZ G E σ) H a d := by
        cases k with
        | sh => exact absurd rfl h6
        | ow => obtain ⟨a, e, t, _⟩ := q; exact ⟨a, e, t⟩
        | io => obtain ⟨a, e, t, _⟩ := q; exact ⟨a, e, t⟩
      obtain ⟨a, rfl, t⟩ := tp
      have oa : OwnA (bs.map some) (vs.map some) a := ⟨j, .io, d, e, by decide, some_map_at h1⟩
      refine ⟨a, rfl, t.anti zz, .inl oa, fun z => z.2 oa, fun _ => ?_⟩
      show a = (match vs[j]? with
        | some (.ref a) => a
        | _ => 0)
      rw [h1]
  · obtain ⟨v, x, h1, h2, h3, h4⟩ := at_ j _ (map_some_at e1)
    obtain ⟨v', x', h1', h2', h3', h4'⟩ := at_ j' _ (map_some_at e2)
    obtain ⟨i, q, p, rfl, h5, h6, _⟩ := lend_io h4 n1
    obtain ⟨i', q', p', rfl, h5', h6', _⟩ := lend_io h4' n2
    rw [map_some_at s1] at h1
    cases h1
    rw [map_some_at s2] at h1'
    cases h1'
    have := I.un i i' q q' p p' a h5 h5' h6 h6' h3 h3'
    subst this
    exact lent_one h5 h6 nd h2 h2'
/-- behind the call -/
theorem DI.regain {vs : List V} {es : List Ev} {bs : List Bd} {bs' : En} {P : Addr → Prop} (I : DI K c G E σ H) (r : RepAs K c G E σ H vs es) (hl : lends E es = some bs) (nd : (lent E es).Nodup) (hr : regain E es bs' = some E')
    (hP : ∀ a, P a → H a = none) (J : DI K c { lendG G E σ H bs vs with Z0 := fun a => (lendG G E σ H bs vs).Z0 a ∨ P a } bs' (vs.map some) H') :
    DI K c { G with Z0 := fun a => G.Z0 a ∨ P a } E' σ H' ∧ (∀ a, ZZ { G with Z0 := fun a => G.Z0 a ∨ P a } E' σ a → ZZ { lendG G E σ H bs vs with Z0 := fun a => (lendG G E σ H bs vs).Z0 a ∨ P a } bs' (vs.map some) a) ∧ ∀ a, OwnA (bs.map some) (vs.map some) a → OwnA bs' (vs.map some) a := by
  obtain ⟨l1, l2, at_⟩ := lends_at r hl
  obtain ⟨le, re⟩ := regain_at nd hr
  -- the same things are one's own
  have lentE : ∀ {i : Nat}, i ∈ lent E es → ∃ (j : Nat) (k : Kd) (d : D), es[j]? = some (.b i) ∧ E[i]? = some (some (k, d)) ∧ k ≠ .sh ∧ bs[j]? = some (.io, d) := fun {i} hm => by
    obtain ⟨j, hj⟩ := lent_sub hm
    have hjl : j < bs.length := by rw [← l2]; exact (List.getElem?_eq_some_iff.mp hj).1
    obtain ⟨w, e, h1, h2, h3, h4⟩ := at_ j bs[j] (List.getElem?_eq_getElem hjl)
    rw [hj] at h2
    cases h2
    have hb : bs[j].1 ≠ .sh := fun hs => by
      have h4' : (match E[i]? with
        | some (some (.sh, d)) => some (Kd.sh, d)
        | some (some (_, d)) => some (Kd.io, d)
        | _ => none) = some bs[j] := h4
      split at h4'
      · rename_i d0 hd0
        -- a shared name is not lent
        have : ∀ {es : List Ev}, i ∉ lent E es := by
          intro es
          induction es with
          | nil => intro z; cases z
          | cons x es ih =>
            cases x with
            | s _ => exact ih
            | o _ => exact ih
            | b i' =>
              intro z
              by_cases hi : i' = i
              · subst hi
                rw [lent_sh hd0] at z
                exact ih z
              · have z' : i ∈ (match E[i']? with
                  | some (some (.sh, _)) => lent E es
                  | _ => i' :: lent E es) := z
                split at z'
                · exact ih z'
                · rcases List.mem_cons.mp z' with q | q
                  · exact hi q.symm
                  · exact ih q
        exact this hm
      · rename_i kk dd _ _
        have : (Kd.io, dd) = bs[j] := Option.some.inj h4'
        rw [← this] at hs
        cases hs
      · cases h4'
    obtain ⟨i2, k, d, e2, h5, h6, h7⟩ := lend_io h4 hb
    cases e2
    exact ⟨j, k, d, hj, h5, h6, by rw [List.getElem?_eq_getElem hjl, h7]⟩
  have ownE : ∀ {i : Nat} {k : Kd} {d : D}, E'[i]? = some (some (k, d)) → ∃ d0, E[i]? = some (some (k, d0)) := fun {i k d} e => by
    by_cases hm : i ∈ lent E es
    · obtain ⟨j, k0, d0, h1, h2, h3, _⟩ := lentE hm
      obtain ⟨d', _, h4⟩ := (re i).2 j k0 d0 h1 h2 h3
      rw [h4] at e
      cases e
      exact ⟨d0, h2⟩
    · rw [(re i).1 hm] at e
      exact ⟨d, e⟩
  have own1 : ∀ {a}, OwnA E' σ a → OwnA E σ a := fun {a} ⟨i, k, d, e, nk, es⟩ => by
    obtain ⟨d0, e0⟩ := ownE e
    exact ⟨i, k, d0, e0, nk, es⟩
  have ownB : ∀ {a}, OwnA (bs.map some) (vs.map some) a → OwnA bs' (vs.map some) a := fun {a} h => by
    obtain ⟨j, i, k, d, h1, h2, h3, h4, h5, h6⟩ := lent_own r hl h
    obtain ⟨d', h7, _⟩ := (re i).2 j k d h1 h2 h3
    exact ⟨j, .io, d', h7, by decide, some_map_at h5⟩
  have ownU : ∀ {a}, OwnA (bs.map some) (vs.map some) a → OwnA E σ a := fun {a} h => by
    obtain ⟨j, i, k, d, h1, h2, h3, h4, h5, h6⟩ := lent_own r hl h
    exact ⟨i, k, d, h2, h3, h6⟩
  have zz : ∀ a, ZZ { G with Z0 := fun a => G.Z0 a ∨ P a } E' σ a → ZZ { lendG G E σ H bs vs with Z0 := fun a => (lendG G E σ H bs vs).Z0 a ∨ P a } bs' (vs.map some) a := by
    rintro a ((z | z) | z)
    · by_cases ho : OwnA (bs.map some) (vs.map some) a
      · exact .inr (ownB ho)
      · exact .inl (.inl ⟨.inl z, ho⟩)
    · exact .inl (.inr z)
    · by_cases ho : OwnA (bs.map some) (vs.map some) a
      · exact .inr (ownB ho)
      · exact .inl (.inl ⟨.inr (own1 z), ho⟩)
  have zz1 : ∀ a, ZZ { G with Z0 := fun a => G.Z0 a ∨ P a } E' σ a → ZZ G E σ a ∨ H a = none := by
    rintro a ((z | z) | z)
    · exact .inl (.inl z)
    · exact .inr (hP a z)
    · exact .inl (.inr (own1 z))
  have kp : ∀ b o, ¬ OwnA (bs.map some) (vs.map some) b → H b = some o → H' b = some o := fun b o nb e => J.keep b o e nb
  have kz : ∀ b o, ¬ ZZ G E σ b → H b = some o → H' b = some o := fun b o nb e => kp b o (fun z => nb (.inr (ownU z))) e
  refine ⟨⟨fun b o e nu => ?_, by rw [le]; exact I.ln, fun i b e => ?_, fun i j k k' d1 d2 a e1 e2 n1 n2 s1 s2 => ?_, fun a z => ?_, fun p hp => (I.pin p hp).mono zz1 kz⟩, zz, fun a h => ownB h⟩
  · refine kp b o (fun z => ?_) (I.keep b o e nu)
    rcases (I.ownU (ownU z)).1 with q | q
    · exact nu q
    · rw [e] at q; cases q
  · by_cases hm : i ∈ lent E es
    · obtain ⟨j, k0, d0, h1, h2, h3, h4⟩ := lentE hm
      obtain ⟨d', h5, h6⟩ := (re i).2 j k0 d0 h1 h2 h3
      rw [h6] at e
      cases e
      obtain ⟨w, ew, a, rfl, t, q1, q2, q3⟩ := J.rel j (.io, d') h5
      obtain ⟨v0, e0, g1, g2, g3, g4⟩ := at_ j _ h4
      rw [h1] at g2
      cases g2
      rw [map_some_at ew] at g1
      cases g1
      have hσ : σ[i]? = some (some (.ref a)) := g3
      have oa : OwnA E σ a := ⟨i, k0, d0, h2, h3, hσ⟩
      have nP : ¬ P a := fun z => by
        obtain ⟨o, eo⟩ := I.ownH oa
        rw [hP a z] at eo
        cases eo
      obtain ⟨u1, u2⟩ := I.ownU oa
      refine ⟨.ref a, hσ, ?_⟩
      have t' := t.anti zz
      obtain ⟨w2, ew2, r2⟩ := I.rel i _ h2
      rw [hσ] at ew2
      cases ew2
      cases k0 with
      | sh => exact absurd rfl h3
      | ow => exact ⟨a, rfl, t', u1, fun z => z.elim u2 nP, fun z => by cases z⟩
      | io => obtain ⟨a2, ea2, _, _, _, q⟩ := r2; cases ea2; exact ⟨a, rfl, t', u1, fun z => z.elim u2 nP, q⟩
    · rw [(re i).1 hm] at e
      obtain ⟨w, ew, q⟩ := I.rel i b e
      refine ⟨w, ew, ?_⟩
      obtain ⟨k, d⟩ := b
      have top : ∀ {a : Addr}, k ≠ .sh → w = .ref a → Top K c (ZZ G E σ) H a d → Top K c (ZZ { G with Z0 := fun a => G.Z0 a ∨ P a } E' σ) H' a d ∧ ¬ P a := fun {a} nk ea t => by
        subst ea
        obtain ⟨o, _, _, ho, _⟩ := id t
        have nb : ¬ OwnA (bs.map some) (vs.map some) a := fun z => by
          obtain ⟨j, i2, k2, d2, h1, h2, h3, _, _, h6⟩ := lent_own r hl z
          have := I.un i i2 k k2 d d2 a e h2 nk h3 ew h6
          subst this
          exact hm (lent_mem h2 h3 h1)
        exact ⟨t.mono zz1 kz (by rw [ho]; exact kp a o nb ho), fun z => by rw [hP a z] at ho; cases ho⟩
      cases k with
      | sh => exact Rep.mono q zz1 kz
      | ow => obtain ⟨a, ea, t, q1, q2, q3⟩ := q; exact ⟨a, ea, (top (by decide) ea t).1, q1, fun z => z.elim q2 (top (by decide) ea t).2, q3⟩
      | io => obtain ⟨a, ea, t, q1, q2, q3⟩ := q; exact ⟨a, ea, (top (by decide) ea t).1, q1, fun z => z.elim q2 (top (by decide) ea t).2, q3⟩
  · obtain ⟨d3, e3⟩ := ownE e1
    obtain ⟨d4, e4⟩ := ownE e2
    exact I.un i j k k' d3 d4 a e3 e4 n1 n2 s1 s2
  · rcases z with z | z
    · obtain ⟨o, e⟩ := I.zin a z
      refine ⟨o, kp a o (fun q => ?_) e⟩
      exact (I.ownU (ownU q)).2 z
    · exact J.zin a (.inr z)
theorem DI.lost {vs : List V} {es : List Ev} {bs : List Bd} {bs' : En} (I : DI K c G E σ H) (r : RepAs K c G E σ H vs es) (hl : lends E es = some bs) (J : DI K c (lendG G E σ H bs vs) bs' (vs.map some) H') :
    DI K c G (DS.lost E es) σ H' := by
  obtain ⟨ll, lat⟩ := lost_at (E := E) (es := es)
  have ownU : ∀ {a}, OwnA (bs.map some) (vs.map some) a → OwnA E σ a := fun {a} h => by
    obtain ⟨j, i, k, d, h1, h2, h3, h4, h5, h6⟩ := lent_own r hl h
    exact ⟨i, k, d, h2, h3, h6⟩
  have zz : ∀ a, ZZ G (DS.lost E es) σ a → ZZ G E σ a := fun a z => z.imp id (OwnA.weak fun j b e => ⟨(lat j b e).1, rfl⟩)
  have kp : ∀ b o, ¬ OwnA (bs.map some) (vs.map some) b → H b = some o → H' b = some o := fun b o nb e => J.keep b o e nb
  have kz : ∀ b o, ¬ ZZ G E σ b → H b = some o → H' b = some o := fun b o nb e => kp b o (fun z => nb (.inr (ownU z))) e
  refine ⟨fun b o e nu => ?_, by rw [ll]; exact I.ln, fun i b e => ?_, fun i j k k' d1 d2 a e1 e2 n1 n2 s1 s2 => I.un i j k k' d1 d2 a (lat i _ e1).1 (lat j _ e2).1 n1 n2 s1 s2, fun a z => ?_, fun p hp => (I.pin p hp).mono (fun a z => .inl (zz a z)) kz⟩
  · refine kp b o (fun z => ?_) (I.keep b o e nu)
    rcases (I.ownU (ownU z)).1 with q | q
    · exact nu q
    · rw [e] at q; cases q
  · obtain ⟨e', nl⟩ := lat i b e
    obtain ⟨w, ew, q⟩ := I.rel i b e'
    refine ⟨w, ew, ?_⟩
    obtain ⟨k, d⟩ := b
    have top : ∀ {a : Addr}, k ≠ .sh → w = .ref a → Top K c (ZZ G E σ) H a d → Top K c (ZZ G (DS.lost E es) σ) H' a d := fun {a} nk ea t => by
      subst ea
      obtain ⟨o, _, _, ho, _⟩ := id t
      have nb : ¬ OwnA (bs.map some) (vs.map some) a := fun z => by
        obtain ⟨j, i2, k2, d2, h1, h2, h3, _, _, h6⟩ := lent_own r hl z
        have := I.un i i2 k k2 d d2 a e' h2 nk h3 ew h6
        subst this
        exact nl nk j h1
      exact t.mono (fun a z => .inl (zz a z)) kz (by rw [ho]; exact kp a o nb ho)
    cases k with
    | sh => exact Rep.mono q (fun a z => .inl (zz a z)) kz
    | ow => obtain ⟨a, ea, t, q1, q2, q3⟩ := q; exact ⟨a, ea, top (by decide) ea t, q1, q2, q3⟩
    | io => obtain ⟨a, ea, t, q1, q2, q3⟩ := q; exact ⟨a, ea, top (by decide) ea t, q1, q2, q3⟩
  · obtain ⟨o, e⟩ := I.zin a z
    exact ⟨o, kp a o (fun q => (I.ownU (ownU q)).2 z) e⟩
theorem DI.orF (I : DI K c G E σ H) : DI K c { G with Z0 := fun a => G.Z0 a ∨ False } E σ H := by
  have e : (fun a => G.Z0 a ∨ False) = G.Z0 := funext fun a => propext ⟨fun z => z.elim id fun z => z.elim, .inl⟩
  rw [e]
  exact I
theorem ok_call {n : Nat} {F : FS} {Q : VK} {vs : List V} {es : List Ev} (I : DI K c G E σ H) (r : RepAs K c G E σ H vs es) (h : OkG K c G W σ (PE1 K c G σ Q) ((Res.of (lends E es)).bind fun bs => if (lent E es).Nodup ∧ bs.length = n then
    (match F bs with
    | .ok (.b _) _ => .fail
    | .ok e bs' => (Res.of (regain E es bs')).bind fun E' => .ok (e, E')
    | .ex k v => .ex k v (DS.lost E es)
    | .fail => .fail) else .fail)) : spD K c n F vs H Q (fun cls d H => W cls d σ H) := by
  obtain ⟨bs, hl, h⟩ := h.of
  by_cases hn : (lent E es).Nodup ∧ bs.length = n
  case neg =>
    rw [if_neg hn] at h
    exact h.elim
  rw [if_pos hn] at h
  obtain ⟨nd, hb⟩ := hn
  obtain ⟨l1, l2, at_⟩ := lends_at r hl
  refine ⟨lendG G E σ H bs vs, bs, by rw [l1]; exact hb, hb, fun i d e => ?_, I.lend r hl nd, ?_⟩
  · obtain ⟨v, x, _, _, _, h4⟩ := at_ i _ e
    obtain ⟨_, _, _, _, _, _, h7⟩ := lend_io h4 (by simp)
    cases h7
  cases q : F bs with
  | fail => rw [q] at h; exact h.elim
  | ex k v =>
    rw [q] at h
    exact fun dx H' J hx => h dx H' (I.lost r hl J) hx
  | ok e bs' =>
    rw [q] at h
    intro v H' J re
    have h' : OkG K c G W σ (PE1 K c G σ Q) ((Res.of (regain E es bs')).bind fun E' => .ok (e, E')) ∧ ∀ i, e ≠ .b i := by
      cases e with
      | b i => exact h.elim
      | s d => exact ⟨h, fun i z => by cases z⟩
      | o d => exact ⟨h, fun i z => by cases z⟩
    obtain ⟨h', nb⟩ := h'
    obtain ⟨E', hr, h'⟩ := h'.of
    obtain ⟨J1, z1, ob⟩ := DI.regain (P := fun _ => False) I r hl nd hr (fun a z => z.elim) J.orF
    have J1' : DI K c G E' σ H' := J1.lessZ fun a z => .inl z
    have z1' : ∀ a, ZZ G E' σ a → ZZ (lendG G E σ H bs vs) bs' (vs.map some) a := fun a z => (z1 a (z.imp .inl id)).imp (fun y => y.elim id fun y => y.elim) id
    refine h' v H' J1' ?_
    cases e with
    | b i => exact absurd rfl (nb i)
    | s d => exact Rep.anti re z1'
    | o d =>
      obtain ⟨a, rfl, t, Ja, u, nz⟩ := re
      have ha : H a = none := by
        rcases u with u | u
        · exact absurd (.inr (ob a u)) nz
        · exact u
      obtain ⟨J2, z2, _⟩ := DI.regain (P := fun b => b = a) I r hl nd hr (fun b z => by rw [z]; exact ha) Ja
      exact ⟨a, rfl, t.anti z2, J2, I.h0 ha, fun z => nz (z1' a z)⟩
def xCallN (n : Nat) (F : FS) (fs : XA) : XE := fun E => (fs E).bind fun p => (Res.of (lends p.2 p.1)).bind fun bs => if (lent p.2 p.1).Nodup ∧ bs.length = n then
    (match F bs with
    | .ok (.b _) _ => .fail
    | .ok e bs' => (Res.of (regain p.2 p.1 bs')).bind fun E' => .ok (e, E')
    | .ex k v => .ex k v (DS.lost p.2 p.1)
    | .fail => .fail) else .fail
theorem SE.call {n : Nat} {F : FS} {t : TA} {fs : XA} (hs : SA K c W t fs) : SE K c W (tCallS (spD K c n F) (WE W) t) (xCallN n F fs) := by
  intro G E σ H Q I h
  exact hs G E σ H _ I (h.bind fun p hp vs H1 I1 r1 => ok_call I1 r1 hp)
end

/-! ### defs and calls, as rules -/
/-- a def of n parameters, by its value on data -/
abbrev FnD (P : Program) (w : World) (K : PySem.W.Frag) (mg : Str → Option Value) (base : Heap) (c : Cf) (k : Nat) (f : Addr) (fd : FuncData) (ps : List Str) (F : FS) : Prop := FnOk P w K mg base (L2.CX P w) k f fd ps (spD K c ps.length F)
section
variable {P : Program} {w : World} {K : PySem.W.Frag} {mg : Str → Option Value} {base : Heap} {c : Cf}
theorem FnD.of {x qual : Str} {st : Stmt} {f : Addr} {fd : FuncData} {N ps : List Str} {k nl : Nat} {body : XS} (F : Fun K x qual st f fd) (S : FnScope N ps (defScope st)) (hN : N.length = ps.length + nl := by rfl)
    (hb : ∀ (cdv : Value) (A : Around) (outer : List Env) (s : Shared) (H : Hp) (E : XK), Room k (A.deeper (PyProof.Rows.envOfC qual (defScope st) s.heap.objs.size f cdv)) →
      ∃ t, DSs c (fun cls d _ H => E cls d H) (cxOf (L2.CX P w) P w K mg base N qual (defScope st) f cdv A outer s H E) (defBody st) t body) : FnD P w K mg base c (k + 1) f fd ps (fnOf body nl) := by
  refine F.okX S (fun vs H Q E h => let ⟨_, _, hv, _⟩ := h; hv) fun cdv A outer s H vs Q E hr h => ?_
  obtain ⟨t, d⟩ := hb cdv A outer s H E hr
  exact ⟨t, d.ps, fn_se d.se hN h⟩
end
end DS

namespace DS
open PySem PySem.Spec L2
section
variable {c : Cf} {W : WX} {X : Cx} {pos pos' pos2 : Pos}

/-! ### names, constants -/
theorem dv (i : Nat) {x : Str} (hN : X.N[i]? = some x := by rfl) (hv : Vis X.env.scope x := by first | exact Or.inl rfl | exact Or.inr (Or.inl rfl) | exact Or.inr (Or.inr rfl)) (hd : (x == ("__debug__" : Str)) = false := by decide)
    (hcd : (x == ("__classdict__" : Str)) = false := by decide) : DE c W X (.Name x pos) (tVar i) (xVar i) := ⟨pe_var hN hv hd hcd, SE.var⟩
theorem di {i : Int} {j} : DE c W X (.Constant (.int i) j pos) (tC (.int i)) (xD (.int i)) := ⟨pe_int, SE.int⟩
theorem db {b : Bool} {j} : DE c W X (.Constant (.bool b) j pos) (tC (.bl b)) (xD (.bl b)) := ⟨pe_bl, SE.bl⟩
theorem dn {j} : DE c W X (.Constant .none j pos) (tC .non) (xD .non) := ⟨pe_non, SE.non⟩
theorem dx {x : Str} {j} : DE c W X (.Constant (.str x) j pos) (tC (.str x)) (xD (.str x)) := ⟨pe_str, SE.str⟩
/-- a module's constant, an int -/
theorem dg {x : Str} {i : Int} {t : Tok} (hm : X.mg x = some (.int i t)) (hg : Gl X x := by rfl) (hd : (x == ("__debug__" : Str)) = false := by decide) : DE c W X (.Name x pos) (tC (.int i)) (xD (.int i)) := ⟨pe_glob hg hm ⟨_, rfl⟩ hd, SE.int⟩
variable {a b e o : Expr} {es : List Expr} {ta tb te to : TE} {f1 f2 f : XE} {t : TA} {fs : XA} {tt1 tt2 : TT} {g1 g2 : XT} {r : R2} {g : D → D → Option Ev}
/-! ### argument lists, displays -/
theorem da0 : DA c W X [] tNil xs0 := ⟨pa_nil, SA.nil⟩
theorem da (he : DE c W X e te f) (hs : DA c W X es t fs) (h : starEach (e :: es) X.env = (false, eval e X.env) :: starEach es X.env := by rfl) : DA c W X (e :: es) (tCons te t) (xsC f fs) := ⟨pa_cons he.pe hs.pe h, SA.cons he.se hs.se⟩
theorem dTup {x1} (h : DA c W X es t fs) : DE c W X (.Tuple es x1 pos) (tTup t) (xTup fs) := ⟨pe_tup h.pe, SE.tup h.se⟩
theorem dLst (h : DA c W X es t fs) : DE c W X (.List es pos) (tLst t) (xLst fs) := ⟨pe_lst h.pe, SE.lstD h.se⟩
/-! ### and, or, not, if -/
theorem dOne {op} (h : DE c W X a ta f) : DE c W X (.BoolOp op [a] pos) ta f := ⟨pe_one h.pe, h.se⟩
theorem dAnd {b0 : Expr} {rest : List Expr} (ha : DE c W X a ta f1) (hb : DE c W X (.BoolOp .And (b0 :: rest) pos) tb f2) : DE c W X (.BoolOp .And (a :: b0 :: rest) pos) (tAndV ta tb) (xAndV f1 f2) := ⟨pe_and ha.pe hb.pe, SE.andV ha.se hb.se⟩
theorem dOr {b0 : Expr} {rest : List Expr} (ha : DE c W X a ta f1) (hb : DE c W X (.BoolOp .Or (b0 :: rest) pos) tb f2) : DE c W X (.BoolOp .Or (a :: b0 :: rest) pos) (tOrV ta tb) (xOrV f1 f2) := ⟨pe_or ha.pe hb.pe, SE.orV ha.se hb.se⟩
theorem dNot (ha : DE c W X a ta f) : DE c W X (.UnaryOp .Not a pos) (tNotV ta) (xNotV f) := ⟨pe_not ha.pe, SE.notV ha.se⟩
theorem dIf {cnd : Expr} (hc : DT c W X cnd tt1 g1) (ha : DE c W X a ta f1) (hb : DE c W X b tb f2) : DE c W X (.IfExp cnd a b pos) (tIf tt1 ta tb) (xIf g1 f1 f2) := ⟨pe_ifExp hc.pe ha.pe hb.pe, SE.ifE hc.se ha.se hb.se⟩
/-- a test: an expression that gives True or False -/
theorem dtB (h : DE c W X e te f) (he : ∀ whole, isTrue e X.env whole = (do let v ← whole; standAt e.pos; holding [v] (truthy v)) := by intro _; rfl) : DT c W X e (tB te) (xBl f) := ⟨pt_val h.pe he, SF.bl h.se⟩
theorem truV_of {K : PySem.W.Frag} {Z : Addr → Prop} {H : Hp} {v : V} {d : D} {k : Bool} (r : Vw K c Z H v d) (h : truth d = some k) (hd : ∀ kd, d ≠ .dct kd) : TruV K v H k := by
  cases d with
  | non => cases h; obtain rfl := r.non; exact rfl
  | bl b => cases h; obtain rfl := r.bl; exact rfl
  | int i => cases h; obtain rfl := r.int; exact rfl
  | str x =>
    obtain ⟨hl, rfl⟩ := of_if (show (if x.length ≤ sizeLine then some ((x.length : Int) != 0) else none) = some k from h)
    obtain rfl := r.str
    exact ⟨hl, rfl⟩
  | lst xs =>
    cases h
    obtain ⟨a, vs, rfl, hs, rs⟩ := r.lst
    refine .inl ⟨vs, .inl hs, ?_⟩
    have := rs.1
    cases vs <;> cases xs <;> simp_all
  | tup xs =>
    cases h
    obtain ⟨a, vs, rfl, hs, rs⟩ := r.tup
    refine .inr (.inl ⟨vs, hs, ?_⟩)
    have := rs.1
    cases vs <;> cases xs <;> simp_all
  | dct kd => exact absurd rfl (hd kd)
  | _ => cases h
/-- truth of what is no dict -/
def truth' : D → Option Bool
  | .dct _ => none
  | d => truth d
def xTru' (f : XE) : XT := fun E => (f E).bind fun p => (Res.of (dat p.2 p.1)).bind fun d => (Res.of (truth' d)).bind fun b => .ok (b, p.2)
theorem dtT (h : DE c W X e te f) (he : ∀ whole, isTrue e X.env whole = (do let v ← whole; standAt e.pos; holding [v] (truthy v)) := by intro _; rfl) : DT c W X e (tTru X.K te) (xTru' f) := by
  refine ⟨pt_truth h.pe he, ?_⟩
  intro G E σ H Q I hh
  refine h.se G E σ H _ I (hh.bind fun p hp v H1 I1 r1 => ?_)
  obtain ⟨d, ed, hq⟩ := hp.of
  obtain ⟨k, ek, hq⟩ := hq.of
  have nd : ∀ kd, d ≠ .dct kd := fun kd z => by subst z; cases ek
  have ek' : truth d = some k := by cases d <;> first | exact ek | exact absurd rfl (nd _)
  exact ⟨k, truV_of (I1.vw r1 ed) ek' nd, hq H1 I1⟩
theorem dtNot (h : DT c W X a tt1 g1) : DT c W X (.UnaryOp .Not a pos) (tNot tt1) (xNot g1) := ⟨pt_not h.pe, SF.not h.se⟩
structure DW (c : Cf) (W : WX) (X : Cx) (e : Expr) (t : TT) (f : XT) : Prop where
  pe : PW X e t
  se : SF X.K c W t f
theorem DW.dt (h : DW c W X e tt1 g1) : DT c W X e tt1 g1 := ⟨h.pe.pt, h.se⟩
theorem dwAnd1 (h : DT c W X a tt1 g1) : DW c W X (.BoolOp .And [a] pos) tt1 g1 := ⟨pw_and1 h.pe, h.se⟩
theorem dwOr1 (h : DT c W X a tt1 g1) : DW c W X (.BoolOp .Or [a] pos) tt1 g1 := ⟨pw_or1 h.pe, h.se⟩
theorem dwAnd {b0 : Expr} {rest : List Expr} (ha : DT c W X a tt1 g1) (hb : DW c W X (.BoolOp .And (b0 :: rest) pos) tt2 g2) : DW c W X (.BoolOp .And (a :: b0 :: rest) pos) (tAnd tt1 tt2) (xAnd g1 g2) := ⟨pw_and ha.pe hb.pe, SF.and ha.se hb.se⟩
theorem dwOr {b0 : Expr} {rest : List Expr} (ha : DT c W X a tt1 g1) (hb : DW c W X (.BoolOp .Or (b0 :: rest) pos) tt2 g2) : DW c W X (.BoolOp .Or (a :: b0 :: rest) pos) (tOr tt1 tt2) (xOr g1 g2) := ⟨pw_or ha.pe hb.pe, SF.or ha.se hb.se⟩

/-! ### a < b < c -/
def x3 (g g' : D → D → Option Ev) (f1 f2 f3 : XE) : XE := fun E => (f1 E).bind fun p => (f2 p.2).bind fun q =>
  (Res.of (dat q.2 p.1)).bind fun a => (Res.of (dat q.2 q.1)).bind fun b => (Res.of (g a b)).bind fun e => match e with
    | .s (.bl true) => (f3 q.2).bind fun u => (Res.of (dat u.2 q.1)).bind fun b' => (Res.of (dat u.2 u.1)).bind fun d => (Res.of (g' b' d)).bind fun e' => .ok (e', u.2)
    | .s (.bl false) => .ok (.s (.bl false), q.2)
    | _ => .fail
theorem SE.chain {K : PySem.W.Frag} {r r' : R2} {g g' : D → D → Option Ev} {tc : TE} {f3 : XE} (ha : SE K c W ta f1) (hb : SE K c W tb f2) (hc : SE K c W tc f3) (hr : Sem2 K c r g) (hr' : Sem2 K c r' g') : SE K c W (tChain r r' ta tb tc) (x3 g g' f1 f2 f3) := by
  intro G E σ H Q I h
  refine ha G E σ H _ I (h.bind fun p hp => ?_)
  intro v H1 I1 r1
  refine hb (hold G v p.1) p.2 σ H1 _ (I1.hold r1) (OkG.hold (OkG.bind hp fun q hq => hq) fun q hq => ?_)
  intro w H2 I2 r2
  obtain ⟨a, ea, hq⟩ := hq.of
  obtain ⟨b, eb, hq⟩ := hq.of
  obtain ⟨e, ee, hq⟩ := hq.of
  have A := DI.held r1 I2
  have J := I2.unhold
  have r2' := r2.unhold
  refine hr (hold G w q.1) q.2 σ H2 v w a b e _ (J.hold r2') (by cases q.1 <;> exact J.vwA A ea) (by cases q.1 <;> exact J.vw r2' eb) ee fun z H3 I3 rz => ?_
  have J3 := I3.unhold
  cases e with
  | s d =>
    cases d with
    | bl k =>
      have ez := (show Vw K c (ZZ G q.2 σ) H3 z (.bl k) from .inl rz.unhold).bl
      refine ⟨k, ez, ?_⟩
      cases k with
      | false => exact hq _ H3 J3 RepE.t
      | true =>
        refine hc (hold G w q.1) q.2 σ H3 _ I3 (OkG.hold (OkG.bind hq fun u hu => hu) fun u hu => ?_)
        intro y H4 I4 r4
        obtain ⟨b', eb', hu⟩ := hu.of
        obtain ⟨d', ed', hu⟩ := hu.of
        obtain ⟨e', ee', hu⟩ := hu.of
        have A4 := DI.held r2' I4
        have J4 := I4.unhold
        exact hr' G u.2 σ H4 w y b' d' e' Q J4 (J4.vwA A4 eb') (J4.vw r4.unhold ed') ee' hu
    | _ => exact hq.elim
  | o d => exact hq.elim
  | b i => exact hq.elim
theorem dCmp3 {op op' : CmpOp} {r r' : R2} {g g' : D → D → Option Ev} {cx : Expr} {tc : TE} {f3 : XE} (o1 : CmpD c X op r g) (o2 : CmpD c X op' r' g') (ha : DE c W X a ta f1) (hb : DE c W X b tb f2) (hc : DE c W X cx tc f3)
    (hm : lastMarks [op, op'] [b, cx] = false := by with_unfolding_all rfl) : DE c W X (.Compare a [op, op'] [b, cx] pos) (tChain r r' ta tb tc) (x3 g g' f1 f2 f3) := ⟨pe_chain o1.op o2.op ha.pe hb.pe hc.pe hm, SE.chain ha.se hb.se hc.se o1.se o2.se⟩
theorem dtCmp3 {op op' : CmpOp} {r r' : R2} {g g' : D → D → Option Ev} {cx : Expr} {tc : TE} {f3 : XE} (o1 : CmpD c X op r g) (o2 : CmpD c X op' r' g') (ha : DE c W X a ta f1) (hb : DE c W X b tb f2) (hc : DE c W X cx tc f3)
    (hm : lastMarks [op, op'] [b, cx] = false := by with_unfolding_all rfl) : DT c W X (.Compare a [op, op'] [b, cx] pos) (tTest (tChain r r' ta tb tc)) (xBl (x3 g g' f1 f2 f3)) := ⟨pt_chain o1.op o2.op ha.pe hb.pe hc.pe hm, SF.test (SE.chain ha.se hb.se hc.se o1.se o2.se)⟩

/-! ### built-ins by values -/
structure CalD (c : Cf) (X : Cx) (f : Value) (r : List V → Hp → VK → Prop) (g : List D → Option Ev) : Prop where
  op : CallR X f r
  se : SemL X.K c r g
theorem dCallB {x : Str} {id : String} {r : List V → Hp → VK → Prop} {g : List D → Option Ev} (o : CalD c X (.builtin id) r g) (hm : X.mg x = none) (hv : bootBuiltins x = some (.builtin id)) (ha : DA c W X (e :: es) t fs) (hg : Gl X x := by rfl) (hn : x ≠ "__name__" := by decide) (hdb : (x == ("__debug__" : Str)) = false := by decide)
    (he : starEach (e :: es) X.env = (false, eval e X.env) :: starEach es X.env := by rfl) (hpl : (backTo pos (starEach es X.env)).any (·.1) = false := by rfl) : DE c W X (.Call (.Name x pos') (e :: es) [] pos) (tCB r t) (xL g fs) := ⟨pe_callB o.op hg hm hv ha.pe hn hdb he hpl, SE.lst ha.se o.se⟩
theorem dCallTy {x : Str} {T : String} {r : List V → Hp → VK → Prop} {g : List D → Option Ev} (o : CalD c X (.type T) r g) (hm : X.mg x = none) (hv : bootBuiltins x = some (.type T)) (ha : DA c W X (e :: es) t fs) (hg : Gl X x := by rfl) (hn : x ≠ "__name__" := by decide) (hdb : (x == ("__debug__" : Str)) = false := by decide)
    (he : starEach (e :: es) X.env = (false, eval e X.env) :: starEach es X.env := by rfl) (hpl : (backTo pos (starEach es X.env)).any (·.1) = false := by rfl) : DE c W X (.Call (.Name x pos') (e :: es) [] pos) (tCB r t) (xL g fs) := ⟨pe_callTy o.op hg hm hv ha.pe hn hdb he hpl, SE.lst ha.se o.se⟩
theorem Vws.one {K : PySem.W.Frag} {Z : Addr → Prop} {H : Hp} {xs : List V} {d : D} (h : Vws K c Z H xs [d]) : ∃ x, xs = [x] ∧ Vw K c Z H x d := by
  match xs, h with
  | [x], ⟨h, _⟩ => exact ⟨x, rfl, h⟩
theorem Vws.two {K : PySem.W.Frag} {Z : Addr → Prop} {H : Hp} {xs : List V} {d d' : D} (h : Vws K c Z H xs [d, d']) : ∃ x y, xs = [x, y] ∧ Vw K c Z H x d ∧ Vw K c Z H y d' := by
  match xs, h with
  | [x, y], ⟨h, h', _⟩ => exact ⟨x, y, rfl, h, h'⟩

def gAbs : List D → Option Ev
  | [.int i] => some (.s (.int (if i < 0 then -i else i)))
  | _ => none
theorem c_abs : CalD c X (.builtin "abs") (fun xs H Q => ∃ i, xs = [.int i] ∧ Q (.int (if i < 0 then -i else i)) H) gAbs := by
  refine ⟨call_abs, fun G E σ H xs ds e Q I v hg q => ?_⟩
  match ds, hg, v with
  | [.int i], hg, v =>
    cases hg
    obtain ⟨x, rfl, vx⟩ := v.one
    obtain rfl := vx.int
    exact ⟨i, rfl, q _ H I RepE.i⟩
def gMax2 : List D → Option Ev
  | [.int i, .int j] => some (.s (.int (if j > i then j else i)))
  | _ => none
def gMin2 : List D → Option Ev
  | [.int i, .int j] => some (.s (.int (if j < i then j else i)))
  | _ => none
theorem c_max2 (hc : X.calm = true := by rfl) : CalD c X (.builtin "max") (fun xs H Q => ∃ i j, xs = [.int i, .int j] ∧ Q (.int (if j > i then j else i)) H) gMax2 := by
  refine ⟨call_max2 hc, fun G E σ H xs ds e Q I v hg q => ?_⟩
  match ds, hg, v with
  | [.int i, .int j], hg, v =>
    cases hg
    obtain ⟨x, y, rfl, vx, vy⟩ := v.two
    obtain rfl := vx.int
    obtain rfl := vy.int
    exact ⟨i, j, rfl, q _ H I RepE.i⟩
theorem c_min2 (hc : X.calm = true := by rfl) : CalD c X (.builtin "min") (fun xs H Q => ∃ i j, xs = [.int i, .int j] ∧ Q (.int (if j < i then j else i)) H) gMin2 := by
  refine ⟨call_min2 hc, fun G E σ H xs ds e Q I v hg q => ?_⟩
  match ds, hg, v with
  | [.int i, .int j], hg, v =>
    cases hg
    obtain ⟨x, y, rfl, vx, vy⟩ := v.two
    obtain rfl := vx.int
    obtain rfl := vy.int
    exact ⟨i, j, rfl, q _ H I RepE.i⟩
def gInt : List D → Option Ev
  | [.int i] => some (.s (.int i))
  | [.bl k] => some (.s (.int (if k then 1 else 0)))
  | _ => none
theorem c_int : CalD c X (.type "int") (fun xs H Q => (∃ i, xs = [.int i] ∧ Q (.int i) H) ∨ ∃ k, xs = [.bl k] ∧ Q (.int (if k then 1 else 0)) H) gInt := by
  refine ⟨call_int1, fun G E σ H xs ds e Q I v hg q => ?_⟩
  match ds, hg, v with
  | [.int i], hg, v =>
    cases hg
    obtain ⟨x, rfl, vx⟩ := v.one
    obtain rfl := vx.int
    exact .inl ⟨i, rfl, q _ H I RepE.i⟩
  | [.bl k], hg, v =>
    cases hg
    obtain ⟨x, rfl, vx⟩ := v.one
    obtain rfl := vx.bl
    exact .inr ⟨k, rfl, q _ H I RepE.i⟩
/-! len -/
def gLen : List D → Option Ev
  | [.lst xs] => some (.s (.int (xs.length : Int)))
  | [.tup xs] => some (.s (.int (xs.length : Int)))
  | [.str x] => if x.length ≤ sizeLine then some (.s (.int (x.length : Int))) else none
  | [.scr ns] => some (.s (.int (ns.length : Int)))
  | _ => none
theorem c_len : CalD c X (.builtin "len") (fun xs H Q => ∃ x n, xs = [x] ∧ LenV X.K x H n ∧ Q (.int n) H) gLen := by
  refine ⟨call_len, fun G E σ H xs ds e Q I v hg q => ?_⟩
  match ds, hg, v with
  | [.lst xs], hg, v =>
    cases hg
    obtain ⟨x, rfl, vx⟩ := v.one
    obtain ⟨a, vs, rfl, hs, rs⟩ := vx.lst
    exact ⟨_, xs.length, rfl, .inl ⟨vs, .inl hs, rs.1.symm⟩, q _ H I RepE.i⟩
  | [.tup xs], hg, v =>
    cases hg
    obtain ⟨x, rfl, vx⟩ := v.one
    obtain ⟨a, vs, rfl, hs, rs⟩ := vx.tup
    exact ⟨_, xs.length, rfl, .inr ⟨vs, hs, rs.1.symm⟩, q _ H I RepE.i⟩
  | [.str z], hg, v =>
    obtain ⟨hl, rfl⟩ := of_if (show (if z.length ≤ sizeLine then some (Ev.s (.int (z.length : Int))) else none) = some e from hg)
    obtain ⟨x, rfl, vx⟩ := v.one
    obtain rfl := vx.str
    exact ⟨_, z.length, rfl, ⟨hl, rfl⟩, q _ H I RepE.i⟩
  | [.scr ns], hg, v =>
    cases hg
    obtain ⟨x, rfl, vx⟩ := v.one
    obtain ⟨a, rfl, hs⟩ := vx.scr
    exact ⟨_, ns.length, rfl, .inl ⟨_, hs, by simp⟩, q _ H I RepE.i⟩
/-! list(..), tuple(..) -/
def gList : List D → Option Ev
  | [.lst xs] => some (.o (.lst xs))
  | [.tup xs] => some (.o (.lst xs))
  | _ => none
theorem c_list : CalD c X (.type "list") (fun xs H Q => ∃ p ys, xs = [.ref p] ∧ (SqL X.K H p ys ∨ SqT X.K H p ys) ∧ ∀ l, H l = none → Q (.ref l) (upd H l (.lst ys))) gList := by
  refine ⟨call_list_of, fun G E σ H xs ds e Q I v hg q => ?_⟩
  match ds, hg, v with
  | [.lst xs], hg, v =>
    cases hg
    obtain ⟨x, rfl, vx⟩ := v.one
    obtain ⟨a, vs, rfl, hs, rs⟩ := vx.lst
    refine ⟨a, vs, rfl, .inl (.inl hs), fun p hp => ?_⟩
    obtain ⟨J, R⟩ := I.new hp (o := .lst vs) trivial (.lst _ _) rs
    exact q _ _ J R
  | [.tup xs], hg, v =>
    cases hg
    obtain ⟨x, rfl, vx⟩ := v.one
    obtain ⟨a, vs, rfl, hs, rs⟩ := vx.tup
    refine ⟨a, vs, rfl, .inr hs, fun p hp => ?_⟩
    obtain ⟨J, R⟩ := I.new hp (o := .lst vs) trivial (.lst _ _) rs
    exact q _ _ J R
theorem Vw.tupR {K : PySem.W.Frag} {Z : Addr → Prop} {H : Hp} {v : V} {xs : List D} (r : Vw K c Z H v (.tup xs)) : Rep K c Z H v (.tup xs) := by
  rcases r with r | ⟨_, _, o, _, _, _, m, n, _⟩
  · exact r
  · cases n
    exact m.elim
def gTuple : List D → Option Ev
  | [.lst xs] => some (.s (.tup xs))
  | [.tup xs] => some (.s (.tup xs))
  | _ => none
theorem c_tuple : CalD c X (.type "tuple") (fun xs H Q => ∃ p ys, xs = [.ref p] ∧ ((SqL X.K H p ys ∧ ∀ l, H l = none → Q (.ref l) (upd H l (.tup ys))) ∨ (SqT X.K H p ys ∧ Q (.ref p) H))) gTuple := by
  refine ⟨call_tuple_of, fun G E σ H xs ds e Q I v hg q => ?_⟩
  match ds, hg, v with
  | [.lst xs], hg, v =>
    cases hg
    obtain ⟨x, rfl, vx⟩ := v.one
    obtain ⟨a, vs, rfl, hs, rs⟩ := vx.lst
    refine ⟨a, vs, rfl, .inl ⟨.inl hs, fun p hp => ?_⟩⟩
    obtain ⟨J, R⟩ := I.newS hp (.tup vs xs) rs
    exact q _ _ J R
  | [.tup xs], hg, v =>
    cases hg
    obtain ⟨x, rfl, vx⟩ := v.one
    obtain ⟨a, vs, rfl, hs, rs⟩ := vx.tup
    exact ⟨a, vs, rfl, .inr ⟨hs, q _ H I vx.tupR⟩⟩
/-! sums, greatest and least of lists of ints -/
def intsOf : List D → Option (List Int)
  | [] => some []
  | .int i :: ds => (intsOf ds).map (i :: ·)
  | _ :: _ => none
@[simp] theorem intsOf_map (ns : List Int) : intsOf (ns.map D.int) = some ns := by
  induction ns with
  | nil => rfl
  | cons n ns ih => simp [intsOf, ih]
theorem intsOf_eq : ∀ {ds : List D} {ns : List Int}, intsOf ds = some ns → ds = ns.map D.int
  | [], ns, h => by cases h; rfl
  | d :: ds, ns, h => by
    cases d with
    | int i =>
      obtain ⟨ms, h1, rfl⟩ := Option.map_eq_some_iff.mp (show (intsOf ds).map (i :: ·) = some ns from h)
      rw [intsOf_eq h1]
      rfl
    | _ => cases h
theorem reps_ints {K : PySem.W.Frag} {Z : Addr → Prop} {H : Hp} : ∀ {vs : List V} {ns : List Int}, Reps K c Z H vs (ns.map D.int) → vs = ns.map V.int
  | vs, [], r => r.inv_nil
  | vs, n :: ns, r => by
    obtain ⟨v, ws, rfl, h1, h2⟩ := r.inv_cons
    rw [(show Vw K c Z H v (.int n) from .inl h1).int, reps_ints h2]
    rfl
theorem ints_reps {K : PySem.W.Frag} {Z : Addr → Prop} {H : Hp} : ∀ {ns : List Int}, Reps K c Z H (ns.map V.int) (ns.map D.int)
  | [] => .nil
  | n :: ns => .cons (.int n) ints_reps
def gSum : List D → Option Ev
  | [.lst xs] => (intsOf xs).map fun ns => .s (.int ns.sum)
  | _ => none
theorem c_sum (hc : X.calm = true := by rfl) : CalD c X (.builtin "sum") (rSum X.K) gSum := by
  refine ⟨cr_sum hc, fun G E σ H xs ds e Q I v hg q => ?_⟩
  match ds, hg, v with
  | [.lst xs], hg, v =>
    obtain ⟨ns, h1, rfl⟩ := Option.map_eq_some_iff.mp (show (intsOf xs).map (fun ns => Ev.s (.int ns.sum)) = some e from hg)
    obtain rfl := intsOf_eq h1
    obtain ⟨x, rfl, vx⟩ := v.one
    obtain ⟨a, vs, rfl, hs, rs⟩ := vx.lst
    obtain rfl := reps_ints rs
    exact ⟨a, ns, rfl, .inl hs, q _ H I RepE.i⟩
def gMaxL : List D → Option Ev
  | [.lst xs] => (intsOf xs).bind fun ns => ns.max?.map fun m => .s (.int m)
  | _ => none
def gMinL : List D → Option Ev
  | [.lst xs] => (intsOf xs).bind fun ns => ns.min?.map fun m => .s (.int m)
  | _ => none
theorem c_maxL (hc : X.calm = true := by rfl) : CalD c X (.builtin "max") (rMax X.K) gMaxL := by
  refine ⟨cr_max hc, fun G E σ H xs ds e Q I v hg q => ?_⟩
  match ds, hg, v with
  | [.lst xs], hg, v =>
    obtain ⟨ns, h1, h2⟩ := Option.bind_eq_some_iff.mp (show (intsOf xs).bind (fun ns => ns.max?.map fun m => Ev.s (.int m)) = some e from hg)
    obtain ⟨m, h3, rfl⟩ := Option.map_eq_some_iff.mp h2
    obtain rfl := intsOf_eq h1
    obtain ⟨x, rfl, vx⟩ := v.one
    obtain ⟨a, vs, rfl, hs, rs⟩ := vx.lst
    obtain rfl := reps_ints rs
    have hm := List.max?_eq_some_iff.mp h3
    refine ⟨a, ns, rfl, .inl hs, List.length_pos_of_mem hm.1, fun k hk hle => ?_⟩
    have : k = m := Int.le_antisymm (hm.2 k hk) (hle m hm.1)
    subst this
    exact q _ H I RepE.i
theorem c_minL (hc : X.calm = true := by rfl) : CalD c X (.builtin "min") (rMin X.K) gMinL := by
  refine ⟨cr_min hc, fun G E σ H xs ds e Q I v hg q => ?_⟩
  match ds, hg, v with
  | [.lst xs], hg, v =>
    obtain ⟨ns, h1, h2⟩ := Option.bind_eq_some_iff.mp (show (intsOf xs).bind (fun ns => ns.min?.map fun m => Ev.s (.int m)) = some e from hg)
    obtain ⟨m, h3, rfl⟩ := Option.map_eq_some_iff.mp h2
    obtain rfl := intsOf_eq h1
    obtain ⟨x, rfl, vx⟩ := v.one
    obtain ⟨a, vs, rfl, hs, rs⟩ := vx.lst
    obtain rfl := reps_ints rs
    have hm := List.min?_eq_some_iff.mp h3
    refine ⟨a, ns, rfl, .inl hs, List.length_pos_of_mem hm.1, fun k hk hle => ?_⟩
    have : k = m := Int.le_antisymm (hle m hm.1) (hm.2 k hk)
    subst this
    exact q _ H I RepE.i
/-! sorted ints -/
def insS (x : Int) : List Int → List Int
  | [] => [x]
  | y :: ys => if x ≤ y then x :: y :: ys else y :: insS x ys
def srt : List Int → List Int
  | [] => []
  | x :: xs => insS x (srt xs)
theorem insS_perm (x : Int) : ∀ l : List Int, (insS x l).Perm (x :: l)
  | [] => .refl _
  | y :: ys => by
    unfold insS
    split
    · exact .refl _
    · exact ((insS_perm x ys).cons y).trans (.swap x y ys)
theorem srt_perm : ∀ l : List Int, (srt l).Perm l
  | [] => .refl _
  | x :: xs => (insS_perm x (srt xs)).trans ((srt_perm xs).cons x)
theorem insS_sorted (x : Int) : ∀ {l : List Int}, l.Pairwise (· ≤ ·) → (insS x l).Pairwise (· ≤ ·)
  | [], _ => by simp [insS]
  | y :: ys, h => by
    unfold insS
    obtain ⟨h1, h2⟩ := List.pairwise_cons.mp h
    split
    · rename_i hxy
      exact List.pairwise_cons.mpr ⟨fun z hz => by
        rcases List.mem_cons.mp hz with rfl | hz
        · exact hxy
        · exact Int.le_trans hxy (h1 z hz), h⟩
    · rename_i hxy
      refine List.pairwise_cons.mpr ⟨fun z hz => ?_, insS_sorted x h2⟩
      rcases List.mem_cons.mp ((insS_perm x ys).mem_iff.mp hz) with rfl | hz
      · omega
      · exact h1 z hz
theorem srt_sorted : ∀ l : List Int, (srt l).Pairwise (· ≤ ·)
  | [] => .nil
  | x :: xs => insS_sorted x (srt_sorted xs)
theorem sorted_uniq : ∀ {l m : List Int}, l.Perm m → l.Pairwise (· ≤ ·) → m.Pairwise (· ≤ ·) → l = m := fun {l m} p h1 h2 =>
  p.eq_of_pairwise (fun a b _ _ h h' => Int.le_antisymm h h') h1 h2
def gSorted : List D → Option Ev
  | [.lst xs] => (intsOf xs).map fun ns => .o (.lst ((srt ns).map .int))
  | _ => none
theorem c_sorted : CalD c X (.builtin "sorted") (rSortedI X.K) gSorted := by
  refine ⟨cr_sortedI, fun G E σ H xs ds e Q I v hg q => ?_⟩
  match ds, hg, v with
  | [.lst xs], hg, v =>
    obtain ⟨ns, h1, rfl⟩ := Option.map_eq_some_iff.mp (show (intsOf xs).map (fun ns => Ev.o (.lst ((srt ns).map .int))) = some e from hg)
    obtain rfl := intsOf_eq h1
    obtain ⟨x, rfl, vx⟩ := v.one
    obtain ⟨a, vs, rfl, hs, rs⟩ := vx.lst
    obtain rfl := reps_ints rs
    refine ⟨a, ns, rfl, .inl hs, fun ns' p pm so hp => ?_⟩
    have : ns' = srt ns := sorted_uniq (pm.trans (srt_perm ns).symm) so (srt_sorted ns)
    subst this
    obtain ⟨J, R⟩ := I.new hp (o := .lst ((srt ns).map V.int)) trivial (.lst _ _) ints_reps
    exact q _ _ J R
/-! any, all of lists of truth values -/
def boolsOf : List D → Option (List Bool)
  | [] => some []
  | .bl i :: ds => (boolsOf ds).map (i :: ·)
  | _ :: _ => none
@[simp] theorem boolsOf_map (ns : List Bool) : boolsOf (ns.map D.bl) = some ns := by
  induction ns with
  | nil => rfl
  | cons n ns ih => simp [boolsOf, ih]
theorem boolsOf_eq : ∀ {ds : List D} {ns : List Bool}, boolsOf ds = some ns → ds = ns.map D.bl
  | [], ns, h => by cases h; rfl
  | d :: ds, ns, h => by
    cases d with
    | bl i =>
      obtain ⟨ms, h1, rfl⟩ := Option.map_eq_some_iff.mp (show (boolsOf ds).map (i :: ·) = some ns from h)
      rw [boolsOf_eq h1]
      rfl
    | _ => cases h
theorem reps_bools {K : PySem.W.Frag} {Z : Addr → Prop} {H : Hp} : ∀ {vs : List V} {ns : List Bool}, Reps K c Z H vs (ns.map D.bl) → vs = ns.map V.bl
  | vs, [], r => r.inv_nil
  | vs, n :: ns, r => by
    obtain ⟨v, ws, rfl, h1, h2⟩ := r.inv_cons
    rw [(show Vw K c Z H v (.bl n) from .inl h1).bl, reps_bools h2]
    rfl
def gAny : List D → Option Ev
  | [.lst xs] => (boolsOf xs).map fun ns => .s (.bl (ns.any id))
  | _ => none
def gAll : List D → Option Ev
  | [.lst xs] => (boolsOf xs).map fun ns => .s (.bl (ns.all id))
  | _ => none
theorem c_any (hc : X.calm = true := by rfl) : CalD c X (.builtin "any") (rAny X.K) gAny := by
  refine ⟨cr_any hc, fun G E σ H xs ds e Q I v hg q => ?_⟩
  match ds, hg, v with
  | [.lst xs], hg, v =>
    obtain ⟨ns, h1, rfl⟩ := Option.map_eq_some_iff.mp (show (boolsOf xs).map (fun ns => Ev.s (.bl (ns.any id))) = some e from hg)
    obtain rfl := boolsOf_eq h1
    obtain ⟨x, rfl, vx⟩ := v.one
    obtain ⟨a, vs, rfl, hs, rs⟩ := vx.lst
    obtain rfl := reps_bools rs
    exact ⟨a, ns, rfl, .inl hs, q _ H I RepE.t⟩
theorem c_all (hc : X.calm = true := by rfl) : CalD c X (.builtin "all") (rAll X.K) gAll := by
  refine ⟨cr_all hc, fun G E σ H xs ds e Q I v hg q => ?_⟩
  match ds, hg, v with
  | [.lst xs], hg, v =>
    obtain ⟨ns, h1, rfl⟩ := Option.map_eq_some_iff.mp (show (boolsOf xs).map (fun ns => Ev.s (.bl (ns.all id))) = some e from hg)
    obtain rfl := boolsOf_eq h1
    obtain ⟨x, rfl, vx⟩ := v.one
    obtain ⟨a, vs, rfl, hs, rs⟩ := vx.lst
    obtain rfl := reps_bools rs
    exact ⟨a, ns, rfl, .inl hs, q _ H I RepE.t⟩

/-! ### isinstance(x, T), T a built-in class -/
def isTy (T : String) : D → Option Bool
  | .non => kitB "NoneType" T
  | .bl _ => kitB "bool" T
  | .int _ => kitB "int" T
  | .str _ => kitB "str" T
  | .tup _ => kitB "tuple" T
  | .lst _ => kitB "list" T
  | .dct _ => kitB "dict" T
  | _ => none
theorem tyX_of {K : PySem.W.Frag} {Z : Addr → Prop} {H : Hp} {v : V} {d : D} {T : String} {b : Bool} (r : Vw K c Z H v d) (h : isTy T d = some b) : ∃ t, TyX K H v t ∧ PySem.W.kitOne K t (.type T) = some b := by
  cases d with
  | non => obtain rfl := r.non; exact ⟨_, .base .non, kit_ty h⟩
  | bl y => obtain rfl := r.bl; exact ⟨_, .base (.bl y), kit_ty h⟩
  | int y => obtain rfl := r.int; exact ⟨_, .base (.int y), kit_ty h⟩
  | str y => obtain rfl := r.str; exact ⟨_, .base (.str y), kit_ty h⟩
  | tup xs =>
    obtain ⟨a, vs, rfl, hs, _⟩ := r.tup
    refine ⟨_, ?_, kit_ty h⟩
    rcases hs with (h1 | ⟨o, h1⟩) | ⟨o, its, n, h1, h2, _⟩
    · exact .base (.tup h1)
    · exact .fTuple h1
    · exact .kTuple h1 h2
  | lst xs =>
    obtain ⟨a, vs, rfl, hs, _⟩ := r.lst
    refine ⟨_, ?_, kit_ty h⟩
    rcases hs with h1 | ⟨o, h1⟩
    · exact .base (.lst h1)
    · exact .base (.frz h1)
  | dct kd =>
    obtain ⟨a, ks, rfl, hs, _⟩ := r.dct
    refine ⟨_, ?_, kit_ty h⟩
    rcases hs with h1 | ⟨o, h1⟩
    · exact .base (.dK h1)
    · exact .fDict h1
  | _ => cases h
def gIsT (T : String) (d : D) : Option Ev := (isTy T d).map fun b => .s (.bl b)
theorem dIsi {T : Str} {n : String} (hm : X.mg "isinstance" = none) (hmT : X.mg T = none) (hT : bootBuiltins T = some (.type n)) (he : DE c W X e te f) (hg : Gl X "isinstance" := by rfl) (hgT : Gl X T := by rfl) (hnT : T ≠ "__name__" := by decide) (hdT : (T == ("__debug__" : Str)) = false := by decide)
    (h1 : starEach [e, .Name T pos2] X.env = (false, eval e X.env) :: starEach [.Name T pos2] X.env := by rfl) (h2 : starEach [.Name T pos2] X.env = (false, eval (.Name T pos2) X.env) :: starEach [] X.env := by rfl) (hpl : (backTo pos (starEach [.Name T pos2] X.env)).any (·.1) = false := by rfl) :
    DE c W X (.Call (.Name "isinstance" pos') [e, .Name T pos2] [] pos) (tCB (rIsi X.K) (tCons te (tCons (tC (.ty n)) tNil))) (x1 (gIsT n) f) := by
  refine ⟨pe_callB call_isi hg hm PyProof.Rows.boot_isinstance (pa_cons he.pe (pa_cons (pe_bltn hgT hmT hT rfl hnT hdT) pa_nil h2) h1) (by decide) (by decide) h1 hpl, ?_⟩
  intro G E σ H Q I h
  refine he.se G E σ H _ I (h.bind fun p hp v H1 I1 r1 => ?_)
  obtain ⟨d, ed, hq⟩ := hp.of
  obtain ⟨e2, ee, hq⟩ := hq.of
  obtain ⟨b, hb, rfl⟩ := Option.map_eq_some_iff.mp (show (isTy n d).map (fun b => Ev.s (.bl b)) = some e2 from ee)
  obtain ⟨t, t1, t2⟩ := tyX_of (I1.vw r1 ed) hb
  exact ⟨v, .ty n, t, .type n, b, rfl, .ty n, t1, t2, hq _ H1 I1 RepE.t⟩
end
end DS

namespace DS
open PySem PySem.Spec L2
section
variable {K : PySem.W.Frag} {c : Cf} {W : WX} {X : Cx} {pos pos' pos2 apos cpos tpos : Pos} {G : Gd} {E E' : En} {σ : St} {H : Hp}
variable {a b e o : Expr} {es : List Expr} {ta tb te to : TE} {f1 f2 f : XE} {t : TA} {fs : XA}

/-! ### subscripts, slices -/
def gIx : D → D → Option Ev
  | .lst xs, .int i => (atI xs i).map .s
  | .tup xs, .int i => (atI xs i).map .s
  | .str z, .int i => if z.length ≤ sizeLine then (atI z.cps.toList i).map fun q => .s (.str ⟨#[q]⟩) else none
  | .scr ns, .int i => (atI ns i).map fun n => .s (.int n)
  | _, _ => none
theorem Reps.atI {Z : Addr → Prop} {vs : List V} {ds : List D} {d : D} {i : Int} (r : Reps K c Z H vs ds) (h : L2.atI ds i = some d) : ∃ v, L2.atI vs i = some v ∧ Rep K c Z H v d := by
  unfold L2.atI at h ⊢
  rw [← r.1] at h
  obtain ⟨j, h1, h2⟩ := Option.bind_eq_some_iff.mp h
  obtain ⟨v, hv, rv⟩ := r.at h2
  exact ⟨v, by rw [h1]; exact hv, rv⟩
theorem sem_ix : Sem2 K c (rIx K) gIx := by
  intro G E σ H x y d1 d2 e Q I v1 v2 hg q
  cases d2 with
  | int i =>
    obtain rfl := v2.int
    cases d1 with
    | lst xs =>
      obtain ⟨d, h1, rfl⟩ := Option.map_eq_some_iff.mp (show (L2.atI xs i).map Ev.s = some e from hg)
      obtain ⟨a, vs, rfl, hs, rs⟩ := v1.lst
      obtain ⟨v, hv, rv⟩ := rs.atI h1
      exact .inl ⟨a, vs, i, v, rfl, rfl, .inl hs, hv, q _ H I rv⟩
    | tup xs =>
      obtain ⟨d, h1, rfl⟩ := Option.map_eq_some_iff.mp (show (L2.atI xs i).map Ev.s = some e from hg)
      obtain ⟨a, vs, rfl, hs, rs⟩ := v1.tup
      obtain ⟨v, hv, rv⟩ := rs.atI h1
      exact .inr (.inl ⟨a, vs, i, v, rfl, rfl, hs, hv, q _ H I rv⟩)
    | str z =>
      have hg' : (if z.length ≤ sizeLine then (L2.atI z.cps.toList i).map fun q => Ev.s (.str ⟨#[q]⟩) else none) = some e := hg
      by_cases hl : z.length ≤ sizeLine
      · rw [if_pos hl] at hg'
        obtain ⟨k, h1, rfl⟩ := Option.map_eq_some_iff.mp hg'
        obtain rfl := v1.str
        exact .inr (.inr ⟨z, i, k, rfl, rfl, hl, h1, q _ H I RepE.x⟩)
      · rw [if_neg hl] at hg'; cases hg'
    | scr ns =>
      obtain ⟨k, h1, rfl⟩ := Option.map_eq_some_iff.mp (show (L2.atI ns i).map (fun n => Ev.s (.int n)) = some e from hg)
      obtain ⟨a, rfl, hs⟩ := v1.scr
      refine .inl ⟨a, _, i, .int k, rfl, rfl, hs, ?_, q _ H I RepE.i⟩
      unfold L2.atI at h1 ⊢
      rw [List.length_map]
      obtain ⟨j, e1, e2⟩ := Option.bind_eq_some_iff.mp h1
      rw [e1]
      show (ns.map V.int)[j]? = _
      rw [List.getElem?_map, e2]
      rfl
    | _ => cases hg
  | _ => cases d1 <;> cases hg
theorem dIx (ha : DE c W X a ta f1) (hb : DE c W X b tb f2) (hs : PlainIx b := by intro _ _; rfl) : DE c W X (.Subscript a b pos) (tOp (rIx X.K) ta tb) (x2 gIx f1 f2) := ⟨pe_ix ix_seq ha.pe hb.pe hs, SE.op2 ha.se hb.se sem_ix⟩

/-- the part of a list between two bounds -/
def cutD (xs : List D) (lo hi : Option Int) : List D := (xs.drop (HT.sIx xs.length 0 lo)).take (HT.sIx xs.length xs.length hi - HT.sIx xs.length 0 lo)
theorem Reps.cut {Z : Addr → Prop} {vs : List V} {ds : List D} {lo hi : Option Int} (r : Reps K c Z H vs ds) : Reps K c Z H (cutV vs lo hi) (cutD ds lo hi) := by
  unfold cutV cutD
  rw [r.1]
  exact (r.drop _).take _
theorem cutD_whole {xs : List D} {lo hi : Option Int} (h : HT.sIx xs.length 0 lo = 0 ∧ HT.sIx xs.length xs.length hi = xs.length) : cutD xs lo hi = xs := by
  unfold cutD
  rw [h.1, h.2]
  simp
abbrev XO := En → Res (Option Int × En)
def SO (K : PySem.W.Frag) (c : Cf) (W : WX) (t : TO) (f : XO) : Prop := ∀ G E σ H Q, DI K c G E σ H → OkG K c G W σ (fun p => ∀ H', DI K c G p.2 σ H' → Q p.1 H') (f E) → t σ H Q
structure DO (c : Cf) (W : WX) (X : Cx) (e : Option Expr) (t : TO) (f : XO) : Prop where
  po : PO X e t
  se : SO X.K c W t f
def xo0 : XO := fun E => .ok (none, E)
def xo1 (f : XE) : XO := fun E => (f E).bind fun p => (Res.of (dat p.2 p.1)).bind fun d => match d with
  | .int i => .ok (some i, p.2)
  | _ => .fail
theorem do0 : DO c W X none tNoPart xo0 := ⟨po_none, fun G E σ H Q I h => h H I⟩
theorem do1 (h : DE c W X e te f) : DO c W X (some e) (tPart te) (xo1 f) := by
  refine ⟨po_some h.pe, fun G E σ H Q I hh => ?_⟩
  refine h.se G E σ H _ I (hh.bind fun p hp v H1 I1 r1 => ?_)
  obtain ⟨d, ed, hq⟩ := hp.of
  cases d with
  | int i => exact ⟨i, (I1.vw r1 ed).int, hq H1 I1⟩
  | _ => exact hq.elim
def gCut (lo hi : Option Int) : D → Option Ev
  | .lst xs => some (.o (.lst (cutD xs lo hi)))
  | .tup xs => some (.s (.tup (cutD xs lo hi)))
  | .str z => if z.length ≤ sizeLine then some (.s (.str (cutS z lo hi))) else none
  | _ => none
def xCut (f : XE) (l u : XO) : XE := fun E => (f E).bind fun p => (l p.2).bind fun q => (u q.2).bind fun r => (Res.of (dat r.2 p.1)).bind fun d => (Res.of (gCut q.1 r.1 d)).bind fun e => .ok (e, r.2)
def rSlAll (K : PySem.W.Frag) : V → Option Int → Option Int → Hp → VK → Prop := fun x lo hi H Q => rSlL K x lo hi H Q ∨ (rSlA K x lo hi H Q ∨ rSlS x lo hi H Q)
theorem dCut {lo hi : Option Expr} {tl th : TO} {fl fh : XO} {p2 : Pos} (he : DE c W X e te f) (hl : DO c W X lo tl fl) (hu : DO c W X hi th fh) : DE c W X (.Subscript e (.Slice lo hi none p2) pos) (tSl (rSlAll X.K) te tl th) (xCut f fl fh) := by
  refine ⟨pe_slice (SlR.or sl_list (SlR.or sl_tupA sl_str)) he.pe hl.po hu.po, ?_⟩
  intro G E σ H Q I h
  refine he.se G E σ H _ I (h.bind fun p hp v H1 I1 r1 => ?_)
  refine hl.se (hold G v p.1) p.2 σ H1 _ (I1.hold r1) (OkG.hold (OkG.bind hp fun q hq => hq) fun q hq H2 I2 => ?_)
  refine hu.se (hold G v p.1) q.2 σ H2 _ I2 (OkG.hold (OkG.bind hq fun u hu => hu) fun u hu H3 I3 => ?_)
  obtain ⟨d, ed, hq⟩ := hu.of
  obtain ⟨e2, ee, hq⟩ := hq.of
  have A := DI.held r1 I3
  have J := I3.unhold
  have V3 := J.vwA A ed
  cases d with
  | lst xs =>
    cases ee
    obtain ⟨a, vs, rfl, hs, rs⟩ := V3.lst
    refine .inl ⟨a, vs, rfl, .inl hs, fun l hl => ?_⟩
    obtain ⟨J2, R⟩ := J.new hl (o := .lst (cutV vs q.1 u.1)) trivial (.lst _ _) rs.cut
    exact hq _ _ J2 R
  | tup xs =>
    cases ee
    obtain ⟨a, vs, rfl, hs, rs⟩ := V3.tup
    refine .inr (.inl ⟨a, vs, rfl, hs, fun hw => ?_, fun _ l hl => ?_⟩)
    · rw [rs.1] at hw
      refine hq _ _ J ?_
      show Rep _ _ _ _ _ (.tup (cutD xs q.1 u.1))
      rw [cutD_whole hw]
      exact V3.tupR
    · obtain ⟨J2, R⟩ := J.newS hl (.tup (cutV vs q.1 u.1) _) rs.cut
      exact hq _ _ J2 R
  | str z =>
    obtain ⟨hl, rfl⟩ := of_if (show (if z.length ≤ sizeLine then some (Ev.s (.str (cutS z q.1 u.1))) else none) = some e2 from ee)
    exact .inr (.inr ⟨z, V3.str, hl, hq _ _ J RepE.x⟩)
  | _ => cases ee

/-! ### -a, a ** b -/
def gNeg : D → Option Ev
  | .int i => some (.s (.int (-i)))
  | _ => none
theorem dNeg (ha : DE c W X a ta f) : DE c W X (.UnaryOp .USub a pos) (tUn (rU fun i => .int (-i)) ta) (x1 gNeg f) := ⟨pe_un un_neg ha.pe, SE.op1 ha.se fun G E σ H x d1 e Q I v hg q => by
  cases d1 with
  | int i => cases hg; exact ⟨i, v.int, q _ H I RepE.i⟩
  | _ => cases hg⟩
def cPow (i j : Int) : Prop := 0 ≤ j ∧ j ≤ 1000000 ∧ i.natAbs < 2 ^ 64
instance : ∀ i j, Decidable (cPow i j) := fun i j => by unfold cPow; exact inferInstance
theorem d_pow : BinD c X .Pow (rI CPow fun i j => .int (i ^ j.toNat)) (i2c cPow fun i j => i ^ j.toNat) := ⟨op_pow, sem_i2c fun _ _ h => h⟩

/-! ### x in a list, a tuple (data) -/
def gInL (neg : Bool) : D → D → Option Ev
  | d, .lst xs => if (d.shp && (D.lst xs).shp) = true then some (.s (.bl (if neg then !xs.any (fun z => PyData.eqv z.pd d.pd) else xs.any fun z => PyData.eqv z.pd d.pd))) else none
  | _, _ => none
theorem any_pds (p : PyData → Bool) : ∀ ds : List D, (D.pds ds).any p = ds.any fun z => p z.pd
  | [] => rfl
  | d :: ds => by simp [D.pds, any_pds p ds]
theorem d_inL (hu : X.A.units + 65 < cLine) : CmpD c X .In (rInD X.K) (gInL false) := by
  refine ⟨op_inD hu, fun G E σ H x y d1 d2 e Q I v1 v2 hg q => ?_⟩
  cases d2 with
  | lst xs =>
    obtain ⟨hl, rfl⟩ := of_if (show (if (d1.shp && (D.lst xs).shp) = true then some (Ev.s (.bl (if false = true then !xs.any (fun z => PyData.eqv z.pd d1.pd) else xs.any fun z => PyData.eqv z.pd d1.pd))) else none) = some e from hg)
    obtain ⟨h1, h2⟩ := Bool.and_eq_true_iff.mp hl
    have D2 := v2.dp (shp_plB h2)
    have S2 := shaped_pd h2
    simp only [D.pd] at D2 S2
    refine ⟨_, D.pds xs, v1.dp (shp_plB h1), D2, shaped_pd h1, S2, ?_⟩
    rw [any_pds]
    exact q _ H I RepE.t
  | _ => cases d1 <;> cases hg
theorem d_notInL (hu : X.A.units + 65 < cLine) : CmpD c X .NotIn (rNotInD X.K) (gInL true) := by
  refine ⟨op_notInD hu, fun G E σ H x y d1 d2 e Q I v1 v2 hg q => ?_⟩
  cases d2 with
  | lst xs =>
    obtain ⟨hl, rfl⟩ := of_if (show (if (d1.shp && (D.lst xs).shp) = true then some (Ev.s (.bl (if true = true then !xs.any (fun z => PyData.eqv z.pd d1.pd) else xs.any fun z => PyData.eqv z.pd d1.pd))) else none) = some e from hg)
    obtain ⟨h1, h2⟩ := Bool.and_eq_true_iff.mp hl
    have D2 := v2.dp (shp_plB h2)
    have S2 := shaped_pd h2
    simp only [D.pd] at D2 S2
    refine ⟨_, D.pds xs, v1.dp (shp_plB h1), D2, shaped_pd h1, S2, ?_⟩
    rw [any_pds]
    exact q _ H I RepE.t
  | _ => cases d1 <;> cases hg

/-! ### what changes an object of one's own -/
theorem DI.write {i : Nat} {k : Kd} {d d' : D} {a : Addr} {o : HO} {vs : List V} {ds : List D} (I : DI K c G E σ H) (he : E[i]? = some (some (k, d))) (hk : k ≠ .sh) (hs : σ[i]? = some (some (.ref a))) (m : Mut (some o)) (n : Node c o d' vs ds) (r : Reps K c (ZZ G E σ) H vs ds) :
    DI K c G (E.set i (some (k, d'))) σ (upd H a o) ∧ (∀ b, ZZ G (E.set i (some (k, d'))) σ b → ZZ G E σ b) ∧ ∀ b u, ¬ ZZ G E σ b → H b = some u → upd H a o b = some u := by
  have oa : OwnA E σ a := ⟨i, k, d, he, hk, hs⟩
  obtain ⟨u1, u2⟩ := I.ownU oa
  have hl : i < E.length := (List.getElem?_eq_some_iff.mp he).1
  have own1 : ∀ {b}, OwnA (E.set i (some (k, d'))) σ b → OwnA E σ b := fun {b} ⟨j, k', d2, e, nk, es⟩ => by
    rcases getElem?_set_some e with ⟨ej, e', _⟩ | ⟨nj, e'⟩
    · subst ej
      cases e'
      exact ⟨i, k, d, he, hk, es⟩
    · exact ⟨j, k', d2, e', nk, es⟩
  have zz : ∀ b, ZZ G (E.set i (some (k, d'))) σ b → ZZ G E σ b := fun b z => z.imp id own1
  have kz : ∀ b u, ¬ ZZ G E σ b → H b = some u → upd H a o b = some u := fun b u nb e => by
    rw [upd_ne (fun z => nb (by rw [z]; exact .inr oa))]
    exact e
  refine ⟨⟨fun b u e nu => ?_, by simpa using I.ln, fun j b e => ?_, fun j j' k1 k2 d1 d2 b e1 e2 n1 n2 s1 s2 => ?_, fun b z => ?_, fun p hp => (I.pin p hp).mono (fun b z => .inl (zz b z)) kz⟩, zz, kz⟩
  · have h1 := I.keep b u e nu
    rw [upd_ne fun z => ?_]
    · exact h1
    · subst z
      rcases u1 with q | q
      · exact nu q
      · rw [e] at q; cases q
  · rcases getElem?_set_some e with ⟨ej, e', _⟩ | ⟨nj, e'⟩
    · subst ej
      cases e'
      refine ⟨.ref a, hs, ?_⟩
      obtain ⟨w, ew, q⟩ := I.rel i _ he
      rw [hs] at ew
      cases ew
      have t' : Top K c (ZZ G (E.set i (some (k, d'))) σ) (upd H a o) a d' := ⟨o, vs, ds, upd_same, m, n, r.mono (fun b z => .inl (zz b z)) kz⟩
      cases k with
      | sh => exact absurd rfl hk
      | ow => exact ⟨a, rfl, t', u1, u2, fun z => by cases z⟩
      | io => obtain ⟨a2, ea, _, _, _, q⟩ := q; cases ea; exact ⟨a, rfl, t', u1, u2, q⟩
    · obtain ⟨w, ew, q⟩ := I.rel j b e'
      refine ⟨w, ew, ?_⟩
      obtain ⟨k', d2⟩ := b
      have top : ∀ {a' : Addr}, k' ≠ .sh → w = .ref a' → Top K c (ZZ G E σ) H a' d2 → Top K c (ZZ G (E.set i (some (k, d'))) σ) (upd H a o) a' d2 := fun {a'} nk ea t => by
        subst ea
        have ne : a' ≠ a := fun z => by
          subst z
          exact nj (I.un i j k k' d d2 a' he e' hk nk hs ew)
        exact t.mono (fun b z => .inl (zz b z)) kz (upd_ne ne)
      cases k' with
      | sh => exact Rep.mono q (fun b z => .inl (zz b z)) kz
      | ow => obtain ⟨a', ea, t, q1, q2, q3⟩ := q; exact ⟨a', ea, top (by decide) ea t, q1, q2, q3⟩
      | io => obtain ⟨a', ea, t, q1, q2, q3⟩ := q; exact ⟨a', ea, top (by decide) ea t, q1, q2, q3⟩
  · have tr : ∀ {j : Nat} {k1 : Kd} {d1 : D}, (E.set i (some (k, d')))[j]? = some (some (k1, d1)) → ∃ d3, E[j]? = some (some (k1, d3)) := fun {j k1 d1} e => by
      rcases getElem?_set_some e with ⟨ej, e', _⟩ | ⟨nj, e'⟩
      · subst ej; cases e'; exact ⟨d, he⟩
      · exact ⟨d1, e'⟩
    obtain ⟨d3, e3⟩ := tr e1
    obtain ⟨d4, e4⟩ := tr e2
    exact I.un j j' k1 k2 d3 d4 b e3 e4 n1 n2 s1 s2
  · by_cases hb : b = a
    · subst hb; exact ⟨o, upd_same⟩
    · obtain ⟨u, e⟩ := I.zin b z
      exact ⟨u, by rw [upd_ne hb]; exact e⟩
/-- a method that changes its object: d the object's data, ds the arguments'; gives the new data and the value -/
def MutL (K : PySem.W.Frag) (c : Cf) (T : String) (r : V → List V → Hp → VK → Prop) (g : D → List D → Option (D × D)) : Prop := ∀ (Z : Addr → Prop) (H : Hp) (a : Addr) (o : HO) (d : D) (cs : List V) (cd : List D) (xs : List V) (ds : List D) (d' res : D) (Q : VK),
  H a = some o → Mut (some o) → Node c o d cs cd → Reps K c Z H cs cd → Reps K c Z H xs ds → g d ds = some (d', res) →
  (∀ o' cs' cd' v, Mut (some o') → Node c o' d' cs' cd' → Reps K c Z H cs' cd' → (∀ H', (∀ b u, ¬ Z b → H b = some u → H' b = some u) → Rep K c Z H' v res) → Q v (upd H a o')) → r (.ref a) xs H Q
@[simp] def isTyD (T : String) : D → Bool
  | .lst _ => T == "list"
  | .dct _ => T == "dict"
  | .dtp _ => T == "dict"
  | .set _ => T == "set"
  | _ => false
def xMut (i : Nat) (T : String) (g : D → List D → Option (D × D)) (fs : XA) : XE := fun E => match E[i]? with
  | some (some (k0, d0)) => if (k0 ≠ .sh) ∧ isTyD T d0 = true then (fs E).bind fun p => (Res.of (shares p.2 p.1)).bind fun q => match q.2[i]? with
    | some (some (k, d)) => if k ≠ .sh then (Res.of (g d q.1)).bind fun u => .ok (.s u.2, q.2.set i (some (k, u.1))) else .fail
    | _ => .fail
    else .fail
  | _ => .fail
theorem top_ty {Z : Addr → Prop} {a : Addr} {d : D} {T : String} (t : Top K c Z H a d) (h : isTyD T d = true) : tyV K T (.ref a) H := by
  obtain ⟨o, vs, ds, ho, m, n, _⟩ := t
  cases n with
  | lst => exact .inl ⟨by simpa using h, _, .inl (.inl ho)⟩
  | dct => exact .inr (.inr (.inl ⟨by simpa using h, .inl ⟨_, ho⟩⟩))
  | dtp => exact .inr (.inr (.inl ⟨by simpa using h, .inr ⟨_, ho⟩⟩))
  | set => exact .inr (.inr (.inr ⟨by simpa using h, _, _, ho⟩))
  | _ => simp at h
theorem RelB.top {Z : Addr → Prop} {i : Nat} {v : V} {k : Kd} {d : D} (r : RelB K c G Z H i v (k, d)) (hk : k ≠ .sh) : ∃ a, v = .ref a ∧ Top K c Z H a d := by
  cases k with
  | sh => exact absurd rfl hk
  | ow => obtain ⟨a, e, t, _⟩ := r; exact ⟨a, e, t⟩
  | io => obtain ⟨a, e, t, _⟩ := r; exact ⟨a, e, t⟩
theorem mut_core {i : Nat} {T : String} {r : V → List V → Hp → VK → Prop} {g : D → List D → Option (D × D)} {Q : VK} {es : List Ev} {vs : List V} {v : V} (hr : MutL K c T r g) (I : DI K c G E σ H) (rs : RepAs K c G E σ H vs es) (hv : σ[i]? = some (some v))
    (h : OkG K c G W σ (PE1 K c G σ Q) ((Res.of (shares E es)).bind fun q => match q.2[i]? with
    | some (some (k, d)) => if k ≠ .sh then (Res.of (g d q.1)).bind fun u => .ok (.s u.2, q.2.set i (some (k, u.1))) else .fail
    | _ => .fail)) : r v vs H Q := by
  obtain ⟨⟨ds, E2⟩, e2, hq⟩ := h.of
  obtain ⟨I2, R2, _⟩ := I.shares rs e2
  have hq' : OkG K c G W σ (PE1 K c G σ Q) (match E2[i]? with
    | some (some (k, d)) => if k ≠ .sh then (Res.of (g d ds)).bind fun u => .ok (.s u.2, E2.set i (some (k, u.1))) else .fail
    | _ => .fail) := hq
  split at hq'
  · rename_i k d he
    by_cases hk : k = .sh
    · rw [if_neg (fun z => z hk)] at hq'
      exact hq'.elim
    · rw [if_pos hk] at hq'
      obtain ⟨⟨d', res⟩, eg, hq2⟩ := hq'.of
      obtain ⟨w, ew, q⟩ := I2.rel i _ he
      rw [hv] at ew
      cases ew
      obtain ⟨a, rfl, o, cs, cd, ho, m, n, rc⟩ := q.top hk
      refine hr (ZZ G E2 σ) H a o d cs cd vs ds d' res Q ho m n rc R2 eg fun o' cs' cd' v m' n' rc' rv => ?_
      obtain ⟨J, zz, kz⟩ := I2.write he hk hv m' n' rc'
      exact hq2 v _ J ((rv _ kz).anti zz)
  · exact hq'.elim
theorem SE.mut {i : Nat} {T : String} {r : V → List V → Hp → VK → Prop} {g : D → List D → Option (D × D)} (hr : MutL K c T r g) (hs : SA K c W t fs) : SE K c W (tBM K T r (tVar i) t) (xMut i T g fs) := by
  intro G E σ H Q I h
  have h' : OkG K c G W σ (PE1 K c G σ Q) (match E[i]? with
  | some (some (k0, d0)) => if (k0 ≠ .sh) ∧ isTyD T d0 = true then (fs E).bind fun p => (Res.of (shares p.2 p.1)).bind fun q => match q.2[i]? with
    | some (some (k, d)) => if k ≠ .sh then (Res.of (g d q.1)).bind fun u => .ok (.s u.2, q.2.set i (some (k, u.1))) else .fail
    | _ => .fail
    else .fail
  | _ => .fail) := h
  split at h'
  · rename_i k0 d0 he
    by_cases hk : (k0 ≠ .sh) ∧ isTyD T d0 = true
    · rw [if_pos hk] at h'
      obtain ⟨w, ew, q⟩ := I.rel i _ he
      obtain ⟨a, rfl, t⟩ := q.top hk.1
      refine ⟨.ref a, ew, top_ty t hk.2, ?_⟩
      exact hs G E σ H _ I (h'.bind fun p hp vs H1 I1 r1 => mut_core hr I1 r1 ew hp)
    · rw [if_neg hk] at h'
      exact h'.elim
  · exact h'.elim
theorem SE.mut0 {i : Nat} {T : String} {r : V → List V → Hp → VK → Prop} {g : D → List D → Option (D × D)} (hr : MutL K c T r g) : SE K c W (tBM0 K T r (tVar i)) (xMut i T g xs0) := by
  intro G E σ H Q I h
  exact SE.mut (W := W) (t := tNil) (fs := xs0) hr SA.nil G E σ H Q I h
/-! the methods of lists -/
def gAppend : D → List D → Option (D × D)
  | .lst xs, [d] => if xs.length < sizeLine then some (.lst (xs ++ [d]), .non) else none
  | _, _ => none
theorem m_append : MutL K c "list" rAppend gAppend := by
  intro Z H a o d cs cd xs ds d' res Q ho m n rc R hg q
  cases n with
  | lst =>
    match ds, hg, R with
    | [x], hg, R =>
      obtain ⟨hl, e⟩ := of_if (show (if cd.length < sizeLine then some (D.lst (cd ++ [x]), D.non) else none) = some (d', res) from hg)
      cases e
      obtain ⟨v, ws, rfl, rv, rn⟩ := R.inv_cons
      obtain rfl := rn.inv_nil
      exact ⟨a, cs, v, rfl, rfl, ho, by rw [rc.1]; exact hl, q _ _ _ _ trivial (.lst _ _) (rc.append (.cons rv .nil)) fun _ _ => .non⟩
  | _ => cases hg
def gPop : D → List D → Option (D × D)
  | .lst xs, [] => xs.getLast?.map fun d => (.lst xs.dropLast, d)
  | _, _ => none
theorem Reps.dropLast {Z : Addr → Prop} {vs : List V} {ds : List D} (r : Reps K c Z H vs ds) : Reps K c Z H vs.dropLast ds.dropLast := by
  rw [List.dropLast_eq_take, List.dropLast_eq_take, r.1]
  exact r.take _
theorem m_pop : MutL K c "list" rPop gPop := by
  intro Z H a o d cs cd xs ds d' res Q ho m n rc R hg q
  cases n with
  | lst =>
    match ds, hg, R with
    | [], hg, R =>
      obtain ⟨x, h1, h2⟩ := Option.map_eq_some_iff.mp (show cd.getLast?.map (fun d => (D.lst cd.dropLast, d)) = some (d', res) from hg)
      cases h2
      obtain rfl := R.inv_nil
      rw [List.getLast?_eq_getElem?] at h1
      obtain ⟨v, hv, rv⟩ := rc.at h1
      exact ⟨a, cs, v, rfl, rfl, ho, by rw [rc.1]; exact hv, q _ _ _ _ trivial (.lst _ _) rc.dropLast fun H' kz => rv.mono (fun b z => .inl z) kz⟩
  | _ => cases hg
def gPopAt : D → List D → Option (D × D)
  | .lst xs, [.int i] => if -(2 ^ 63) ≤ i ∧ i < 2 ^ 63 then (seqIndex? i xs.length).bind fun k => xs[k]?.map fun d => (.lst (xs.eraseIdx k), d) else none
  | _, _ => none
theorem Reps.eraseIdx {Z : Addr → Prop} {vs : List V} {ds : List D} (r : Reps K c Z H vs ds) (k : Nat) : Reps K c Z H (vs.eraseIdx k) (ds.eraseIdx k) := by
  rw [List.eraseIdx_eq_take_drop_succ, List.eraseIdx_eq_take_drop_succ]
  exact (r.take _).append (r.drop _)
theorem m_popAt : MutL K c "list" rPopAt gPopAt := by
  intro Z H a o d cs cd xs ds d' res Q ho m n rc R hg q
  cases n with
  | lst =>
    match ds, hg, R with
    | [.int i], hg, R =>
      have hg' : (if -(2 ^ 63) ≤ i ∧ i < 2 ^ 63 then (seqIndex? i cd.length).bind fun k => cd[k]?.map fun d => (D.lst (cd.eraseIdx k), d) else none) = some (d', res) := hg
      by_cases hi : -(2 ^ 63) ≤ i ∧ i < 2 ^ 63
      · rw [if_pos hi] at hg'
        obtain ⟨k, h1, h2⟩ := Option.bind_eq_some_iff.mp hg'
        obtain ⟨x, h3, h4⟩ := Option.map_eq_some_iff.mp h2
        cases h4
        obtain ⟨v, ws, rfl, rv, rn⟩ := R.inv_cons
        obtain rfl := rn.inv_nil
        obtain rfl := (show Vw K c Z H v (.int i) from .inl rv).int
        obtain ⟨y, hy, ry⟩ := rc.at h3
        exact ⟨a, cs, i, k, y, rfl, rfl, ho, hi.1, hi.2, by rw [rc.1]; exact h1, hy, q _ _ _ _ trivial (.lst _ _) (rc.eraseIdx k) fun H' kz => ry.mono (fun b z => .inl z) kz⟩
      · rw [if_neg hi] at hg'; cases hg'
  | _ => cases hg
def gReverse : D → List D → Option (D × D)
  | .lst xs, [] => some (.lst xs.reverse, .non)
  | _, _ => none
theorem Reps.reverse {Z : Addr → Prop} {vs : List V} {ds : List D} (r : Reps K c Z H vs ds) : Reps K c Z H vs.reverse ds.reverse := by
  refine r.sub (by simp [r.1]) fun i w e h1 h2 => ?_
  have hi : i < vs.length := by simpa using (List.getElem?_eq_some_iff.mp h1).1
  rw [List.getElem?_reverse hi] at h1
  rw [List.getElem?_reverse (by rw [← r.1]; exact hi)] at h2
  exact ⟨_, h1, by rw [r.1]; exact h2⟩
theorem m_reverse : MutL K c "list" rReverse gReverse := by
  intro Z H a o d cs cd xs ds d' res Q ho m n rc R hg q
  cases n with
  | lst =>
    match ds, hg, R with
    | [], hg, R =>
      cases hg
      obtain rfl := R.inv_nil
      exact ⟨a, cs, rfl, rfl, ho, q _ _ _ _ trivial (.lst _ _) rc.reverse fun _ _ => .non⟩
  | _ => cases hg
def rExtendR : V → List V → Hp → VK → Prop := fun x vs H Q => ∃ l b xs zs, x = .ref l ∧ vs = [.ref b] ∧ H l = some (.lst xs) ∧ Rd H b (.lst zs) ∧ xs.length + zs.length ≤ sizeLine ∧ Q .non (upd H l (.lst (xs ++ zs)))
theorem mt_extendR : MtM X "list.extend" rExtendR := by
  intro pins s σ H x vs v us Q I rx rv h
  obtain ⟨l, b, xs, zs, rfl, rfl, hH, hB, hz, q⟩ := h
  cases rx
  obtain ⟨u, rfl, ru⟩ := rv.one
  cases ru
  obtain ⟨z, its, n, r, hl, e⟩ := I.lstM hH
  obtain ⟨z2, its2, n2, r2, hl2, e2⟩ := Inv.lstR I hB
  have hsz : its.toArray.size + its2.toArray.size ≤ sizeLine := by rw [List.size_toArray, List.size_toArray]; omega
  have hlong : ¬ (!its.toArray.isEmpty && Builtin.List.listTooLong (its.toArray.size + its2.toArray.size)) = true := by
    rw [notLongL hsz, Bool.and_false]
    exact Bool.false_ne_true
  refine call_meets F.slot_list_extend ⟨_, e, rfl⟩ F.entry_list_extend (F.args_list_extend_2 _ _)
    (AutoSeq1.list_extend_list_list_0 l its.toArray n b its2.toArray n2 hlong (by rw [List.size_toArray]; omega) (by omega)) ⟨e, e2, ?_⟩
  refine ⟨.non, _, I.lset (its' := its ++ its2) hH e (by simp) (r.append r2) ?_, rfl, q⟩
  rw [List.length_append]
  omega
def gExtend : D → List D → Option (D × D)
  | .lst xs, [.lst ys] => if xs.length + ys.length ≤ sizeLine then some (.lst (xs ++ ys), .non) else none
  | _, _ => none
theorem m_extend : MutL K c "list" rExtendR gExtend := by
  intro Z H a o d cs cd xs ds d' res Q ho m n rc R hg q
  cases n with
  | lst =>
    match ds, hg, R with
    | [.lst ys], hg, R =>
      obtain ⟨hl, e⟩ := of_if (show (if cd.length + ys.length ≤ sizeLine then some (D.lst (cd ++ ys), D.non) else none) = some (d', res) from hg)
      cases e
      obtain ⟨v, ws, rfl, rv, rn⟩ := R.inv_cons
      obtain rfl := rn.inv_nil
      obtain ⟨b, zs, rfl, hs, rs⟩ := (show Vw K c Z H v (.lst ys) from .inl rv).lst
      exact ⟨a, b, cs, zs, rfl, rfl, ho, hs, by rw [rc.1, rs.1]; exact hl, q _ _ _ _ trivial (.lst _ _) (rc.append rs) fun _ _ => .non⟩
  | _ => cases hg
theorem dMut {T id : String} {name : Str} {r : V → List V → Hp → VK → Prop} {g : D → List D → Option (D × D)} (i : Nat) {x : Str} (pa : PlainAttrs T) (slot : Slot T name id) (hty : typeOf (.builtin id) = pure (.type "method_descriptor")) (hm : MtR X id r) (hr : MutL X.K c T r g) (ha : DA c W X (e :: es) t fs)
    (hN : X.N[i]? = some x := by rfl) (hv : Vis X.env.scope x := by first | exact Or.inl rfl | exact Or.inr (Or.inl rfl) | exact Or.inr (Or.inr rfl)) (hd : (x == ("__debug__" : Str)) = false := by decide) (hcd : (x == ("__classdict__" : Str)) = false := by decide)
    (hbase : attributeBase (.Name x pos2) name X.env (eval (.Name x pos2) X.env) = eval (.Name x pos2) X.env := by rfl)
    (hfew : ((backTo cpos (starEach (e :: es) X.env)).all (fun x => !x.1) && (backToKw cpos (keywordEach [] X.env)).all (fun x => x.1.isSome)
      && decide ((e :: es).length + ([] : List Keyword).length + (if ([] : List Keyword).isEmpty then 0 else 1) < 30)) = true := by rfl)
    (hline : (apos.endLine == cpos.line) = true := by rfl) (hs : starEach (e :: es) X.env = (false, eval e X.env) :: starEach es X.env := by rfl) (hplain : (backTo cpos (starEach es X.env)).any (·.1) = false := by rfl) :
    DE c W X (.Call (.Attribute (.Name x pos2) name apos) (e :: es) [] cpos) (tBM X.K T r (tVar i) t) (xMut i T g fs) :=
  ⟨pe_bm pa slot hty hm (pe_var hN hv hd hcd) ha.pe hbase hfew hline hs hplain, SE.mut hr ha.se⟩
theorem dMut0 {T id : String} {name : Str} {r : V → List V → Hp → VK → Prop} {g : D → List D → Option (D × D)} (i : Nat) {x : Str} (pa : PlainAttrs T) (slot : Slot T name id) (hty : typeOf (.builtin id) = pure (.type "method_descriptor")) (hm : MtR X id r) (hr : MutL X.K c T r g)
    (hN : X.N[i]? = some x := by rfl) (hv : Vis X.env.scope x := by first | exact Or.inl rfl | exact Or.inr (Or.inl rfl) | exact Or.inr (Or.inr rfl)) (hd : (x == ("__debug__" : Str)) = false := by decide) (hcd : (x == ("__classdict__" : Str)) = false := by decide)
    (hbase : attributeBase (.Name x pos2) name X.env (eval (.Name x pos2) X.env) = eval (.Name x pos2) X.env := by rfl) (hline : (apos.endLine == cpos.line) = true := by rfl) :
    DE c W X (.Call (.Attribute (.Name x pos2) name apos) [] [] cpos) (tBM0 X.K T r (tVar i)) (xMut i T g xs0) :=
  ⟨pe_bm0 pa slot hty hm (pe_var hN hv hd hcd) hbase hline, SE.mut0 hr⟩
end
end DS

namespace DS
open PySem PySem.Spec L2
section
variable {K : PySem.W.Frag} {c : Cf} {W : WX} {X : Cx} {pos pos' pos2 apos cpos tpos : Pos} {G : Gd} {E E' : En} {σ : St} {H : Hp}
variable {a b e o : Expr} {es : List Expr} {ta tb te to : TE} {f1 f2 f : XE} {t : TA} {fs : XA} {st : Stmt} {rest s1 s2 : List Stmt} {t1 t2 : TS} {g1 g2 : XS} {tc : TT} {fc : XT}
/-! ### statements -/
theorem ss0 : DSs c W X [] tNext sNext := ⟨pss_nil, SS.next⟩
theorem ss1 (h : DS1 c W X st t1 g1) : DSs c W X [st] t1 g1 := ⟨pss_one h.ps, h.se⟩
theorem ss (h : DS1 c W X st t1 g1) (hr : DSs c W X rest t2 g2) : DSs c W X (st :: rest) (tSeq t1 t2) (sSeq g1 g2) := ⟨pss_cons h.ps hr.ps, SS.seq h.se hr.se⟩
theorem sPass : DS1 c W X (.Pass pos) tNext sNext := ⟨ps_pass, SS.next⟩
theorem sBreak : DS1 c W X (.Break pos) tBreak sBrk := ⟨ps_break, SS.brk⟩
theorem sContinue : DS1 c W X (.Continue pos) tCont sCnt := ⟨ps_continue, SS.cnt⟩
theorem sDoc {x j} : DS1 c W X (.Expr (.Constant (.str x) j pos) pos') tNext sNext := ⟨ps_doc, SS.next⟩
theorem sE (he : DE c W X e te f) (hs : swapsWith e none pos.line X.env = pure false := by rfl) : DS1 c W X (.Expr e pos) (tDrop te) (sExp f) := ⟨ps_expr he.pe hs, SS.exp he.se⟩
theorem sR (he : DE c W X e te f) : DS1 c W X (.Return (some e) pos) (tRet te) (sRet f) := ⟨ps_ret he.pe, SS.ret he.se⟩
theorem sR0 : DS1 c W X (.Return none pos) tRetN sRetN := ⟨ps_retN, SS.retN⟩
theorem sI {cnd : Expr} (hc : DT c W X cnd tc fc) (h1 : DSs c W X s1 t1 g1) (h2 : DSs c W X s2 t2 g2) : DS1 c W X (.If cnd s1 s2 pos) (tIfS tc t1 t2) (sIf fc g1 g2) := ⟨ps_if hc.pe h1.ps h2.ps, SS.ifS hc.se h1.se h2.se⟩
theorem sS (i : Nat) {x : Str} (nd : X.N.Nodup) (he : DE c W X e te f) (hi : X.N[i]? = some x := by rfl) (hx : Loc X.env.scope x := by first | exact Or.inl rfl | exact Or.inr rfl) (hs : swapsWith e (some (.Name x pos')) pos.line X.env = pure false := by rfl) (hf : X.fn x = true ∨ X.env.scope.names.lookup x = some .local := by first | exact .inl rfl | exact .inr rfl) :
    DS1 c W X (.Assign [.Name x pos'] e pos) (tAsg te (gName i)) (sSet i f) := ⟨ps_set nd hi hx he.pe hs hf, SS.set he.se⟩
/-! targets -/
theorem gN (i : Nat) {x : Str} (nd : X.N.Nodup) (hi : X.N[i]? = some x := by rfl) (hx : Loc X.env.scope x := by first | exact Or.inl rfl | exact Or.inr rfl) (hf : X.fn x = true ∨ X.env.scope.names.lookup x = some .local := by first | exact .inl rfl | exact .inr rfl) : DG c X (.Name x pos) (gName i) [i] (gSlot i) := ⟨pg_name nd hi hx hf, SG.slot⟩
theorem g0 : DGs c X [] gNil [] gNilD := ⟨pgs_nil, SGs.nil⟩
theorem gC {tg : TG} {tgs : TGs} {is js : List Nat} {xg : XG} {xgs : List D → En → Option En} (h1 : DG c X e tg is xg) (h2 : DGs c X es tgs js xgs) (hs : (assignEach (e :: es) X.env).map (·.2) = assign e X.env :: (assignEach es X.env).map (·.2) := by rfl) : DGs c X (e :: es) (gCons tg tgs) (is ++ js) (gConsD xg xgs) := ⟨pgs_cons h1.pg h2.pg hs, SGs.cons h1.se h2.se⟩
theorem gT {k n : Nat} {tgs : TGs} {is : List Nat} {xgs : List D → En → Option En} (h : DGs c X es tgs is xgs) (hc : X.calm = true := by rfl) (hn : (assignEach es X.env).length = n := by rfl) (hst : (assignEach es X.env).findIdx? (·.1) = none := by rfl) : DG c X (.Tuple es k pos) (gTup X.K n tgs) is (gTupD n xgs) := ⟨pg_tup hc h.pg hn hst, SG.tup h.se⟩
theorem sA {tg : Expr} {g : TG} {is : List Nat} {xg : XG} (he : DE c W X e te f) (hg : DG c X tg g is xg) (hs : swapsWithSole [tg] e pos.line X.env = pure false := by rfl) (hw : swappedStores [tg] e X.env = pure none := by rfl) (h1 : (assignEach [tg] X.env).map (·.2) = [assign tg X.env] := by rfl) :
    DS1 c W X (.Assign [tg] e pos) (tAsg te g) (sAsg f xg) := ⟨ps_asg he.pe hg.pg hs hw h1, SS.asg he.se hg.se⟩
/-! a, b = x, y -/
def sPar (i j : Nat) (fs : XA) : XS := fun E => (fs E).out fun p => (Res.of (shares p.2 p.1)).out fun q => match q.1 with
  | [d1, d2] => if (free q.2 i && free q.2 j) = true then .nx ((q.2.set i (some (.sh, d1))).set j (some (.sh, d2))) else .fail
  | _ => .fail
theorem sP (i j : Nat) {x y : Str} {px py pt : Pos} {kt k2 pt2} (nd : X.N.Nodup) (ha : DA c W X [a, b] t fs) (hc : X.calm = true := by rfl) (hi : X.N[i]? = some x := by rfl) (hj : X.N[j]? = some y := by rfl) (hij : i ≠ j := by decide)
    (hx : X.env.scope.names.lookup x = some .local := by rfl) (hy : X.env.scope.names.lookup y = some .local := by rfl)
    (hw : swappedStores [.Tuple [.Name x px, .Name y py] kt pt] (.Tuple [a, b] k2 pt2) X.env = pure (some [x, y]) := by rfl) (hs : swapsWithSole [.Tuple [.Name x px, .Name y py] kt pt] (.Tuple [a, b] k2 pt2) pos.line X.env = pure false := by rfl) :
    DS1 c W X (.Assign [.Tuple [.Name x px, .Name y py] kt pt] (.Tuple [a, b] k2 pt2) pos) (tPar i j t) (sPar i j fs) := by
  refine ⟨ps_par hc nd hi hj hij hx hy ha.pe hw hs, fun G E σ H B I h => ?_⟩
  refine ha.se G E σ H _ I (h.bind fun p hp vs H1 I1 r1 => ?_)
  obtain ⟨⟨ds, E2⟩, e2, hq⟩ := hp.of
  obtain ⟨I2, R2, _⟩ := I1.shares r1 e2
  match ds, e2, hq, R2 with
  | [d1, d2], e2, hq, R2 =>
    have hq' : OkS X.K c G W B (if (free E2 i && free E2 j) = true then .nx ((E2.set i (some (.sh, d1))).set j (some (.sh, d2))) else .fail) := hq
    by_cases hf : (free E2 i && free E2 j) = true
    · rw [if_pos hf] at hq'
      obtain ⟨v, ws, rfl, rv, rn⟩ := R2.inv_cons
      obtain ⟨w, ws', rfl, rw', rn'⟩ := rn.inv_cons
      obtain rfl := rn'.inv_nil
      refine ⟨v, w, rfl, hq' _ H1 ?_⟩
      have J := ((I2.addT rw').putS (i := i) rv)
      exact (J.unT.putS (i := j) J.pinT)
    · rw [if_neg hf] at hq'
      exact hq'.elim
/-! loops -/
theorem sW (n : Nat) {cnd : Expr} (hp : PassesOwn (model X.prog X.w) X.A X.env X.xe) (hc : DT c W X cnd tc fc) (hb : DSs c W X s1 t1 g1) : DS1 c W X (.While cnd s1 [] pos) (tWhile tc t1) (whl fc g1 n) := ⟨ps_while hp hc.pe hb.ps, SS.whl hc.se hb.se⟩
theorem sF {tg iter : Expr} {wi : TI} {fi : XI} {g : TG} {is : List Nat} {xg : XG} (hp : PassesOwn (model X.prog X.w) X.A X.env X.xe) (hi : DIt c W X tg iter wi fi) (hg : DG c X tg g is xg) (hb : DSs c W X s1 t1 g1) (hc : X.calm = true := by rfl)
    (hs : ∀ x, foldedSetIterable iter X.env x = pure x := by intro _; rfl) : DS1 c W X (.For tg iter s1 [] pos) (tFor wi g t1) (sFor fi xg g1) := ⟨ps_for hp hc hi.pi hg.pg hb.ps hs, SS.forS hi.se hg.se hb.se⟩
theorem iS {tg : Expr} (he : DE c W X e te f) : DIt c W X tg e (iSeq X.K te) (xiSeq f) := ⟨pi_seq he.pe, SI.seq he.se⟩
def xiRng1 (fs : XA) : XI := fun E => (fs E).bind fun p => (Res.of (dats p.2 p.1)).bind fun ds => match ds with
  | [.int j] => if inR j = true then .ok (rngD 0 j.toNat, p.2) else .fail
  | _ => .fail
def xiRng2 (fs : XA) : XI := fun E => (fs E).bind fun p => (Res.of (dats p.2 p.1)).bind fun ds => match ds with
  | [.int i, .int j] => if (inR i && inR j) = true then .ok (rngD i (j - i).toNat, p.2) else .fail
  | _ => .fail
theorem iR1 {tg : Expr} {p : Pos} (hm : X.mg "range" = none) (ha : DA c W X [a] t fs) (hg : Gl X "range" := by rfl) (hs : starEach [a] X.env = [(false, eval a X.env)] := by rfl) : DIt c W X tg (.Call (.Name "range" p) [a] [] pos) (iRng1 t) (xiRng1 fs) := ⟨pi_range1 hg hm ha.pe hs, SI.rng1 ha.se⟩
theorem iR2 {tg : Expr} {p : Pos} (hm : X.mg "range" = none) (ha : DA c W X [a, b] t fs) (hg : Gl X "range" := by rfl) (hs : starEach [a, b] X.env = [(false, eval a X.env), (false, eval b X.env)] := by rfl) (hs2 : starEach [b] X.env = [(false, eval b X.env)] := by rfl) : DIt c W X tg (.Call (.Name "range" p) [a, b] [] pos) (iRng2 t) (xiRng2 fs) := ⟨pi_range2 hg hm ha.pe hs hs2, SI.rng2 ha.se⟩
theorem iE {p tp : Pos} {elts : List Expr} {kk : Nat} (hm : X.mg "enumerate" = none) (ha : DA c W X [a] t fs) (hg : Gl X "enumerate" := by rfl) (hs : starEach [a] X.env = [(false, eval a X.env)] := by rfl) : DIt c W X (.Tuple elts kk tp) (.Call (.Name "enumerate" p) [a] [] pos) (iEnum X.K t) (xiEnum fs) := ⟨pi_enum hg hm ha.pe hs, SI.enum ha.se⟩
theorem iZ {p tp : Pos} {elts : List Expr} {kk : Nat} (hm : X.mg "zip" = none) (ha : DA c W X [a, b] t fs) (hg : Gl X "zip" := by rfl) (hs : starEach [a, b] X.env = (false, eval a X.env) :: starEach [b] X.env := by rfl) (hpl : (backTo pos (starEach [b] X.env)).any (·.1) = false := by rfl) : DIt c W X (.Tuple elts kk tp) (.Call (.Name "zip" p) [a, b] [] pos) (iZip X.K t) (xiZip fs) := ⟨pi_zip hg hm ha.pe hs hpl, SI.zip ha.se⟩
/-! comprehensions -/
structure DTs (c : Cf) (W : WX) (X : Cx) (ifs : List Expr) (t : TT) (f : XT) : Prop where
  pe : PTs X ifs t
  se : SF X.K c W t f
def xYes : XT := fun E => .ok (true, E)
theorem ts0 : DTs c W X [] tYes xYes := ⟨pts_nil, fun G E σ H Q I h => h H I⟩
theorem ts1 {cnd : Expr} (h : DT c W X cnd tc fc) : DTs c W X [cnd] tc fc := ⟨pts_one h.pe, h.se⟩
theorem dLc {elt tg iter : Expr} {ifs : List Expr} {scope : Scope} {own : List (Str × Nat)} {wi : TI} {fi : XI} {g : TG} {is : List Nat} {xg : XG} {tt : TT} {ft : XT} (nd : X.N.Nodup) (hi : DIt c W X tg iter wi fi) (ok : BlkOk X.N X.env.scope scope own)
    (hg : ∀ (s : Shared) (H : Hp) (C : Addr) (cl : List (Str × Addr)) (fp : List Addr), DG c (X.blk s H scope (compEnvC scope cl C X.env) fp) tg g is xg) (ht : ∀ (s : Shared) (H : Hp) (C : Addr) (cl : List (Str × Addr)) (fp : List Addr), DTs c WF (X.blk s H scope (compEnvC scope cl C X.env) fp) ifs tt ft)
    (he : ∀ (s : Shared) (H : Hp) (C : Addr) (cl : List (Str × Addr)) (fp : List Addr), DE c WF (X.blk s H scope (compEnvC scope cl C X.env) fp) elt te f) (hs : ∀ x, foldedSetIterable iter X.env x = pure x := by intro _; rfl) (his : ∀ i ∈ is, i ∈ own.map (·.2) := by decide) (hc : X.calm = true := by rfl)
    : DE c W X (.ListComp elt [⟨tg, iter, ifs, 0⟩] scope pos) (tLc wi g tt te (own.map (·.2))) (xLc fi xg ft f (own.map (·.2))) :=
  ⟨pe_lc hc nd hi.pi ok (fun s H C cl fp => (hg s H C cl fp).pg) (fun s H C cl fp => (ht s H C cl fp).pe) (fun s H C cl fp => (he s H C cl fp).pe) hs,
    SE.lc hi.se (hg X.s_0 X.H_0 0 [] []).se his (ht X.s_0 X.H_0 0 [] []).se (he X.s_0 X.H_0 0 [] []).se⟩
theorem sLc (i : Nat) {y : Str} {py spos : Pos} {elt tg iter : Expr} {ifs : List Expr} {scope : Scope} {own : List (Str × Nat)} {wi : TI} {fi : XI} {g : TG} {is : List Nat} {xg : XG} {tt : TT} {ft : XT} (nd : X.N.Nodup) (hi : DIt c W X tg iter wi fi) (ok : BlkOk X.N X.env.scope scope own)
    (hg : ∀ (s : Shared) (H : Hp) (C : Addr) (cl : List (Str × Addr)) (fp : List Addr), DG c (X.blk s H scope (compEnvC scope cl C X.env) fp) tg g is xg) (ht : ∀ (s : Shared) (H : Hp) (C : Addr) (cl : List (Str × Addr)) (fp : List Addr), DTs c WF (X.blk s H scope (compEnvC scope cl C X.env) fp) ifs tt ft)
    (he : ∀ (s : Shared) (H : Hp) (C : Addr) (cl : List (Str × Addr)) (fp : List Addr), DE c WF (X.blk s H scope (compEnvC scope cl C X.env) fp) elt te f) (hs : ∀ x, foldedSetIterable iter X.env x = pure x := by intro _; rfl) (his : ∀ i ∈ is, i ∈ own.map (·.2) := by decide) (hc : X.calm = true := by rfl)
    (hy : X.N[i]? = some y := by rfl) (hyl : X.env.scope.names.lookup y = some .local := by rfl)
    (hsw : swapsWith (.ListComp elt [⟨tg, iter, ifs, 0⟩] scope pos) (some (.Name y py)) spos.line X.env = pure true := by exact sw_true rfl rfl rfl (by decide +kernel)) :
    DS1 c W X (.Assign [.Name y py] (.ListComp elt [⟨tg, iter, ifs, 0⟩] scope pos) spos) (tAsg (tLc wi g tt te (own.map (·.2))) (gName i)) (sSet i (xLc fi xg ft f (own.map (·.2)))) :=
  ⟨ps_setLc hc nd hy hyl hsw hi.pi ok (fun s H C cl fp => (hg s H C cl fp).pg) (fun s H C cl fp => (ht s H C cl fp).pe) (fun s H C cl fp => (he s H C cl fp).pe) hs,
    SS.set (SE.lc hi.se (hg X.s_0 X.H_0 0 [] []).se his (ht X.s_0 X.H_0 0 [] []).se (he X.s_0 X.H_0 0 [] []).se)⟩

/-! ### calls of defs -/
theorem dCall {k : Nat} {f : Addr} {fd : FuncData} {ps : List Str} {x : Str} {p : Pos} {F : FS} (tk : Takes X W) (Fn : FnD X.prog X.w X.K X.mg X.base c k f fd ps F) (hr : Room k X.A) (hm : X.mg x = some (.ref f)) (hk : PySem.W.keepIn X.K (.ref f) = true) (hb : Binds X.K fd ps [])
    (ha : DA c W X (e :: es) t fs) (hg : Gl X x := by rfl) (hdb : (x == ("__debug__" : Str)) = false := by decide) (he : starEach (e :: es) X.env = (false, eval e X.env) :: starEach es X.env := by rfl) (hpl : (backTo pos (starEach es X.env)).any (·.1) = false := by rfl) :
    DE c W X (.Call (.Name x p) (e :: es) [] pos) (tCallS (spD X.K c ps.length F) (WE W) t) (xCallN ps.length F fs) :=
  ⟨pe_callS Fn hr hg hm hk hb (fun σ => passAt tk σ) ha.pe hdb he hpl, SE.call ha.se⟩

/-! ### errors -/
/-- N.__init__(self, ..), N an own class without an __init__, over ValueError -/
theorem pe_neinit {pl : Sem Bool} {N : Str} {C0 : Addr} {mc : Value} {ta : TA} {p1 p2 : Pos} (hg : Gl X N) (hm : X.mg N = some (.ref C0)) (hsp : PySem.W.specialIn X.K (.ref C0) "__getattribute__" = some (some (.builtin "type.__getattribute__"))) (hr : PySem.W.readsIn X.K C0 mc = true)
    (vV : PySem.W.findCls X.K (.ref C0) mc "__init__" = some (.val (.builtin "ValueError.__init__"))) (ha : PA X (e :: es) ta)
    (hc : eval (.Call (.Attribute (.Name N p1) "__init__" p2) (e :: es) [] pos) X.env = (do
      let ov ← eval (.Name N p1) X.env
      standAt p2.atName
      let (f, first) ← holding [ov] (getMethod ov "__init__" pl)
      callWith pos f first (backTo pos (starEach (e :: es) X.env)) (backToKw pos (keywordEach [] X.env))) := by rfl)
    (hd : (N == ("__debug__" : Str)) = false := by decide) (he : starEach (e :: es) X.env = (false, eval e X.env) :: starEach es X.env := by rfl) (hpl : (backTo pos (starEach es X.env)).any (·.1) = false := by rfl) :
    PE X (.Call (.Attribute (.Name N p1) "__init__" p2) (e :: es) [] pos) (tVeI X.K ta) := by
  refine ⟨fun pins s σ H Q I h => ?_⟩
  refine PySem.W.methodCall_KW (ld_glob I hg hm ?_ hd) hc
  refine PySem.W.method_cls I.kIn hsp (PySem.W.cls_value I.kIn hr vV (by decide +kernel) ?_)
  show wpAny _ _ (callWith pos (Value.builtin "ValueError.__init__") [] (backTo pos (starEach (e :: es) X.env)) []) _ _ _
  refine PyProof.Rows.callWith_method1 (thn (ha.run pos pins _ σ H _ (I.tok _) h) fun us s1 ⟨vs, H1, I1, r1, a, C, ws, ev, hl, T, ea, q⟩ => ?_) he hpl
  subst ev
  cases r1 with
  | @cons _ u0 _ ur ra rw' =>
    obtain rfl : u0 = Value.ref a := ra
    have hlen : ur.length ≤ sizeLine := by
      rw [← Paired.length rw', sizeLine_eq]
      omega
    exact oinit_ok T I1 ea hlen fun s' J => ⟨.non, H1, J, rfl, q⟩
/-- the promise of such a class's __init__, which keeps its argument in the field f -/
def spErr (f : Str) (ok : V → Prop) (K : PySem.W.Frag) : Sp := fun vs H Q _ => ∃ a C v, vs = [.ref a, v] ∧ OexC K C ∧ PySem.W.findIn K (.ref C) f = some none ∧ H a = some (exo a C none) ∧ ok v ∧
  ∀ dx, H dx = none → dx ≠ a → Q .non (upd (upd H dx (exd dx [(f, v)])) a (exo a C (some dx)))
/-- what an error may bear -/
def bear : D → Option V
  | .str x => if x.length ≤ 1000 then some (.str x) else none
  | .int i => some (.int i)
  | _ => none
def sRaise (k : Nat) (f : XE) : XS := fun E => (f E).out fun p => (Res.of (dat p.2 p.1)).out fun d => (Res.of (bear d)).out fun v => .ex k v p.2
theorem Vw.bear {K : PySem.W.Frag} {Z : Addr → Prop} {H : Hp} {x v : V} {d : D} (r : Vw K c Z H x d) (h : DS.bear d = some v) : x = v := by
  cases d with
  | str z =>
    obtain ⟨_, rfl⟩ := of_if (show (if z.length ≤ 1000 then some (V.str z) else none) = some v from h)
    exact r.str
  | int i => cases h; exact r.int
  | _ => cases h
end
end DS

namespace DS
open PySem PySem.Spec L2
section
variable {K : PySem.W.Frag} {c : Cf} {W : WX} {X : Cx} {pos pos' pos2 apos cpos tpos np : Pos} {G : Gd} {E E' : En} {σ : St} {H : Hp}
variable {e : Expr} {te : TE} {f : XE}
abbrev okS (v : V) : Prop := ∃ x : Str, v = .str x ∧ x.length ≤ 1000
def rAddS : R2 := fun x y H Q => ∃ i j, x = .str i ∧ y = .str j ∧ i.length + j.length ≤ sizeLine ∧ Q (.str (i ++ j)) H
theorem op_addS : OpR X (binaryOp .Add) rAddS := op_add_str
/-- the body of such an __init__ -/
theorem err_read {lit fl : Str} {N : List Str} {vs : List V} {Q : VK} {EX : XK} (hl : lit.length ≤ 1000) (hN : 2 ≤ N.length) (h : spErr fl okS K vs H Q EX) :
    tSeq (tDrop (tVeI K (tCons (tVar 0) (tCons (tOp rAddS (tC (.str lit)) (tVar 1)) tNil)))) (tOst K fl (tVar 0) (tVar 1)) { nx := fun _ H' => Q .non H', rt := Q } (L2.start N vs) H := by
  obtain ⟨a, C, v, rfl, T, no, ha, ⟨x, rfl, hx⟩, k⟩ := h
  refine ⟨.ref a, rfl, .str x, rfl, lit, x, rfl, rfl, ?_, a, C, _, rfl, ?_, T, ha, ?_⟩
  · rw [sizeLine_eq]; omega
  · show 1 ≤ 1000; decide
  · exact ⟨.str x, rfl, .ref a, rfl, a, C, rfl, T, no, .inl ⟨ha, k⟩⟩
/-- the facts of an own class of errors -/
structure ErrC (K : PySem.W.Frag) (c : Cf) (k : Nat) : Prop where
  oex : OexC K (c.cl k)
  xf : XfC K (c.cl k)
  no : PySem.W.findIn K (.ref (c.cl k)) (c.xf k) = some none
theorem sRz (k : Nat) {kk : Nat} {x : Str} {p : Pos} {fI : Addr} {fd : FuncData} {ps : List Str} (tk : Takes X W) (T : ErrC X.K c k) (iC : PySem.W.findIn X.K (.ref (c.cl k)) "__init__" = some (some (.ref fI))) (tI : PySem.W.typeIn X.K (.ref fI) = some (.type "function"))
    (F1 : FnOk X.prog X.w X.K X.mg X.base (L2.CX X.prog X.w) kk fI fd ps (spErr (c.xf k) okS X.K)) (hr : Room (kk + 1) X.A) (hb : Binds X.K fd ps []) (hm : X.mg x = some (.ref (c.cl k))) (he : DE c W X e te f)
    (hg : Gl X x := by rfl) (hc : X.calm = true := by rfl) (hdb : (x == ("__debug__" : Str)) = false := by decide) (hst : starEach [e] X.env = (false, eval e X.env) :: starEach [] X.env := by rfl) (hpl : (backTo pos (starEach [] X.env)).any (·.1) = false := by rfl) :
    DS1 c W X (.Raise (some (.Call (.Name x p) [e] [] pos)) none pos') (fun _ σ H => tMkO (c.cl k) (spErr (c.xf k) okS X.K) [] (tCons te tNil) σ H fun cls d H' => W cls d σ H') (fun E => (f E).out fun p => (Res.of (dat p.2 p.1)).out fun d => match d with
      | .str z => if z.length ≤ 1000 then .ex k (.str z) p.2 else .fail
      | _ => .fail) := by
  refine ⟨ps_raise hc tk (pmk_oex T.oex iC tI F1 hr hb .nil passL hg hm (pa_cons he.pe pa_nil hst) hdb hst hpl), ?_⟩
  intro G E σ H B I h
  refine he.se G E σ H _ I (h.bind fun p hp v H1 I1 r1 => ?_)
  obtain ⟨d, ed, hq⟩ := hp.of
  cases d with
  | str z =>
    have hq' : OkS X.K c G W B (if z.length ≤ 1000 then .ex k (.str z) p.2 else .fail) := hq
    by_cases hz : z.length ≤ 1000
    · rw [if_pos hz] at hq'
      obtain rfl := (I1.vw r1 ed).str
      refine ⟨by show 1 ≤ 1000; decide, fun a ha => ⟨a, c.cl k, .str z, rfl, T.oex, T.no, upd_same, ⟨z, rfl, hz⟩, fun dx hdx ne => ?_⟩⟩
      have hdx1 : H1 dx = none := by rw [upd_ne ne] at hdx; exact hdx
      have e1 : (upd (upd (upd H1 a (exo a (c.cl k) none)) dx (exd dx [(c.xf k, .str z)])) a (exo a (c.cl k) (some dx))) dx = some (exd dx [(c.xf k, .str z)]) := by rw [upd_ne ne, upd_same]
      refine ⟨rfl, dx, _, upd_same, e1, hdx1, ?_⟩
      have eH : upd (L2.del (upd (upd (upd H1 a (exo a (c.cl k) none)) dx (exd dx [(c.xf k, .str z)])) a (exo a (c.cl k) (some dx))) a) dx (.xd [(c.xf k, .str z)]) = upd H1 dx (.xd [(c.xf k, .str z)]) := by
        funext b
        by_cases hb : b = dx
        · rw [hb, upd_same, upd_same]
        · rw [upd_ne hb, upd_ne hb]
          by_cases hba : b = a
          · rw [hba, del_same, ha]
          · rw [del_ne hba, upd_ne hba, upd_ne hb, upd_ne hba]
      rw [eH]
      exact hq' σ dx _ (I1.alloc hdx1) upd_same
    · rw [if_neg hz] at hq'
      exact hq'.elim
  | _ => exact hq.elim

/-! ### try .. except C as n: suite -/
def Out.gone (i : Nat) : Out → Out
  | .nx E => .nx (E.set i none)
  | .bk E => .bk (E.set i none)
  | .ct E => .ct (E.set i none)
  | o => o
def sTry (i nC : Nat) (ks : List Nat) (fb : XS) (fh : Nat → V → XS) : XS := fun E => match fb E with
  | .ex k v E' => if k < nC then (if k ∈ ks then (fh k v (E'.set i none)).gone i else .ex k v E') else .fail
  | o => o
theorem DI.unset {i : Nat} {x : Option V} (I : DI K c G E σ H) : DI K c G (E.set i none) (σ.set i x) H := I.weak (by simpa using I.ln) fun j b e => by
  rcases getElem?_set_some e with ⟨_, e', _⟩ | ⟨nj, e'⟩
  · cases e'
  · exact ⟨e', List.getElem?_set_ne nj⟩
/-- what a suite does, by data: the error's class k, what it bears v -/
def SH (K : PySem.W.Frag) (c : Cf) (W : WX) (i nC : Nat) (ts : Addr → Value → Option Addr → TS) (fh : Nat → V → XS) : Prop := ∀ (k : Nat) (v : V) (a dx : Addr) G E σ H B, k < nC → DI K c G E σ H → H dx = some (.xd [(c.xf k, v)]) → (i < σ.length → σ[i]? = some (some (.ref a))) → OkS K c G W B (fh k v E) → ts a (.ref (c.cl k)) (some dx) B σ H
theorem sTryAs (i nC : Nat) (ks : List Nat) {x n : Str} {cv : Value} {body suite : List Stmt} {b₀ : Stmt} {tb : WX → TS} {ts : Addr → Value → Option Addr → TS} {fb : XS} {fh : Nat → V → XS} (nd : X.N.Nodup) (hs : X.stack = X.env :: X.outer) (hf : X.env.frame = some X.env.locals) (hi : X.N[i]? = some n) (hln : X.env.kindOf n = some .local) (hc : Names X x cv) (tk : Takes X W)
    (hx : ∀ k, k < nC → PySem.W.exmOne X.K (.ref (c.cl k)) cv = some (decide (k ∈ ks)))
    (hb : ∀ (W : WX) (pn : List (Addr × Obj)) (xe : Value → Shared → Prop), Takes (X.tr pn xe) W → PassesOwn (model X.prog X.w) X.A X.env xe → PSs (X.tr pn xe) body (tb W))
    (hbs : ∀ W, SS X.K c W (tb W) fb)
    (hsu : ∀ (a : Addr) (oe : Obj) (cls : Value) (d : Option Addr) (pn : List (Addr × Obj)), Zc cls d oe → (∃ vs, oe.data = .fields vs) → PSs (X.suite a ((a, oe) :: pn)) (b₀ :: suite) (ts a cls d))
    (hh : SH X.K c WF i nC ts fh) (hnx : ∀ k v E, ∀ k' v' E', fh k v E ≠ .ex k' v' E') :
    DS1 c W X (.Try body [.ExceptHandler (some (.Name x np)) (some n) (b₀ :: suite) pos'] [] [] pos) (fun D σ H => tb (wAs X.K cv i ts W D) D σ H) (sTry i nC ks fb fh) := by
  refine ⟨ps_try_as hs hf nd hi hln hc tk (fun W pn xe t p => hb W pn xe t p) hsu, ?_⟩
  intro G E σ H B I h
  refine hbs _ G E σ H B I ?_
  have h' : OkS X.K c G W B (match fb E with
    | .ex k v E' => if k < nC then (if k ∈ ks then (fh k v (E'.set i none)).gone i else .ex k v E') else .fail
    | o => o) := h
  cases q : fb E with
  | nx E' => rw [q] at h'; exact h'
  | rt e E' => rw [q] at h'; exact h'
  | bk E' => rw [q] at h'; exact h'
  | ct E' => rw [q] at h'; exact h'
  | fail => rw [q] at h'; exact h'
  | ex k v E1 =>
    rw [q] at h'
    have h2 : OkS X.K c G W B (if k < nC then (if k ∈ ks then (fh k v (E1.set i none)).gone i else .ex k v E1) else .fail) := h'
    intro σ1 dx H1 I1 hd
    by_cases hk : k < nC
    · rw [if_pos hk] at h2
      refine ⟨_, hx k hk, fun hm a ha => ?_, fun hm => ?_⟩
      · rw [if_pos (of_decide_eq_true hm)] at h2
        refine hh k v a dx G (E1.set i none) (σ1.set i (some (.ref a))) H1 _ hk I1.unset hd (fun hl => List.getElem?_set_self (by simpa using hl)) ?_
        cases q2 : fh k v (E1.set i none) with
        | nx E2 => rw [q2] at h2; exact fun σ2 H2 I2 => h2 _ H2 I2.unset
        | bk E2 => rw [q2] at h2; exact fun σ2 H2 I2 => h2 _ H2 I2.unset
        | ct E2 => rw [q2] at h2; exact fun σ2 H2 I2 => h2 _ H2 I2.unset
        | rt e2 E2 => rw [q2] at h2; exact h2
        | ex k2 v2 E2 => exact absurd q2 (hnx _ _ _ _ _ _)
        | fail => rw [q2] at h2; exact h2
      · rw [if_neg (of_decide_eq_false hm)] at h2
        exact h2 σ1 dx H1 I1 hd
    · rw [if_neg hk] at h2
      exact h2.elim
/-! n.f in a suite, whatever the class -/
def tXfA (K : PySem.W.Frag) (a : Addr) (cls : Value) (d : Option Addr) (n : Str) (te : TE) : TE := fun σ H Q => ∃ C, XfC K C ∧ PySem.W.findIn K (.ref C) n = some none ∧ tXf a cls d C n te σ H Q
theorem pe_xfA {a : Addr} {oe : Obj} {cls : Value} {d : Option Addr} {pn : List (Addr × Obj)} {n : Str} (hz : Zc cls d oe) (hf : ∃ vs, oe.data = .fields vs) (he : PE (X.suite a ((a, oe) :: pn)) e te) (hb : attributeBase e n X.env (eval e X.env) = eval e X.env := by rfl) :
    PE (X.suite a ((a, oe) :: pn)) (.Attribute e n pos) (tXfA X.K a cls d n te) := by
  refine ⟨fun pins s σ H Q I h => ?_⟩
  obtain ⟨C, T, no, h⟩ := h
  exact (pe_xf T no hz hf he hb).run pins s σ H Q I h
/-- what an error bears, as data -/
def V.dd : V → D
  | .str x => .str x
  | .int i => .int i
  | .bl b => .bl b
  | _ => .non
/-- return n.f -/
def shRet (xf : Nat → Str) (n : Str) : Nat → V → XS := fun k v E => if xf k = n then (match v with
  | .str _ => .rt (.s (V.dd v)) E
  | .int _ => .rt (.s (V.dd v)) E
  | _ => .fail) else .fail
theorem sh_ret {i nC : Nat} {n : Str} (hE : ∀ k, k < nC → ErrC K c k) : SH K c W i nC (fun a cls d => tRet (tXfA K a cls d n (tVar i))) (fun k v E => if i < E.length then shRet c.xf n k v E else .fail) := by
  intro k v a dx G E σ H B hk I hd hs h
  have h0 : OkS K c G W B (if i < E.length then shRet c.xf n k v E else .fail) := h
  by_cases hl : i < E.length
  · rw [if_pos hl] at h0
    unfold shRet at h0
    by_cases hn : c.xf k = n
    · rw [if_pos hn] at h0
      subst hn
      refine ⟨c.cl k, (hE k hk).xf, (hE k hk).no, .ref a, hs (by rw [← I.ln]; exact hl), rfl, rfl, dx, _, v, rfl, hd, by simp, ?_⟩
      cases v with
      | str x => exact h0 _ σ H I (Rep.str x)
      | int x => exact h0 _ σ H I (Rep.int x)
      | _ => exact h0.elim
    · rw [if_neg hn] at h0
      exact h0.elim
  · rw [if_neg hl] at h0
    exact h0.elim
end
end DS

namespace DSL
open PySem
theorem args_sum2 (a b : Value) : argsOk "sum" ⟨[a, b], []⟩ := by unfold argsOk; kernel_rfl
theorem sub_ls : isSubtype (.type "list") (.type "str") = pure false := by rw [isSubtype_type]; kernel_rfl
theorem sub_lb : isSubtype (.type "list") (.type "bytes") = pure false := by rw [isSubtype_type]; kernel_rfl
theorem sub_la : isSubtype (.type "list") (.type "bytearray") = pure false := by rw [isSubtype_type]; kernel_rfl
abbrev lob (its : List Value) (n : Nat) : Obj := { cls := .type "list", data := .seq its.toArray n }
section
variable {prog : Program} {w : World} {A : Around} {R : Result → Shared → Prop} {I : Addr} {fp wr : List Addr} {n : Nat} {P : Nat → Value → Prop} {St : Nat → Heap → Prop}
theorem codeAny_sum_lists (W : Walks prog w A.in1 I fp wr n P St) (ra : Nat → Addr) (its : Nat → List Value) (nn : Nat → Nat) (hval : ∀ i v, P i v → v = .ref (ra i)) (S : Addr) (hSf : S ∉ fp)
    (hra : ∀ j, j < n → ra j ∉ wr ∧ ra j ≠ S) (tot : Nat → List Value) (ht : ∀ i, i < n → tot (i + 1) = tot i ++ its i) (hsz : ∀ i, i ≤ n → (tot i).length ≤ sizeLine) (hStl : ∀ i h, St i h → ∀ b ∈ fp, b < h.objs.size) :
    ∀ (k i : Nat) (s : Shared) (t : Addr) (c ct : Nat), n - i = k → i ≤ n → St i s.heap → s.heap.get? S = some { cls := .type "list", dict := none, data := .seq #[.ref t] c, slots := #[] } → t ∉ wr → t ≠ S →
    s.heap.get? t = some (lob (tot i) ct) → (∀ j, j < n → s.heap.get? (ra j) = some (lob (its j) (nn j))) →
    (∀ h' tk t' ct', (∀ b o, b ∉ wr → b ≠ S → s.heap.get? b = some o → h'.get? b = some o) → ((n - i = 0 → t' = t) ∧ (0 < n - i → S < t')) → h'.get? t' = some (lob (tot n) ct') → R (.ok (.ret (.ref t'))) { s with heap := h', toks := tk }) →
    codeAny (model prog w) A (.builtin "sum.loop" ⟨[.ref I, .ref S, rawInt 2, rawInt 0], []⟩) R s := by
  have hSw : S ∉ wr := fun h => hSf (W.sub _ h)
  intro k
  induction k with
  | zero =>
    intro i s t c ct hk hi hst hS htw htS htot hrow hR
    have hin : i = n := by omega
    subst hin
    refine codeAny_builtin F.entry_sum_loop ?_
    rw [Around.under_plainId F.plain_sum_loop _]
    show wpAny _ A.in1 (seqItems? (.ref S) >>= _) _ _ s
    refine wpAny_bind (wpAny_seqItems hS rfl ?_)
    show wpAny _ A.in1 (tryCatch (pyNext (.ref I)) _ >>= _) _ _ s
    refine wpAny_bind (wpAny_tryCatch (W.done s _ _ hst fun h' tk hk' => ?_))
    exact wpAny_pure (hR h' tk t ct (fun b o hbw _ e => hk' b o hbw e) ⟨fun _ => rfl, fun z => by omega⟩ (hk' t _ htw htot))
  | succ k ih =>
    intro i s t c ct hk hi hst hS htw htS htot hrow hR
    have hlt : i < n := by omega
    refine codeAny_builtin F.entry_sum_loop ?_
    rw [Around.under_plainId F.plain_sum_loop _]
    show wpAny _ A.in1 (seqItems? (.ref S) >>= _) _ _ s
    refine wpAny_bind (wpAny_seqItems hS rfl ?_)
    show wpAny _ A.in1 (tryCatch (pyNext (.ref I)) _ >>= _) _ _ s
    refine wpAny_bind (wpAny_tryCatch (W.item i s _ _ hlt hst fun v h' tk hP hst' hk' => ?_))
    obtain rfl := hval i v hP
    have hS' := hk' S _ hSw hS
    have ht' := hk' t _ htw htot
    have hr' := hk' (ra i) _ (hra i hlt).1 (hrow i hlt)
    show wpAny _ A.in1 ((holding [Value.ref (ra i)] (binaryOp .Add (.ref t) (.ref (ra i)))).attempt >>= _) _ _ _
    have hl1 : (tot i).toArray.size + (its i).toArray.size ≤ sizeLine := by
      have := hsz (i + 1) hlt
      rw [ht i hlt, List.length_append] at this
      simpa using this
    refine wpAny_bind (wpAny_attempt (wpAny_holding (PySem.P.add_list (s := { s with heap := h', toks := tk }) ht' hr' ?_ hl1)))
    have hSz : S < h'.objs.size := Heap.lt_size hS'
    have hS2 : (h'.push { cls := .type "list", data := .seq ((tot i).toArray ++ (its i).toArray) }).get? S = some { cls := .type "list", dict := none, data := .seq #[.ref t] c, slots := #[] } := Heap.get?_push_of_some _ hS'
    show wpAny _ A.in1 (updateSeq S (fun _ => #[.ref h'.objs.size]) >>= _) _ _ _
    refine wpAny_bind ?_
    refine wpAny_updateSeq hS2 rfl ?_
    have hS3 := Heap.get?_update_self (Obj.mapSeq fun _ => #[Value.ref h'.objs.size]) hS2 rfl
    refine wpAny_bind (wpAny_letGo ?_)
    refine wpAny_bind ?_
    have keepA : ∀ b o, b ≠ S → h'.get? b = some o → (((h'.push { cls := .type "list", data := .seq ((tot i).toArray ++ (its i).toArray) }).update S (Obj.mapSeq fun _ => #[Value.ref h'.objs.size])).update S (Obj.mapSeq fun _ => #[Value.ref h'.objs.size])).get? b = some o := fun b o nb e =>
      (Heap.get?_update_other _ _ (Ne.symm nb)).trans ((Heap.get?_update_other _ _ (Ne.symm nb)).trans (Heap.get?_push_of_some _ e))
    have hst3 := W.frame _ _ _ hst' fun b hb o e => keepA b o (fun z => hSf (by rw [← z]; exact hb)) e
    refine wpAny_updateSeq hS3 rfl (wpAny_pure ⟨plainId_quiet F.plain_sum_loop _, ih (i + 1) _ h'.objs.size _ 0 (by omega) hlt hst3 (Heap.get?_update_self _ hS3 rfl) ?_ (Nat.ne_of_gt hSz) ?_ ?_ ?_⟩)
    · exact fun z => Nat.lt_irrefl _ (hStl _ _ hst' _ (W.sub _ z))
    · have e1 : (h'.push { cls := .type "list", data := .seq ((tot i).toArray ++ (its i).toArray) }).get? h'.objs.size = some { cls := .type "list", data := .seq ((tot i).toArray ++ (its i).toArray) } := Heap.get?_push_size _ rfl
      have e2 : (tot i).toArray ++ (its i).toArray = (tot (i + 1)).toArray := by rw [ht i hlt]; simp
      rw [e2] at e1
      exact (Heap.get?_update_other _ _ (Nat.ne_of_lt hSz)).trans ((Heap.get?_update_other _ _ (Nat.ne_of_lt hSz)).trans (by rw [e2]; exact e1))
    · exact fun j hj => keepA _ _ (hra j hj).2 (hk' _ _ (hra j hj).1 (hrow j hj))
    · intro h'' tk'' t'' ct'' hk'' ht'' hg''
      refine hR h'' tk'' t'' ct'' (fun b o hbw hbS e => hk'' b o hbw hbS (keepA b o hbS (hk' b o hbw e))) ?_ hg''
      refine ⟨fun z => by omega, fun _ => ?_⟩
      by_cases z : n - (i + 1) = 0
      · rw [ht''.1 z]; exact hSz
      · exact ht''.2 (by omega)
end
section
variable {prog : Program} {w : World} {A : Around} {E : Value → Shared → Prop} {s : Shared}
theorem call_sum_lists {l l0 : Addr} {us : List Value} {Q : Value → Shared → Prop} (hh : A.handled = none) (hl : s.heap.IsList l us.toArray) (ra : Nat → Addr) (its : Nat → List Value) (nn : Nat → Nat) (hus : ∀ i, i < us.length → us[i]? = some (.ref (ra i))) (c0 : Nat) (st : List Value)
    (h0 : s.heap.get? l0 = some (lob st c0)) (hrow : ∀ j, j < us.length → s.heap.get? (ra j) = some (lob (its j) (nn j))) (tot : Nat → List Value) (t0 : tot 0 = st) (ht : ∀ i, i < us.length → tot (i + 1) = tot i ++ its i) (hsz : ∀ i, i ≤ us.length → (tot i).length ≤ sizeLine)
    (h : ∀ h' tk t' ct', (∀ b o, s.heap.get? b = some o → h'.get? b = some o) → ((us.length = 0 → t' = l0) ∧ (0 < us.length → s.heap.objs.size ≤ t')) → h'.get? t' = some (lob (tot us.length) ct') → Q (.ref t') { s with heap := h', toks := tk }) :
    wpAny (model prog w) A (call (.builtin "sum") [.ref l, .ref l0]) Q E s := by
  refine call_function_tree F.kind_sum F.plain_sum F.entry_sum (args_sum2 _ _) ?_
  unfold Builtin.«sum»
  simp only [List.length_cons, List.length_nil]
  rw [if_neg (by decide)]
  refine wpAny_bind (wpAny_of_eq (show Builtin.Builtins.bindParams "sum" ["start"] 0 ⟨[.ref l0], []⟩ = pure [some (.ref l0)] from rfl) ?_)
  have hlt : l < s.heap.objs.size := by obtain ⟨_, e, _⟩ := hl; exact Heap.lt_size e
  refine wpAny_bind (wpAny_pyIter_list hl ?_)
  obtain ⟨s2, es2⟩ : ∃ s2 : Shared, s2 = { s with heap := s.heap.push { cls := .type "list_iterator", data := .fields #[.ref l, .int 0 0] } } := ⟨_, rfl⟩
  show wpAny _ _ _ _ _ { s with heap := s.heap.push { cls := .type "list_iterator", data := .fields #[.ref l, .int 0 0] } }
  rw [← es2]
  have hI : s2.heap.IsListIter s.heap.objs.size l 0 := by rw [es2]; exact ⟨_, Heap.get?_push_size _ rfl, rfl, rfl⟩
  have hL : s2.heap.IsList l us.toArray := by rw [es2]; exact hl.push _
  have k2 : ∀ b o, s.heap.get? b = some o → s2.heap.get? b = some o := fun b o e => by rw [es2]; exact Heap.get?_push_of_some _ e
  have hTs : s2.TypeIs (.ref l0) "list" := ⟨_, k2 _ _ h0, rfl⟩
  have hI2 : s.heap.objs.size < s2.heap.objs.size := by obtain ⟨_, e, _⟩ := hI; exact Heap.lt_size e
  show wpAny _ _ (pure (Value.ref l0, (2 : Int)) >>= _) _ _ _
  refine wpAny_bind (wpAny_pure ?_)
  simp only [List.forIn_cons, List.forIn_nil]
  refine wpAny_bind (wpAny_bind (wpAny_bind (wpAny_isInstance (T := "list") (b := false) hTs sub_ls ?_)))
  simp only [Bool.false_eq_true, if_false]
  refine wpAny_pure (wpAny_bind (wpAny_bind (wpAny_isInstance (T := "list") (b := false) hTs sub_lb ?_)))
  simp only [Bool.false_eq_true, if_false]
  refine wpAny_pure (wpAny_bind (wpAny_bind (wpAny_isInstance (T := "list") (b := false) hTs sub_la ?_)))
  simp only [Bool.false_eq_true, if_false]
  refine wpAny_pure (wpAny_pure ?_)
  refine wpAny_bind (wpAny_newObj_type ?_)
  have kp : ∀ b o, s2.heap.get? b = some o → (s2.heap.push { cls := .type "list", data := .seq [Value.ref l0].toArray }).get? b = some o := fun b o e => Heap.get?_push_of_some _ e
  have W := Walks.list (prog := prog) (w := w) (A := A.in1) hh s.heap.objs.size l (Nat.ne_of_lt hlt) us.toArray
  have hsz' : us.toArray.size = us.length := by simp
  have lt0 : l0 < s.heap.objs.size := Heap.lt_size h0
  refine wpAny_pure ⟨plainId_quiet F.plain_sum_loop _, codeAny_sum_lists W ra its nn (fun i v hv => ?_) s2.heap.objs.size ?_ (fun j hj => ?_) tot (fun i hi => ht i (by simpa using hi)) (fun i hi => hsz i (by simpa using hi)) (fun i h hst b hb => ?_) us.toArray.size 0 _ l0 0 c0 rfl (Nat.zero_le _) ?_ (Heap.get?_push_size _ rfl) ?_ ?_ ?_ ?_ ?_⟩
  · have hi : i < us.length := by
      have := (Array.getElem?_eq_some_iff.mp hv).1
      simpa using this
    have e := hus i hi
    rw [← Array.getElem?_toList] at hv
    rw [show us.toArray.toList = us from rfl, e] at hv
    exact (Option.some.inj hv).symm
  · intro hm
    simp only [List.mem_cons, List.not_mem_nil, or_false] at hm
    rcases hm with z | z
    · exact Nat.ne_of_gt hI2 z
    · exact Nat.ne_of_gt (Nat.lt_trans hlt hI2) z
  · have hj' : j < us.length := by simpa using hj
    have := Heap.lt_size (hrow j hj')
    refine ⟨fun z => ?_, Nat.ne_of_lt (Nat.lt_trans this hI2)⟩
    simp only [List.mem_cons, List.not_mem_nil, or_false] at z
    exact Nat.ne_of_lt this z
  · simp only [List.mem_cons, List.not_mem_nil, or_false] at hb
    rcases hb with rfl | rfl
    · obtain ⟨_, e, _⟩ := hst.1; exact Heap.lt_size e
    · obtain ⟨_, e, _⟩ := hst.2; exact Heap.lt_size e
  · exact W.frame _ _ _ ⟨hI, hL⟩ fun b _ o e => kp b o e
  · intro z
    simp only [List.mem_cons, List.not_mem_nil, or_false] at z
    exact Nat.ne_of_lt lt0 z
  · exact Nat.ne_of_lt (Nat.lt_trans lt0 hI2)
  · rw [t0]; exact kp _ _ (k2 _ _ h0)
  · exact fun j hj => kp _ _ (k2 _ _ (hrow j (by simpa using hj)))
  · intro h' tk t' ct' hk ht' hg
    rw [hsz'] at hg
    have q := h h' tk t' ct' (fun b o e => hk b o (by simp only [List.mem_cons, List.not_mem_nil, or_false]; exact Nat.ne_of_lt (Heap.lt_size e)) (Nat.ne_of_lt (Nat.lt_trans (Heap.lt_size e) hI2)) (kp _ _ (k2 _ _ e))) ⟨fun z => ht'.1 (by rw [hsz']; omega), fun z => Nat.le_of_lt (Nat.lt_trans hI2 (ht'.2 (by rw [hsz']; omega)))⟩ hg
    rw [es2]
    exact q
end
end DSL
namespace DS
open PySem PySem.Spec L2
section
variable {K : PySem.W.Frag} {c : Cf} {X : Cx}
/-! ### sum(rows, start) of lists -/
def rSumL : List V → Hp → VK → Prop := fun vs H Q => ∃ (a b : Addr) (ras : List Addr) (xss : List (List V)) (st : List V), vs = [V.ref a, V.ref b] ∧ Rd H a (.lst (ras.map V.ref)) ∧ Rd H b (.lst st) ∧ ras.length = xss.length ∧ (∀ (i : Nat) r xs, ras[i]? = some r → xss[i]? = some xs → Rd H r (.lst xs)) ∧
  st.length + xss.flatten.length ≤ sizeLine ∧ (ras = [] → Q (.ref b) H) ∧ ∀ p, H p = none → Q (.ref p) (upd H p (.lst (st ++ xss.flatten)))
theorem take_flatten_succ {α : Type} (xss : List (List α)) (i : Nat) (h : i < xss.length) : (xss.take (i + 1)).flatten = (xss.take i).flatten ++ xss[i] := by
  rw [List.take_succ_eq_append_getElem h, List.flatten_append]
  simp
theorem flatten_take_le {α : Type} : ∀ (xss : List (List α)) (i : Nat), (xss.take i).flatten.length ≤ xss.flatten.length
  | [], i => by simp
  | x :: xss, 0 => by simp
  | x :: xss, i + 1 => by
    simp only [List.take_succ_cons, List.flatten_cons, List.length_append]
    have := flatten_take_le xss i
    omega
theorem vals_flatten {xss : List (List V)} {uss : List (List Value)} (h : Paired Vals xss uss) : Vals xss.flatten uss.flatten := by
  induction h with
  | nil => exact .nil
  | cons r t ih => exact r.append ih
theorem cr_sumL (hc : X.calm = true) : CallR X (.builtin "sum") rSumL := by
  intro pins s σ H vs us Q I r h
  obtain ⟨a, b, ras, xss, st, rfl, ha, hb, hl, hrow, hz, q0, q⟩ := h
  obtain ⟨u1, u2, rfl, r1, r2⟩ := r.two
  cases r1
  cases r2
  obtain ⟨z, its, n, rv, hlen, e⟩ := Inv.lstR I ha
  obtain ⟨z2, its2, n2, rv2, hlen2, e2⟩ := Inv.lstR I hb
  have hitl : its.length = ras.length := by rw [← hlen]; simp
  have eits : ∀ i, i < its.length → its[i]? = some (.ref (ras.getD i 0)) := fun i hi => by
    have hi' : i < ras.length := by omega
    obtain ⟨u, hu, ru⟩ := rv.get (i := i) (x := .ref ras[i]) (by simp [hi'])
    rw [hu]
    have : u = Value.ref ras[i] := ru
    rw [this]
    simp [hi']
  -- the rows
  have rows : ∀ xs' : List (List V), ∀ rs : List Addr, rs.length = xs'.length → (∀ (i : Nat) r xs, rs[i]? = some r → xs'[i]? = some xs → Rd H r (.lst xs)) → ∃ (uss : List (List Value)) (ns : List Nat), Paired Vals xs' uss ∧ ns.length = uss.length ∧ ∀ (i : Nat) (r : Addr) u n, rs[i]? = some r → uss[i]? = some u → ns[i]? = some n → s.heap.get? r = some (DSL.lob u n) := by
    intro xs'
    induction xs' with
    | nil => intro rs _ _; exact ⟨[], [], .nil, rfl, fun i r u n _ h => by simp at h⟩
    | cons x xs' ih =>
      intro rs hl' hr
      cases rs with
      | nil => simp at hl'
      | cons r rs =>
        obtain ⟨uss, ns, p1, p2, p3⟩ := ih rs (by simpa using hl') fun i r xs h1 h2 => hr (i + 1) r xs (by simpa using h1) (by simpa using h2)
        obtain ⟨_, u, n, rx, _, ex⟩ := Inv.lstR I (hr 0 r x rfl rfl)
        refine ⟨u :: uss, n :: ns, .cons rx p1, by simp [p2], fun i r' u' n' h1 h2 h3 => ?_⟩
        cases i with
        | zero =>
          simp at h1 h2 h3
          subst h1; subst h2; subst h3
          exact ex
        | succ i => exact p3 i r' u' n' (by simpa using h1) (by simpa using h2) (by simpa using h3)
  obtain ⟨uss, ns, pr, pn, hg⟩ := rows xss ras hl hrow
  have hul : uss.length = its.length := by rw [← Paired.length pr, hitl, hl]
  have vl : its2.length = st.length := hlen2.symm
  have vf := vals_flatten pr
  have hfl : uss.flatten.length = xss.flatten.length := (Paired.length vf).symm
  refine DSL.call_sum_lists (I.ok.hd hc) (us := its) ⟨_, e, rfl, n, rfl⟩ (fun i => ras.getD i 0) (fun i => uss.getD i []) (fun i => ns.getD i 0) eits n2 its2 e2 (fun j hj => ?_) (fun i => its2 ++ (uss.take i).flatten) (by simp) (fun i hi => ?_) (fun i hi => ?_) (fun h' tk t' ct' hk ht' hgt => ?_)
  · have h1 : j < ras.length := by omega
    have h2 : j < uss.length := by omega
    have h3 : j < ns.length := by omega
    have := hg j ras[j] uss[j] ns[j] (by simp [h1]) (by simp [h2]) (by simp [h3])
    simpa [h1, h2, h3] using this
  · have h2 : i < uss.length := by omega
    rw [take_flatten_succ uss i h2, List.append_assoc]
    simp [h2]
  · rw [List.length_append]
    have := flatten_take_le uss i
    omega
  · have ef : its2 ++ (uss.take its.length).flatten = its2 ++ uss.flatten := by rw [← hul, List.take_length]
    rw [ef] at hgt
    by_cases hr0 : ras = []
    · -- nothing is added: the start itself, or one more object
      have h0 : its.length = 0 := by rw [hitl, hr0]; rfl
      have hu0 : uss = [] := List.eq_nil_of_length_eq_zero (by omega)
      obtain rfl := ht'.1 h0
      exact ⟨.ref t', H, I.kept hk, rfl, q0 hr0⟩
    · have hts := ht'.2 (by
        rw [hitl]
        exact List.length_pos_iff.mpr hr0)
      have hn : H t' = none := I.hok.fresh hts
      exact ⟨.ref t', _, I.laid (t' := tk) (o := .lst (st ++ xss.flatten)) hk hts ⟨by rw [List.length_append]; exact hz, its2 ++ uss.flatten, ct', rv2.append vf, hgt⟩, rfl, q t' hn⟩
/-- the lists in a list -/
def rowsOf : List D → Option (List (List D))
  | [] => some []
  | .lst xs :: ds => (rowsOf ds).map (xs :: ·)
  | _ :: _ => none
theorem rowsOf_eq : ∀ {ds : List D} {xss : List (List D)}, rowsOf ds = some xss → ds = xss.map D.lst
  | [], xss, h => by cases h; rfl
  | d :: ds, xss, h => by
    cases d with
    | lst xs =>
      obtain ⟨ms, h1, rfl⟩ := Option.map_eq_some_iff.mp (show (rowsOf ds).map (xs :: ·) = some xss from h)
      rw [rowsOf_eq h1]
      rfl
    | _ => cases h
@[simp] theorem rowsOf_map (xss : List (List D)) : rowsOf (xss.map D.lst) = some xss := by
  induction xss with
  | nil => rfl
  | cons n ns ih => simp [rowsOf, ih]
theorem reps_rows {Z : Addr → Prop} {H : Hp} : ∀ {xss : List (List D)} {vs : List V}, Reps K c Z H vs (xss.map D.lst) → ∃ (ras : List Addr) (vss : List (List V)), vs = ras.map V.ref ∧ ras.length = vss.length ∧ (∀ (i : Nat) r xs, ras[i]? = some r → vss[i]? = some xs → Rd H r (.lst xs)) ∧ Reps K c Z H vss.flatten xss.flatten
  | [], vs, r => ⟨[], [], by rw [r.inv_nil]; rfl, rfl, fun i r xs h => by simp at h, .nil⟩
  | xs :: xss, vs, r => by
    obtain ⟨v, ws, rfl, h1, h2⟩ := r.inv_cons
    obtain ⟨a, us, rfl, hs, rs⟩ := (show Vw K c Z H v (.lst xs) from .inl h1).lst
    obtain ⟨ras, vss, rfl, hl, hr, hf⟩ := reps_rows h2
    refine ⟨a :: ras, us :: vss, rfl, by simp [hl], fun i r xs' q1 q2 => ?_, by simpa using rs.append hf⟩
    cases i with
    | zero =>
      simp at q1 q2
      subst q1; subst q2
      exact hs
    | succ i => exact hr i r xs' (by simpa using q1) (by simpa using q2)
def gSumL : List D → Option Ev
  | [.lst rows, .lst st] => (rowsOf rows).bind fun xss => if st.length + xss.flatten.length ≤ sizeLine then some (.s (.lst (st ++ xss.flatten))) else none
  | _ => none
theorem Vw.sh {Z : Addr → Prop} {H : Hp} {v : V} {d : D} (r : Vw K c Z H v d) : True := trivial
/-- here the start is written (a new list) or shared -/
def xSumL (f : XE) (st : XE) : XE := fun E => (f E).bind fun p => (st p.2).bind fun q => (Res.of (dat q.2 p.1)).bind fun a => match q.1 with
  | .o (.lst []) => (match a with
    | .lst rows => (Res.of (rowsOf rows)).bind fun xss => if xss.flatten.length ≤ sizeLine then .ok (.s (.lst xss.flatten), q.2) else .fail
    | _ => .fail)
  | _ => .fail
theorem dSumL {W : WX} {a b : Expr} {ta tb : TE} {f1 f2 : XE} {pos p : Pos} (hm : X.mg "sum" = none) (ha : DE c W X a ta f1) (hb : DE c W X b tb f2) (hg : Gl X "sum" := by rfl) (hc : X.calm = true := by rfl)
    (he : starEach [a, b] X.env = (false, eval a X.env) :: starEach [b] X.env := by rfl) (he2 : starEach [b] X.env = (false, eval b X.env) :: starEach [] X.env := by rfl) (hpl : (backTo pos (starEach [b] X.env)).any (·.1) = false := by rfl) :
    DE c W X (.Call (.Name "sum" p) [a, b] [] pos) (tCB rSumL (tCons ta (tCons tb tNil))) (xSumL f1 f2) := by
  refine ⟨pe_callB (cr_sumL hc) hg hm (by decide +kernel) (pa_cons ha.pe (pa_cons hb.pe pa_nil he2) he) (by decide) (by decide) he hpl, ?_⟩
  intro G E σ H Q I h
  refine ha.se G E σ H _ I (h.bind fun p hp v H1 I1 r1 => ?_)
  refine hb.se (hold G v p.1) p.2 σ H1 _ (I1.hold r1) (OkG.hold (OkG.bind hp fun q hq => hq) fun q hq => ?_)
  intro w H2 I2 r2
  obtain ⟨q1, E2⟩ := q
  obtain ⟨d, ed, hq⟩ := hq.of
  have A := DI.held r1 I2
  have J := I2.unhold
  have r3 := r2.unhold
  match q1, hq, r3 with
  | .o (.lst []), hq, r3 =>
    cases d with
    | lst rows =>
      obtain ⟨xss, ex, hq4⟩ := hq.of
      obtain rfl := rowsOf_eq ex
      by_cases hz : xss.flatten.length ≤ sizeLine
      · rw [if_pos hz] at hq4
        obtain ⟨x1, us, rfl, hs, rs⟩ := (J.vwA A ed).lst
        obtain ⟨ras, vss, rfl, hl, hr, hf⟩ := reps_rows rs
        have R3 := r3.rep_o
        obtain ⟨x2, st, rfl, hs2, rs2⟩ := (show Vw _ _ _ _ w (.lst []) from .inl R3).lst
        obtain rfl := rs2.inv_nil
        refine ⟨x1, x2, ras, vss, [], rfl, hs, hs2, hl, hr, by rw [hf.1]; simpa using hz, fun e => ?_, fun p hp => ?_⟩
        · subst e
          have : xss = [] := by
            have := rs.1
            simp at this
            exact List.eq_nil_of_length_eq_zero this.symm
          subst this
          exact hq4 _ H2 J R3
        · obtain ⟨J2, R⟩ := J.newS hp (.lst ([] ++ vss.flatten) xss.flatten) (by simpa using hf)
          exact hq4 _ _ J2 R
      · rw [if_neg hz] at hq4
        exact hq4.elim
    | _ => exact hq.elim

/-! ### a < b of data that are alike -/
def rLtD (K : PySem.W.Frag) : R2 := fun x y H Q => ∃ d e, Dp K H x d ∧ Dp K H y e ∧ PySem.W.alike d e = true ∧ d ≠ .none ∧ SeqAt.shaped d = true ∧ SeqAt.shaped e = true ∧ Q (.bl (PySem.W.dataLt d e)) H
theorem op_ltD (hu : X.A.units + 65 < cLine) : OpR X (compareOp .Lt) (rLtD X.K) := by
  intro pins s σ H x y v u Q I rx ry h
  obtain ⟨d, e, hd, he, al, nn, sd, se, q⟩ := h
  obtain ⟨as, r1⟩ := Dp.reads I d x v hd rx
  obtain ⟨bs, r2⟩ := Dp.reads I e y u he ry
  have h1 := SeqAt.depth_of_shaped sd
  have h2 : min d.depth e.depth ≤ d.depth := Nat.min_le_left _ _
  exact PySem.W.rcLt_alike d e X.A s v u as bs r1 r2 al nn (by omega) _ _ _ _ ⟨.bl _, H, I, rfl, q⟩
def gLtD (d1 d2 : D) : Option Ev := if (d1.shp && d2.shp && PySem.W.alike d1.pd d2.pd && !d1.isN) = true then some (.s (.bl (PySem.W.dataLt d1.pd d2.pd))) else none
theorem d_ltD (hu : X.A.units + 65 < cLine) : CmpD c X .Lt (rLtD X.K) gLtD := by
  refine ⟨op_ltD hu, fun G E σ H x y d1 d2 e Q I v1 v2 hg q => ?_⟩
  obtain ⟨hl, rfl⟩ := of_if hg
  simp only [Bool.and_eq_true, Bool.not_eq_true'] at hl
  obtain ⟨⟨⟨h1, h2⟩, h3⟩, h4⟩ := hl
  exact ⟨_, _, v1.dp (shp_plB h1), v2.dp (shp_plB h2), h3, (fun z => by cases d1 <;> simp_all [D.pd]), shaped_pd h1, shaped_pd h2, q _ H I RepE.t⟩
theorem toks_int (x : Int) (xs : List Int) : PySem.W.keyToksAll (D.pds ((x :: xs).map D.int)) = .inl 1 :: .inl x :: PySem.W.keyToksAll (D.pds (xs.map D.int)) := by
  simp [D.pds, D.pd, PySem.W.keyToksAll, PySem.W.keyToks]
/-- lists of ints by their signs -/
def lexI : List Int → List Int → Bool
  | _, [] => false
  | [], _ :: _ => true
  | x :: xs, y :: ys => if x = y then lexI xs ys else decide (x < y)
end
end DS

namespace DS
open PySem PySem.Spec L2
theorem hu65 {k : Nat} {A : Around} (hr : Room k A) : A.units + 65 < cLine := by have := hr.un; omega
/-- the turns that a while loop may take -/
def fuel : Nat := 1099511627776
def sRaise' (k : Nat) (f : XE) : XS := fun E => (f E).out fun p => (Res.of (dat p.2 p.1)).out fun d => match d with
  | .str z => if z.length ≤ 1000 then .ex k (.str z) p.2 else .fail
  | _ => .fail
section
variable {K : PySem.W.Frag} {c : Cf} {W : WX} {X : Cx} {pos : Pos} {a : Expr} {ta : TE} {f : XE}
/-- the promise of the law itself: for every script of at most n ints it gives True -/
def spLaw (K : PySem.W.Frag) : Sp := fun vs H Q _ => ∃ (a : Addr) (ns : List Int), vs = [.ref a] ∧ SqL K H a (ns.map V.int) ∧ ns.length ≤ 63 ∧ ∀ H', Q (.bl true) H'
theorem law_imp {F : FS} (h : ∀ ns : List Int, ns.length ≤ 63 → F [(.sh, .scr ns)] = .ok (.s (.bl true)) [none]) {vs : List V} {H : Hp} {Q : VK} {E : XK} (hs : spLaw K vs H Q E) : spD K c 1 F vs H Q E := by
  obtain ⟨a, ns, rfl, hS, hl, q⟩ := hs
  refine ⟨⟨H, fun _ => False, fun _ => False, fun _ => 0, []⟩, [(.sh, .scr ns)], rfl, rfl, fun i d z => ?_, ⟨fun b o e _ => e, rfl, fun i b e => ?_, fun i j k k' d d' a e1 _ n1 => ?_, fun a z => z.elim, fun p hp => by cases hp⟩, ?_⟩
  · cases i with
    | zero => simp at z
    | succ i => simp at z
  · cases i with
    | zero =>
      have : b = (.sh, .scr ns) := by simpa using e.symm
      subst this
      refine ⟨.ref a, rfl, Rep.scr a ns (hS.imp (fun h => ⟨h, ?_⟩) id)⟩
      rintro (z | ⟨j, k, d, e1, nk, _⟩)
      · exact z
      · cases j with
        | zero =>
          have : (k, d) = (Kd.sh, D.scr ns) := by simpa using e1.symm
          cases this
          exact nk rfl
        | succ j => simp at e1
    | succ i => simp at e
  · cases i with
    | zero =>
      have : (k, d) = (Kd.sh, D.scr ns) := by simpa using e1.symm
      cases this
      exact absurd rfl n1
    | succ i => simp at e1
  · rw [h ns hl]
    intro v H' I r
    have e := (show Vw K c _ H' v (.bl true) from .inl r).bl
    rw [e]
    exact q H'
end
end DS
namespace DS
open PySem PySem.Spec L2
section
variable {K : PySem.W.Frag} {c : Cf} {W : WX} {X : Cx} {pos : Pos}
theorem dg' {x : Str} {i : Int} (hm : ∃ t, X.mg x = some (.int i t)) (hg : Gl X x := by rfl) (hd : (x == ("__debug__" : Str)) = false := by decide) : DE c W X (.Name x pos) (tC (.int i)) (xD (.int i)) :=
  let ⟨_, h⟩ := hm; dg h hg hd
theorem exm_of {S C : Addr} {b : Bool} (h1 : PySem.W.subIn K (.ref C) (.type "BaseException") = some true) (h2 : PySem.W.isClsIn K C = true) (h3 : PySem.W.typeIn K (.ref C) = some (.type "type")) (h4 : PySem.W.subIn K (.ref S) (.ref C) = some b) : PySem.W.exmOne K (.ref S) (.ref C) = some b := by
  have e1 : (PySem.W.subIn K (.ref C) (.type "BaseException") == some true) = true := by rw [h1] <;> rfl
  have e2 : ((PySem.W.clsIn K C).isSome && PySem.W.typeIn K (.ref C) == some (.type "type")) = true := by
    have h2' : (PySem.W.clsIn K C).isSome = true := h2
    rw [h2', h3] <;> rfl
  show (if (PySem.W.subIn K (.ref C) (.type "BaseException") == some true) = true then (if ((PySem.W.clsIn K C).isSome && PySem.W.typeIn K (.ref C) == some (.type "type")) = true then PySem.W.subIn K (.ref S) (.ref C) else none) else none) = some b
  rw [if_pos e1, if_pos e2]
  exact h4
theorem sh_nx (xf : Nat → Str) (n : Str) (i : Nat) : ∀ (k : Nat) (v : V) (E : En), ∀ k' v' E', (if i < E.length then shRet xf n k v E else .fail) ≠ .ex k' v' E' := by
  intro k v E k' v' E' h
  unfold shRet at h
  split at h
  · split at h
    · cases v <;> cases h
    · cases h
  · cases h
end
end DS

/-! the rules again, with the written part of c -/
namespace DS
open PySem PySem.Spec L2
section
variable {c : Cf} {W : WX} {X : Cx} {pos pos' pos2 apos cpos tpos p : Pos}
variable {a b e o : Expr} {es : List Expr} {ta tb te to : TE} {f1 f2 f : XE} {t : TA} {fs : XA}
theorem ktT (h : DE c W X e te f) (hK : X.K = c.K := by rfl) (he : ∀ whole, isTrue e X.env whole = (do let v ← whole; standAt e.pos; holding [v] (truthy v)) := by intro _; rfl) : DT c W X e (tTru c.K te) (xTru' f) := by rw [← hK]; exact dtT h he
theorem kIx (ha : DE c W X a ta f1) (hb : DE c W X b tb f2) (hK : X.K = c.K := by rfl) (hs : PlainIx b := by intro _ _; rfl) : DE c W X (.Subscript a b pos) (tOp (rIx c.K) ta tb) (x2 gIx f1 f2) := by rw [← hK]; exact dIx ha hb hs
theorem kCut {lo hi : Option Expr} {tl th : TO} {fl fh : XO} {p2 : Pos} (he : DE c W X e te f) (hl : DO c W X lo tl fl) (hu : DO c W X hi th fh) (hK : X.K = c.K := by rfl) : DE c W X (.Subscript e (.Slice lo hi none p2) pos) (tSl (rSlAll c.K) te tl th) (xCut f fl fh) := by rw [← hK]; exact dCut he hl hu
theorem k_add (hK : X.K = c.K := by rfl) : BinD c X .Add (rAdd c.K) gAdd := by rw [← hK]; exact d_add
theorem k_eq (hu : X.A.units + 64 < cLine) (hK : X.K = c.K := by rfl) : CmpD c X .Eq (rEqD c.K) (gEq false) := by rw [← hK]; exact d_eq hu
theorem k_ne (hu : X.A.units + 64 < cLine) (hK : X.K = c.K := by rfl) : CmpD c X .NotEq (rNeD c.K) (gEq true) := by rw [← hK]; exact d_ne hu
theorem k_inL (hu : X.A.units + 65 < cLine) (hK : X.K = c.K := by rfl) : CmpD c X .In (rInD c.K) (gInL false) := by rw [← hK]; exact d_inL hu
theorem k_notInL (hu : X.A.units + 65 < cLine) (hK : X.K = c.K := by rfl) : CmpD c X .NotIn (rNotInD c.K) (gInL true) := by rw [← hK]; exact d_notInL hu
theorem k_ltD (hu : X.A.units + 65 < cLine) (hK : X.K = c.K := by rfl) : CmpD c X .Lt (rLtD c.K) gLtD := by rw [← hK]; exact d_ltD hu
theorem kc_len (hK : X.K = c.K := by rfl) : CalD c X (.builtin "len") (fun xs H Q => ∃ x n, xs = [x] ∧ LenV c.K x H n ∧ Q (.int n) H) gLen := by rw [← hK]; exact c_len
theorem kc_list (hK : X.K = c.K := by rfl) : CalD c X (.type "list") (fun xs H Q => ∃ p ys, xs = [.ref p] ∧ (SqL c.K H p ys ∨ SqT c.K H p ys) ∧ ∀ l, H l = none → Q (.ref l) (upd H l (.lst ys))) gList := by rw [← hK]; exact c_list
theorem kc_tuple (hK : X.K = c.K := by rfl) : CalD c X (.type "tuple") (fun xs H Q => ∃ p ys, xs = [.ref p] ∧ ((SqL c.K H p ys ∧ ∀ l, H l = none → Q (.ref l) (upd H l (.tup ys))) ∨ (SqT c.K H p ys ∧ Q (.ref p) H))) gTuple := by rw [← hK]; exact c_tuple
theorem kc_sum (hc : X.calm = true := by rfl) (hK : X.K = c.K := by rfl) : CalD c X (.builtin "sum") (rSum c.K) gSum := by rw [← hK]; exact c_sum hc
theorem kc_maxL (hc : X.calm = true := by rfl) (hK : X.K = c.K := by rfl) : CalD c X (.builtin "max") (rMax c.K) gMaxL := by rw [← hK]; exact c_maxL hc
theorem kc_minL (hc : X.calm = true := by rfl) (hK : X.K = c.K := by rfl) : CalD c X (.builtin "min") (rMin c.K) gMinL := by rw [← hK]; exact c_minL hc
theorem kc_sorted (hK : X.K = c.K := by rfl) : CalD c X (.builtin "sorted") (rSortedI c.K) gSorted := by rw [← hK]; exact c_sorted
theorem kc_any (hc : X.calm = true := by rfl) (hK : X.K = c.K := by rfl) : CalD c X (.builtin "any") (rAny c.K) gAny := by rw [← hK]; exact c_any hc
theorem kc_all (hc : X.calm = true := by rfl) (hK : X.K = c.K := by rfl) : CalD c X (.builtin "all") (rAll c.K) gAll := by rw [← hK]; exact c_all hc
theorem kIsi {T : Str} {n : String} (hm : X.mg "isinstance" = none) (hmT : X.mg T = none) (hT : bootBuiltins T = some (.type n)) (he : DE c W X e te f) (hK : X.K = c.K := by rfl) (hg : Gl X "isinstance" := by rfl) (hgT : Gl X T := by rfl) (hnT : T ≠ "__name__" := by decide) (hdT : (T == ("__debug__" : Str)) = false := by decide)
    (h1 : starEach [e, .Name T pos2] X.env = (false, eval e X.env) :: starEach [.Name T pos2] X.env := by rfl) (h2 : starEach [.Name T pos2] X.env = (false, eval (.Name T pos2) X.env) :: starEach [] X.env := by rfl) (hpl : (backTo pos (starEach [.Name T pos2] X.env)).any (·.1) = false := by rfl) :
    DE c W X (.Call (.Name "isinstance" pos') [e, .Name T pos2] [] pos) (tCB (rIsi c.K) (tCons te (tCons (tC (.ty n)) tNil))) (x1 (gIsT n) f) := by rw [← hK]; exact dIsi hm hmT hT he hg hgT hnT hdT h1 h2 hpl
theorem kS {tg : Expr} (he : DE c W X e te f) (hK : X.K = c.K := by rfl) : DIt c W X tg e (iSeq c.K te) (xiSeq f) := by rw [← hK]; exact iS he
theorem kE {tp : Pos} {elts : List Expr} {kk : Nat} (hm : X.mg "enumerate" = none) (ha : DA c W X [a] t fs) (hK : X.K = c.K := by rfl) (hg : Gl X "enumerate" := by rfl) (hs : starEach [a] X.env = [(false, eval a X.env)] := by rfl) : DIt c W X (.Tuple elts kk tp) (.Call (.Name "enumerate" p) [a] [] pos) (iEnum c.K t) (xiEnum fs) := by rw [← hK]; exact iE hm ha hg hs
theorem kZ {tp : Pos} {elts : List Expr} {kk : Nat} (hm : X.mg "zip" = none) (ha : DA c W X [a, b] t fs) (hK : X.K = c.K := by rfl) (hg : Gl X "zip" := by rfl) (hs : starEach [a, b] X.env = (false, eval a X.env) :: starEach [b] X.env := by rfl) (hpl : (backTo pos (starEach [b] X.env)).any (·.1) = false := by rfl) : DIt c W X (.Tuple elts kk tp) (.Call (.Name "zip" p) [a, b] [] pos) (iZip c.K t) (xiZip fs) := by rw [← hK]; exact iZ hm ha hg hs hpl
theorem kT {k n : Nat} {tgs : TGs} {is : List Nat} {xgs : List D → En → Option En} (h : DGs c X es tgs is xgs) (hK : X.K = c.K := by rfl) (hc : X.calm = true := by rfl) (hn : (assignEach es X.env).length = n := by rfl) (hst : (assignEach es X.env).findIdx? (·.1) = none := by rfl) : DG c X (.Tuple es k pos) (gTup c.K n tgs) is (gTupD n xgs) := by rw [← hK]; exact gT h hc hn hst
theorem kMut {T id : String} {name : Str} {r : V → List V → Hp → VK → Prop} {g : D → List D → Option (D × D)} (i : Nat) {x : Str} (pa : PlainAttrs T) (slot : Slot T name id) (hty : typeOf (.builtin id) = pure (.type "method_descriptor")) (hm : MtR X id r) (hr : MutL c.K c T r g) (ha : DA c W X (e :: es) t fs) (hK : X.K = c.K := by rfl)
    (hN : X.N[i]? = some x := by rfl) (hv : Vis X.env.scope x := by first | exact Or.inl rfl | exact Or.inr (Or.inl rfl) | exact Or.inr (Or.inr rfl)) (hd : (x == ("__debug__" : Str)) = false := by decide) (hcd : (x == ("__classdict__" : Str)) = false := by decide)
    (hbase : attributeBase (.Name x pos2) name X.env (eval (.Name x pos2) X.env) = eval (.Name x pos2) X.env := by rfl)
    (hfew : ((backTo cpos (starEach (e :: es) X.env)).all (fun x => !x.1) && (backToKw cpos (keywordEach [] X.env)).all (fun x => x.1.isSome)
      && decide ((e :: es).length + ([] : List Keyword).length + (if ([] : List Keyword).isEmpty then 0 else 1) < 30)) = true := by rfl)
    (hline : (apos.endLine == cpos.line) = true := by rfl) (hs : starEach (e :: es) X.env = (false, eval e X.env) :: starEach es X.env := by rfl) (hplain : (backTo cpos (starEach es X.env)).any (·.1) = false := by rfl) :
    DE c W X (.Call (.Attribute (.Name x pos2) name apos) (e :: es) [] cpos) (tBM c.K T r (tVar i) t) (xMut i T g fs) := by rw [← hK] at hr ⊢; exact dMut i pa slot hty hm hr ha hN hv hd hcd hbase hfew hline hs hplain
theorem kMut0 {T id : String} {name : Str} {r : V → List V → Hp → VK → Prop} {g : D → List D → Option (D × D)} (i : Nat) {x : Str} (pa : PlainAttrs T) (slot : Slot T name id) (hty : typeOf (.builtin id) = pure (.type "method_descriptor")) (hm : MtR X id r) (hr : MutL c.K c T r g) (hK : X.K = c.K := by rfl)
    (hN : X.N[i]? = some x := by rfl) (hv : Vis X.env.scope x := by first | exact Or.inl rfl | exact Or.inr (Or.inl rfl) | exact Or.inr (Or.inr rfl)) (hd : (x == ("__debug__" : Str)) = false := by decide) (hcd : (x == ("__classdict__" : Str)) = false := by decide)
    (hbase : attributeBase (.Name x pos2) name X.env (eval (.Name x pos2) X.env) = eval (.Name x pos2) X.env := by rfl) (hline : (apos.endLine == cpos.line) = true := by rfl) :
    DE c W X (.Call (.Attribute (.Name x pos2) name apos) [] [] cpos) (tBM0 c.K T r (tVar i)) (xMut i T g xs0) := by rw [← hK] at hr ⊢; exact dMut0 i pa slot hty hm hr hN hv hd hcd hbase hline
/-- a def's call; Kc etc. by c -/
theorem kCall {P : Program} {w : World} {mg : Str → Option Value} {base : Heap} {k : Nat} {f : Addr} {fd : FuncData} {ps : List Str} {x : Str} {F : FS} (tk : Takes X W) (Fn : FnD P w c.K mg base c k f fd ps F) (hr : Room k X.A) (hm : mg x = some (.ref f)) (hk : PySem.W.keepIn c.K (.ref f) = true) (hb : Binds c.K fd ps [])
    (ha : DA c W X (e :: es) t fs) (hP : X.prog = P := by rfl) (hw : X.w = w := by rfl) (hmg : X.mg = mg := by rfl) (hbs : X.base = base := by rfl) (hK : X.K = c.K := by rfl) (hg : Gl X x := by rfl) (hdb : (x == ("__debug__" : Str)) = false := by decide) (he : starEach (e :: es) X.env = (false, eval e X.env) :: starEach es X.env := by rfl) (hpl : (backTo pos (starEach es X.env)).any (·.1) = false := by rfl) {n : Nat} (hn : ps.length = n := by rfl) :
    DE c W X (.Call (.Name x p) (e :: es) [] pos) (tCallS (spD c.K c n F) (WE W) t) (xCallN n F fs) := by
  subst hP hw hmg hbs hn
  rw [← hK] at Fn hk hb ⊢
  exact dCall tk Fn hr hm hk hb ha hg hdb he hpl
end
end DS

/-! a, b = x, y where a new object stays one's own -/
namespace DS
open PySem PySem.Spec L2
section
variable {K : PySem.W.Frag} {c : Cf} {G G2 : Gd} {E E' : En} {σ : St} {H H' : Hp} {v : V} {e : Ev} {d : D} {W : WX}
abbrev XOw := En → Res (List Bd × En)
def Gd.hu (G : Gd) (H0 : Hp) (U : Addr → Prop) : Gd := { G with H0 := H0, U := U }
def RO (K : PySem.W.Frag) (c : Cf) (E : En) (σ : St) (H : Hp) : Gd → List V → List Bd → Prop
  | G, [], [] => DI K c G E σ H
  | G, v :: vs, (.sh, d) :: bs => RO K c E σ H (G.addT v d) vs bs
  | G, v :: vs, (.ow, d) :: bs => ∃ a o ws ds, v = .ref a ∧ H a = some o ∧ Mut (some o) ∧ Node c o d ws ds ∧ ws.length = ds.length ∧ (G.U a ∨ G.H0 a = none) ∧ ¬ G.Z0 a ∧ RO K c E σ H ((G.addZ a).addTs ws ds) vs bs
  | _, _, _ => False
theorem RO.di : ∀ {vs : List V} {bs : List Bd} {G : Gd}, RO K c E σ H G vs bs → DI K c G E σ H
  | [], [], _, h => h
  | v :: vs, (.sh, d) :: bs, G, h => (RO.di (G := G.addT v d) h).unT
  | v :: vs, (.ow, d) :: bs, G, h => by
    obtain ⟨a, o, ws, ds, _, _, _, _, _, _, _, h⟩ := h
    exact (RO.di h).unTs.unZ
  | v :: vs, (.io, d) :: bs, _, h => h.elim
  | [], _ :: _, _, h => h.elim
  | _ :: _, [], _, h => h.elim
theorem DI.low {H0 : Hp} {U : Addr → Prop} (I : DI K c G E σ H) (hl : ∀ a, G.U a ∨ G.H0 a = none → U a ∨ H0 a = none) (hk : ∀ b o, H0 b = some o → ¬ U b → G.H0 b = some o ∧ ¬ G.U b) : DI K c (G.hu H0 U) E σ H := by
  refine ⟨fun b o e nu => I.keep b o (hk b o e nu).1 (hk b o e nu).2, I.ln, fun i b e => ?_, I.un, I.zin, I.pin⟩
  obtain ⟨w, ew, r⟩ := I.rel i b e
  refine ⟨w, ew, ?_⟩
  obtain ⟨k, d⟩ := b
  cases k with
  | sh => exact r
  | ow => obtain ⟨a, rfl, t, q1, q2, q3⟩ := r; exact ⟨a, rfl, t, hl _ q1, q2, q3⟩
  | io => obtain ⟨a, rfl, t, q1, q2, q3⟩ := r; exact ⟨a, rfl, t, hl _ q1, q2, q3⟩
theorem RO.low : ∀ {vs : List V} {bs : List Bd} {G : Gd} {H0 : Hp} {U : Addr → Prop}, RO K c E σ H G vs bs → (∀ a, G.U a ∨ G.H0 a = none → U a ∨ H0 a = none) → (∀ b o, H0 b = some o → ¬ U b → G.H0 b = some o ∧ ¬ G.U b) → RO K c E σ H (G.hu H0 U) vs bs
  | [], [], _, _, _, h, hl, hk => DI.low h hl hk
  | v :: vs, (.sh, d) :: bs, G, H0, U, h, hl, hk => RO.low (G := G.addT v d) h hl hk
  | v :: vs, (.ow, d) :: bs, G, H0, U, h, hl, hk => by
    obtain ⟨a, o, ws, ds, h1, h2, h3, h4, h5, h6, h7, h⟩ := h
    exact ⟨a, o, ws, ds, h1, h2, h3, h4, h5, hl _ h6, h7, RO.low (G := (G.addZ a).addTs ws ds) h hl hk⟩
  | v :: vs, (.io, d) :: bs, _, _, _, h, _, _ => h.elim
  | [], _ :: _, _, _, _, h, _, _ => h.elim
  | _ :: _, [], _, _, _, h, _, _ => h.elim
def PO1 (K : PySem.W.Frag) (c : Cf) (G : Gd) (σ : St) (Q : List V → Hp → Prop) (p : List Bd × En) : Prop := ∀ vs H, RO K c p.2 σ H G vs p.1 → Q vs H
def SOw (K : PySem.W.Frag) (c : Cf) (W : WX) (t : TA) (f : XOw) : Prop := ∀ G E σ H Q, DI K c G E σ H → OkG K c G W σ (PO1 K c G σ Q) (f E) → t σ H Q
def ys0 : XOw := fun E => .ok ([], E)
def ysC (f : XE) (fs : XOw) : XOw := fun E => (f E).bind fun p => match p.1 with
  | .o d => (fs p.2).bind fun q => .ok ((.ow, d) :: q.1, q.2)
  | e => (Res.of (share p.2 e)).bind fun r => (fs r.2).bind fun q => .ok ((.sh, r.1) :: q.1, q.2)
theorem OkG.to {α : Type} {P P' : α → Prop} {f : Res α} (h : OkG K c G W σ P f) (hd : ∀ E H, DI K c G2 E σ H → DI K c G E σ H) (k : ∀ a, P a → P' a) : OkG K c G2 W σ P' f := by
  cases f with
  | ok a => exact k a h
  | ex k v E => exact fun dx H I => h dx H (hd _ _ I)
  | fail => exact h
theorem SOw.nil : SOw K c W tNil ys0 := fun G E σ H Q I h => h [] H I
theorem SOw.cons {ta : TE} {f1 : XE} {t : TA} {fs : XOw} (ha : SE K c W ta f1) (hs : SOw K c W t fs) : SOw K c W (tCons ta t) (ysC f1 fs) := by
  intro G E σ H Q I h
  refine ha G E σ H _ I (OkG.bind h fun p hp => ?_)
  intro v H1 I1 r1
  obtain ⟨e, E1⟩ := p
  have key : ∀ (d : D) (E2 : En), share E1 e = some (d, E2) → OkG K c G W σ (PO1 K c G σ Q) ((fs E2).bind fun q => .ok ((.sh, d) :: q.1, q.2)) → t σ H1 fun vs H' => Q (v :: vs) H' := fun d E2 es hq => by
    obtain ⟨I2, R2, _⟩ := I1.share r1.a es
    refine hs (G.addT v d) E2 σ H1 _ (I2.addT R2) (OkG.to (OkG.bind hq fun q hq => hq) (fun E H J => J.unT) fun q hq => ?_)
    intro vs H2 r2
    exact hq (v :: vs) H2 r2
  cases e with
  | s d => exact key d E1 rfl hp
  | b i =>
    obtain ⟨⟨d, E2⟩, e1, hq⟩ := OkG.of (o := share E1 (.b i)) (g := fun r => (fs r.2).bind fun q => .ok ((.sh, r.1) :: q.1, q.2)) hp
    exact key d E2 e1 hq
  | o d =>
    have hp' : OkG K c G W σ (PO1 K c G σ Q) ((fs E1).bind fun q => .ok ((.ow, d) :: q.1, q.2)) := hp
    obtain ⟨a, rfl, ⟨o, ws, ds, h1, h2, h3, h4⟩, J, u, nz⟩ := r1
    have hb : ∀ {E : En} {H : Hp}, DI K c (DS.reb (G.addZ a) E1 σ H1 (ws.zip ds)) E σ H → DI K c G E σ H := fun B => (J.unreb B).unZ
    refine hs (DS.reb (G.addZ a) E1 σ H1 (ws.zip ds)) E1 σ H1 _ (J.reb fun p hp => ?_) (OkG.to (OkG.bind hp' fun q hq => hq) (fun E H B => hb B) fun q hq => ?_)
    · obtain ⟨j, e1, e2⟩ := mem_zip hp
      exact h4.2 j _ _ e1 e2
    · intro vs H2 r2
      have B := RO.di r2
      refine hq (.ref a :: vs) H2 ⟨a, o, ws, ds, rfl, B.keep a o h1 (fun z => nz (.inr z)), h2, h3, h4.1, u, fun z => nz (.inl z), ?_⟩
      refine RO.low (G := DS.reb (G.addZ a) E1 σ H1 (ws.zip ds)) (H0 := G.H0) (U := G.U) r2 (fun b q => q.elim (fun z => (J.ownU z).1) J.h0) fun b o' e nu => ⟨J.keep b o' e nu, fun z => ?_⟩
      rcases (J.ownU z).1 with q | q
      · exact nu q
      · rw [show (G.addZ a).H0 b = some o' from e] at q; cases q
/-! they are stored -/
def storAll : List Nat → List Bd → En → Option En
  | [], [], E => some E
  | i :: is, b :: bs, E => (storAll is bs E).bind fun E' => if free E' i = true then some (E'.set i (some b)) else none
  | _, _, _ => none
def setAll : List Nat → List V → St → St
  | i :: is, v :: vs, σ => (setAll is vs σ).set i (some v)
  | _, _, σ => σ
theorem RO.stor : ∀ {is : List Nat} {vs : List V} {bs : List Bd} {G : Gd} {E' : En}, RO K c E σ H G vs bs → storAll is bs E = some E' → DI K c G E' (setAll is vs σ) H
  | is, [], [], G, E', r, h => by
    cases is with
    | nil => cases h; exact r
    | cons _ _ => cases h
  | [], v :: vs, b :: bs, _, _, _, h => by cases h
  | i :: is, v :: vs, (.sh, d) :: bs, G, E', r, h => by
    obtain ⟨E1, h1, h2⟩ := Option.bind_eq_some_iff.mp h
    obtain ⟨_, rfl⟩ := of_if h2
    have J : DI K c (G.addT v d) E1 (setAll is vs σ) H := RO.stor (G := G.addT v d) r h1
    exact J.unT.putS J.pinT
  | i :: is, v :: vs, (.ow, d) :: bs, G, E', r, h => by
    obtain ⟨E1, h1, h2⟩ := Option.bind_eq_some_iff.mp h
    obtain ⟨_, rfl⟩ := of_if h2
    obtain ⟨a, o, ws, ds, rfl, q1, q2, q3, q4, q5, q6, r⟩ := r
    have J := RO.stor r h1
    refine DI.putO ⟨a, rfl, ⟨o, ws, ds, q1, q2, q3, J.pinTs q4⟩, J.unTs, q5, ?_⟩ J.unTs.unZ
    rintro (z | z)
    · exact q6 z
    · exact (J.unTs.ownU z).2 (.inr rfl)
  | is, v :: vs, (.io, d) :: bs, _, _, r, _ => r.elim
  | is, [], _ :: _, _, _, r, _ => r.elim
  | is, _ :: _, [], _, _, r, _ => r.elim
def sParO (is : List Nat) (fs : XOw) : XS := fun E => (fs E).out fun p => (Res.of (storAll is p.1 p.2)).out fun E' => .nx E'
theorem RO.len : ∀ {vs : List V} {bs : List Bd} {G : Gd}, RO K c E σ H G vs bs → vs.length = bs.length
  | [], [], _, h => rfl
  | v :: vs, (.sh, d) :: bs, G, h => by simp [RO.len (G := G.addT v d) h]
  | v :: vs, (.ow, d) :: bs, G, h => by
    obtain ⟨a, o, ws, ds, _, _, _, _, _, _, _, h⟩ := h
    simp [RO.len h]
  | v :: vs, (.io, d) :: bs, _, h => h.elim
  | [], _ :: _, _, h => h.elim
  | _ :: _, [], _, h => h.elim
theorem storAll_len : ∀ {is : List Nat} {bs : List Bd} {E E' : En}, storAll is bs E = some E' → is.length = bs.length
  | [], [], _, _, _ => rfl
  | i :: is, b :: bs, E, E', h => by
    obtain ⟨E1, h1, _⟩ := Option.bind_eq_some_iff.mp h
    simp [storAll_len h1]
  | [], _ :: _, _, _, h => by cases h
  | _ :: _, [], _, _, h => by cases h
theorem SS.parO {t : TA} {fs : XOw} {is : List Nat} {ts : TS} (hs : SOw K c W t fs) (h : ∀ B σ H, t σ H (fun vs H1 => vs.length = is.length ∧ B.nx (setAll is vs σ) H1) → ts B σ H) : SS K c W ts (sParO is fs) := by
  intro G E σ H B I hq
  refine h B σ H (hs G E σ H _ I (OkS.bind hq fun p hp => ?_))
  intro vs H1 r
  obtain ⟨E', e1, hq⟩ := hp.of
  exact ⟨(RO.len r).trans (storAll_len e1).symm, hq _ H1 (RO.stor r e1)⟩
end
section
variable {c : Cf} {W : WX} {X : Cx} {pos : Pos} {e a b a1 a2 a3 : Expr} {es : List Expr} {te : TE} {f : XE} {t : TA} {fs : XOw}
structure DO' (c : Cf) (W : WX) (X : Cx) (e : List Expr) (t : TA) (f : XOw) : Prop where
  pe : PA X e t
  se : SOw X.K c W t f
theorem dao0 : DO' c W X [] tNil ys0 := ⟨pa_nil, SOw.nil⟩
theorem dao (he : DE c W X e te f) (hs : DO' c W X es t fs) (h : starEach (e :: es) X.env = (false, eval e X.env) :: starEach es X.env := by rfl) : DO' c W X (e :: es) (tCons te t) (ysC f fs) := ⟨pa_cons he.pe hs.pe h, SOw.cons he.se hs.se⟩
theorem sPO2 (i j : Nat) {x y : Str} {px py pt : Pos} {kt k2 pt2} (nd : X.N.Nodup) (ha : DO' c W X [a, b] t fs) (hc : X.calm = true := by rfl) (hi : X.N[i]? = some x := by rfl) (hj : X.N[j]? = some y := by rfl) (hij : i ≠ j := by decide)
    (hx : X.env.scope.names.lookup x = some .local := by rfl) (hy : X.env.scope.names.lookup y = some .local := by rfl)
    (hw : swappedStores [.Tuple [.Name x px, .Name y py] kt pt] (.Tuple [a, b] k2 pt2) X.env = pure (some [x, y]) := by rfl) (hs : swapsWithSole [.Tuple [.Name x px, .Name y py] kt pt] (.Tuple [a, b] k2 pt2) pos.line X.env = pure false := by rfl) :
    DS1 c W X (.Assign [.Tuple [.Name x px, .Name y py] kt pt] (.Tuple [a, b] k2 pt2) pos) (tPar i j t) (sParO [i, j] fs) := by
  refine ⟨ps_par hc nd hi hj hij hx hy ha.pe hw hs, SS.parO ha.se fun B σ H h => ?_⟩
  suffices q : (fun (vs : List V) H1 => ∃ v w, vs = [v, w] ∧ B.nx ((σ.set i (some v)).set j (some w)) H1) = (fun vs H1 => vs.length = [i, j].length ∧ B.nx (setAll [i, j] vs σ) H1) by
    show t σ H (fun (vs : List V) H1 => ∃ v w, vs = [v, w] ∧ B.nx ((σ.set i (some v)).set j (some w)) H1)
    rw [q]
    exact h
  funext vs H1
  refine propext ⟨?_, ?_⟩
  · rintro ⟨v, w, rfl, h⟩
    exact ⟨rfl, by rw [List.set_comm _ _ hij] at h; exact h⟩
  · rintro ⟨hl, h⟩
    match vs, hl, h with
    | [v, w], _, h => exact ⟨v, w, rfl, by rw [List.set_comm _ _ hij]; exact h⟩
theorem sPO3 (i j l : Nat) {x y z : Str} {px py pz pt : Pos} {kt k2 pt2} (nd : X.N.Nodup) (ha : DO' c W X [a1, a2, a3] t fs) (hc : X.calm = true := by rfl) (hi : X.N[i]? = some x := by rfl) (hj : X.N[j]? = some y := by rfl) (hl : X.N[l]? = some z := by rfl) (hij : i ≠ j := by decide) (hil : i ≠ l := by decide) (hjl : j ≠ l := by decide)
    (hx : X.env.scope.names.lookup x = some .local := by rfl) (hy : X.env.scope.names.lookup y = some .local := by rfl) (hz : X.env.scope.names.lookup z = some .local := by rfl)
    (hw : swappedStores [.Tuple [.Name x px, .Name y py, .Name z pz] kt pt] (.Tuple [a1, a2, a3] k2 pt2) X.env = pure (some [x, y, z]) := by rfl) (hs : swapsWithSole [.Tuple [.Name x px, .Name y py, .Name z pz] kt pt] (.Tuple [a1, a2, a3] k2 pt2) pos.line X.env = pure false := by rfl) :
    DS1 c W X (.Assign [.Tuple [.Name x px, .Name y py, .Name z pz] kt pt] (.Tuple [a1, a2, a3] k2 pt2) pos) (tPar3 i j l t) (sParO [i, j, l] fs) := by
  refine ⟨ps_par3 hc nd hi hj hl hij hil hjl hx hy hz ha.pe hw hs, SS.parO ha.se fun B σ H h => ?_⟩
  suffices q : (fun (vs : List V) H1 => ∃ u v w, vs = [u, v, w] ∧ B.nx (((σ.set i (some u)).set j (some v)).set l (some w)) H1) = (fun vs H1 => vs.length = [i, j, l].length ∧ B.nx (setAll [i, j, l] vs σ) H1) by
    show t σ H (fun (vs : List V) H1 => ∃ u v w, vs = [u, v, w] ∧ B.nx (((σ.set i (some u)).set j (some v)).set l (some w)) H1)
    rw [q]
    exact h
  have hc : ∀ u v w : Option V, ((σ.set i u).set j v).set l w = ((σ.set l w).set j v).set i u := fun u v w => by
    rw [List.set_comm _ _ hij, List.set_comm _ _ hil, List.set_comm _ _ hjl]
  funext vs H1
  refine propext ⟨?_, ?_⟩
  · rintro ⟨u, v, w, rfl, h⟩
    exact ⟨rfl, by rw [hc] at h; exact h⟩
  · rintro ⟨hl, h⟩
    match vs, hl, h with
    | [u, v, w], _, h => exact ⟨u, v, w, rfl, by rw [hc]; exact h⟩
/-- more names: by way of a tuple -/
def gNs : List Nat → TGs
  | [] => gNil
  | i :: is => gCons (gName i) (gNs is)
def setFw : List Nat → List V → St → St
  | i :: is, v :: vs, σ => setFw is vs (σ.set i (some v))
  | _, _, σ => σ
theorem setFw_set {i : Nat} {v : V} : ∀ {is : List Nat} {vs : List V} {σ : St}, i ∉ is → setFw is vs (σ.set i (some v)) = (setFw is vs σ).set i (some v)
  | [], _, _, _ => by simp [setFw]
  | _ :: _, [], _, _ => by simp [setFw]
  | j :: is, w :: vs, σ, h => by
    simp only [List.mem_cons, not_or] at h
    show setFw is vs ((σ.set i (some v)).set j (some w)) = (setFw is vs (σ.set j (some w))).set i (some v)
    rw [List.set_comm _ _ h.1, setFw_set h.2]
theorem setFw_all : ∀ {is : List Nat} {vs : List V} {σ : St}, is.Nodup → setFw is vs σ = setAll is vs σ
  | [], _, _, _ => by simp [setFw, setAll]
  | _ :: _, [], _, _ => by simp [setFw, setAll]
  | i :: is, v :: vs, σ, h => by
    rw [List.nodup_cons] at h
    show setFw is vs (σ.set i (some v)) = (setAll is vs σ).set i (some v)
    rw [setFw_set h.1, setFw_all h.2]
theorem gNs_run : ∀ {is : List Nat} {vs : List V} {σ : St} {H : Hp} {Q : St → Hp → Prop}, vs.length = is.length → Q (setFw is vs σ) H → gNs is vs σ H Q
  | [], [], _, _, _, _, h => ⟨rfl, by simpa [setFw] using h⟩
  | i :: is, v :: vs, σ, H, Q, hl, h => ⟨v, vs, rfl, gNs_run (is := is) (vs := vs) (by simpa using hl) (by simpa [setFw] using h)⟩
  | [], _ :: _, _, _, _, hl, _ => by cases hl
  | _ :: _, [], _, _, _, hl, _ => by cases hl
theorem sPOn (is : List Nat) {ts : List Expr} {kt : Nat} {pt pt2 : Pos} {k2} (ha : DO' c W X es t fs) (hg : PGs X ts (gNs is)) (hnd : is.Nodup := by decide) (hn : (assignEach ts X.env).length = is.length := by rfl) (hst : (assignEach ts X.env).findIdx? (·.1) = none := by rfl) (hc : X.calm = true := by rfl)
    (hsw : swapsWithSole [.Tuple ts kt pt] (.Tuple es k2 pt2) pos.line X.env = pure false := by rfl) (hw : swappedStores [.Tuple ts kt pt] (.Tuple es k2 pt2) X.env = pure none := by rfl) (h1 : (assignEach [.Tuple ts kt pt] X.env).map (·.2) = [assign (.Tuple ts kt pt) X.env] := by rfl) (hle : is.length ≤ 100 := by decide) :
    DS1 c W X (.Assign [.Tuple ts kt pt] (.Tuple es k2 pt2) pos) (tAsg (tTup t) (gTup X.K is.length (gNs is))) (sParO is fs) := by
  refine ⟨ps_asg (pe_tup ha.pe) (pg_tup hc hg hn hst) hsw hw h1, ?_⟩
  intro G E σ H B I hq
  refine ha.se G E σ H _ I (OkS.bind hq fun p hp => ?_)
  intro vs H1 r
  obtain ⟨E', e1, hq⟩ := hp.of
  have hl := (RO.len r).trans (storAll_len e1).symm
  refine ⟨by rw [sizeLine_eq]; omega, fun q hqn => ⟨q, vs, rfl, .inl (.inl upd_same), hl, gNs_run hl ?_⟩⟩
  rw [setFw_all hnd]
  exact hq _ _ ((RO.stor r e1).alloc hqn)
end
end DS

namespace DS
open PySem PySem.Spec L2
section
variable {c : Cf} {W : WX} {X : Cx} {pos pos' np : Pos}
theorem takes_try (hs : X.stack = X.env :: X.outer) (hf : X.env.frame = some X.env.locals) (W : WX) : Takes (X.tr [] (fun e s1 => wpAny (model X.prog X.w) X.A (noteFrame e X.env) (fun _ s2 => wpAny (model X.prog X.w) X.A (setFlight e none) (fun _ _ => True) (fun _ _ => True) s2) (fun _ _ => True) s1)) W := by
  rintro u s' ⟨a, B, sI, pins', σ', H', cls, d, rfl, J', nb, up, sky, na, os, ag, b⟩
  have hfr : X.A.frames = some (X.env :: X.outer) := by rw [← hs]; exact J'.ok.frames
  have sky' : Sky B (X.env :: X.outer) a (Zc cls d) X.env.locals s'.heap := by rw [← hs]; exact sky
  exact Sky.land Zc.steady hfr hf sky' fun h3 fl3 up3 => trivial
theorem sTry1 (i nC : Nat) (ks : List Nat) {x n : Str} {cv : Value} {body suite : List Stmt} {b₀ : Stmt} {tb : WX → TS} {ts : Addr → Value → Option Addr → TS} {fb : XS} {fh : Nat → V → XS} (nd : X.N.Nodup) (hs : X.stack = X.env :: X.outer) (hf : X.env.frame = some X.env.locals) (hi : X.N[i]? = some n) (hln : X.env.kindOf n = some .local) (hc : Names X x cv) (tk : Takes X W)
    (hx : ∀ k, k < nC → PySem.W.exmOne X.K (.ref (c.cl k)) cv = some (decide (k ∈ ks)))
    (hb : ∀ (W : WX) (pn : List (Addr × Obj)) (xe : Value → Shared → Prop), Takes (X.tr pn xe) W → PassesOwn (model X.prog X.w) X.A X.env xe → DSs c W (X.tr pn xe) body (tb W) fb)
    (hsu : ∀ (a : Addr) (oe : Obj) (cls : Value) (d : Option Addr) (pn : List (Addr × Obj)), Zc cls d oe → (∃ vs, oe.data = .fields vs) → PSs (X.suite a ((a, oe) :: pn)) (b₀ :: suite) (ts a cls d))
    (hh : SH X.K c WF i nC ts fh) (hnx : ∀ k v E, ∀ k' v' E', fh k v E ≠ .ex k' v' E') :
    DS1 c W X (.Try body [.ExceptHandler (some (.Name x np)) (some n) (b₀ :: suite) pos'] [] [] pos) (fun D σ H => tb (wAs X.K cv i ts W D) D σ H) (sTry i nC ks fb fh) :=
  sTryAs i nC ks nd hs hf hi hln hc tk hx (fun W pn xe t p => (hb W pn xe t p).ps) (fun W => (hb W [] _ (takes_try hs hf W) PassesOwn.looking).se) hsu hh hnx
/-- a name's own list, shared from now on -/
def xShr (f : XE) : XE := fun E => (f E).bind fun p => (Res.of (share p.2 p.1)).bind fun q => .ok (.s q.1, q.2)
theorem SE.shr {K : PySem.W.Frag} {te : TE} {f : XE} (he : SE K c W te f) : SE K c W te (xShr f) := by
  intro G E σ H Q I h
  refine he G E σ H _ I (OkG.bind h fun p hp v H1 I1 r1 => ?_)
  obtain ⟨⟨d, E2⟩, e2, hq⟩ := hp.of
  obtain ⟨I2, R2, _⟩ := I1.share r1.a e2
  exact hq v H1 I2 R2
theorem dShr {e : Expr} {te : TE} {f : XE} (he : DE c W X e te f) : DE c W X e te (xShr f) := ⟨he.pe, SE.shr he.se⟩
end
end DS

/-! the meanings reckoned by simp, from the inside out: each step that waits for a value is a constant, so that simp does not look into it -/
namespace DS
open PySem PySem.Spec L2
section
variable {α β : Type}
@[simp] theorem rb_ok (a : α) (f : α → Res β) : (Res.ok a).bind f = f a := rfl
@[simp] theorem rb_ex (k : Nat) (v : V) (E : En) (f : α → Res β) : (Res.ex k v E : Res α).bind f = .ex k v E := rfl
@[simp] theorem rb_fail (f : α → Res β) : (Res.fail : Res α).bind f = .fail := rfl
@[simp] theorem rt_ok (a : α) (f : α → Out) : (Res.ok a).out f = f a := rfl
@[simp] theorem rt_ex (k : Nat) (v : V) (E : En) (f : α → Out) : (Res.ex k v E : Res α).out f = .ex k v E := rfl
@[simp] theorem rt_fail (f : α → Out) : (Res.fail : Res α).out f = .fail := rfl
@[simp] theorem rn_ok (a : α) : (Res.ok a).nox = .ok a := rfl
@[simp] theorem rn_ex (k : Nat) (v : V) (E : En) : (Res.ex k v E : Res α).nox = .fail := rfl
@[simp] theorem rn_fail : (Res.fail : Res α).nox = .fail := rfl
end
variable {E E1 : En} {d : D} {i k : Nat} {e e1 : Ev} {es : List Ev} {f f1 f2 f3 : XE} {fs : XA} {g g' : D → D → Option Ev} {a b : D} {ds : List D}
/-- a value, if there is one -/
def okO (E : En) : Option Ev → Res (Ev × En)
  | some e => .ok (e, E)
  | none => .fail
@[simp] theorem okO_some : okO E (some e) = .ok (e, E) := rfl
@[simp] theorem okO_none : okO E none = .fail := rfl
def consO {α : Type} : Option α → Option (List α) → Option (List α)
  | some a, some l => some (a :: l)
  | _, _ => none
@[simp] theorem consO_some {α : Type} {a : α} {l : List α} : consO (some a) (some l) = some (a :: l) := rfl
theorem consO_eq {α : Type} (o : Option α) (l : Option (List α)) : (o.bind fun a => l.bind fun l => some (a :: l)) = consO o l := by cases o <;> cases l <;> rfl
/-! names -/
def rdV (i : Nat) (E : En) : Option (Option Bd) → Res (Ev × En)
  | some (some (.sh, d)) => .ok (.s d, E)
  | some (some _) => .ok (.b i, E)
  | _ => .fail
@[simp] theorem rdV_sh : rdV i E (some (some (.sh, d))) = .ok (.s d, E) := rfl
@[simp] theorem rdV_ow : rdV i E (some (some (.ow, d))) = .ok (.b i, E) := rfl
@[simp] theorem rdV_io : rdV i E (some (some (.io, d))) = .ok (.b i, E) := rfl
@[simp] theorem xVar_e : xVar i E = rdV i E E[i]? := rfl
def dtV : Option (Option Bd) → Option D
  | some (some b) => some b.2
  | _ => none
@[simp] theorem dtV_some (b : Bd) : dtV (some (some b)) = some b.2 := rfl
@[simp] theorem dat_s : dat E (.s d) = some d := rfl
@[simp] theorem dat_o : dat E (.o d) = some d := rfl
@[simp] theorem dat_b : dat E (.b i) = dtV E[i]? := rfl
@[simp] theorem dats_nil : dats E [] = some [] := rfl
@[simp] theorem dats_cons : dats E (e :: es) = consO (dat E e) (dats E es) := consO_eq _ _
def shV (i : Nat) (E : En) : Option (Option Bd) → Option (D × En)
  | some (some (.sh, d)) => some (d, E)
  | some (some (.ow, d)) => some (d, E.set i (some (.sh, d)))
  | _ => none
@[simp] theorem shV_sh : shV i E (some (some (.sh, d))) = some (d, E) := rfl
@[simp] theorem shV_ow : shV i E (some (some (.ow, d))) = some (d, E.set i (some (.sh, d))) := rfl
@[simp] theorem share_s : share E (.s d) = some (d, E) := rfl
@[simp] theorem share_o : share E (.o d) = some (d, E) := rfl
@[simp] theorem share_b : share E (.b i) = shV i E E[i]? := rfl
def shD (d : D) : Option (List D × En) → Option (List D × En)
  | some (ds, E) => some (d :: ds, E)
  | none => none
@[simp] theorem shD_some : shD d (some (ds, E)) = some (d :: ds, E) := rfl
def shC (es : List Ev) : Option (D × En) → Option (List D × En)
  | some (d, E) => shD d (shares E es)
  | none => none
@[simp] theorem shC_some : shC es (some (d, E)) = shD d (shares E es) := rfl
@[simp] theorem shares_nil : shares E [] = some ([], E) := rfl
@[simp] theorem shares_cons : shares E (e :: es) = shC es (share E e) := by
  show ((share E e).bind fun p => (shares p.2 es).bind fun q => some (p.1 :: q.1, q.2)) = _
  cases share E e with
  | none => rfl
  | some p => show (shares p.2 es).bind _ = shD p.1 (shares p.2 es); cases shares p.2 es <;> rfl
@[simp] theorem nm_s : Ev.nm (.s d) = .s d := rfl
@[simp] theorem nm_o : Ev.nm (.o d) = .s d := rfl
@[simp] theorem nm_b : Ev.nm (.b i) = .b i := rfl
def frV : Option (Option Bd) → Bool
  | none => false
  | some (some (.io, _)) => false
  | _ => true
@[simp] theorem frV_none : frV (some none) = true := rfl
@[simp] theorem frV_sh : frV (some (some (.sh, d))) = true := rfl
@[simp] theorem frV_ow : frV (some (some (.ow, d))) = true := rfl
@[simp] theorem free_e : free E i = frV E[i]? := rfl
/-- put into a slot -/
def putV (i : Nat) (b : Bd) (E : En) : Bool → Option En
  | true => some (E.set i (some b))
  | false => none
@[simp] theorem putV_t {b : Bd} : putV i b E true = some (E.set i (some b)) := rfl
theorem putV_eq {b : Bd} {q : Bool} : (if q = true then some (E.set i (some b)) else none) = putV i b E q := by cases q <;> rfl
@[simp] theorem stor_o : stor i E (.o d) = putV i (.ow, d) E (free E i) := putV_eq
@[simp] theorem stor_s : stor i E (.s d) = putV i (.sh, d) E (free E i) := putV_eq
def stB (i : Nat) : Bool → Option (D × En) → Option En
  | true, some (d, E) => some (E.set i (some (.sh, d)))
  | _, _ => none
@[simp] theorem stB_t : stB i true (some (d, E)) = some (E.set i (some (.sh, d))) := rfl
@[simp] theorem stor_b : stor i E (.b k) = stB i (free E i) (share E (.b k)) := by
  show (if free E i = true then (share E (.b k)).map fun p => p.2.set i (some (.sh, p.1)) else none) = _
  cases free E i <;> cases share E (.b k) <;> rfl
/-! expressions -/
@[simp] theorem xD_e : xD d E = .ok (.s d, E) := rfl
def k2c (g : D → D → Option Ev) (E : En) : Option D → Option D → Res (Ev × En)
  | some a, some b => okO E (g a b)
  | _, _ => .fail
@[simp] theorem k2c_e : k2c g E (some a) (some b) = okO E (g a b) := rfl
def k2b (g : D → D → Option Ev) (e : Ev) (q : Ev × En) : Res (Ev × En) := k2c g q.2 (dat q.2 e) (dat q.2 q.1)
@[simp] theorem k2b_e : k2b g e1 (e, E) = k2c g E (dat E e1) (dat E e) := rfl
def k2a (g : D → D → Option Ev) (f : XE) (p : Ev × En) : Res (Ev × En) := (f p.2).bind (k2b g p.1)
@[simp] theorem k2a_e : k2a g f (e, E) = (f E).bind (k2b g e) := rfl
@[simp] theorem x2_e : x2 g f1 f2 E = (f1 E).bind (k2a g f2) := by
  show ((f1 E).bind fun p => (f2 p.2).bind fun q => (Res.of (dat q.2 p.1)).bind fun a => (Res.of (dat q.2 q.1)).bind fun b => (Res.of (g a b)).bind fun e => .ok (e, q.2)) = _
  congr 1; funext p; show _ = (f2 p.2).bind (k2b g p.1)
  congr 1; funext q; show _ = k2c g q.2 (dat q.2 p.1) (dat q.2 q.1)
  cases dat q.2 p.1 with
  | none => rfl
  | some a => cases dat q.2 q.1 with
    | none => rfl
    | some b => show (Res.of (g a b)).bind _ = okO q.2 (g a b); cases g a b <;> rfl
def k1b (g : D → Option Ev) (E : En) : Option D → Res (Ev × En)
  | some a => okO E (g a)
  | none => .fail
@[simp] theorem k1b_e {g : D → Option Ev} : k1b g E (some a) = okO E (g a) := rfl
def k1a (g : D → Option Ev) (p : Ev × En) : Res (Ev × En) := k1b g p.2 (dat p.2 p.1)
@[simp] theorem k1a_e {g : D → Option Ev} : k1a g (e, E) = k1b g E (dat E e) := rfl
@[simp] theorem x1_e {g : D → Option Ev} : x1 g f E = (f E).bind (k1a g) := by
  show ((f E).bind fun p => (Res.of (dat p.2 p.1)).bind fun a => (Res.of (g a)).bind fun e => .ok (e, p.2)) = _
  congr 1; funext p; show _ = k1b g p.2 (dat p.2 p.1)
  cases dat p.2 p.1 with
  | none => rfl
  | some a => show (Res.of (g a)).bind _ = okO p.2 (g a); cases g a <;> rfl
def k3d (g' : D → D → Option Ev) (e : Ev) (u : Ev × En) : Res (Ev × En) := k2c g' u.2 (dat u.2 e) (dat u.2 u.1)
@[simp] theorem k3d_e : k3d g' e1 (e, E) = k2c g' E (dat E e1) (dat E e) := rfl
def k3c (g' : D → D → Option Ev) (f3 : XE) (e : Ev) (E : En) : Ev → Res (Ev × En)
  | .s (.bl true) => (f3 E).bind (k3d g' e)
  | .s (.bl false) => .ok (.s (.bl false), E)
  | _ => .fail
@[simp] theorem k3c_b (b : Bool) : k3c g' f3 e E (.s (.bl b)) = if b = true then (f3 E).bind (k3d g' e) else .ok (.s (.bl false), E) := by cases b <;> rfl
def k3b' (g' : D → D → Option Ev) (f3 : XE) (e : Ev) (E : En) : Option Ev → Res (Ev × En)
  | some r => k3c g' f3 e E r
  | none => .fail
@[simp] theorem k3b'_e : k3b' g' f3 e E (some e1) = k3c g' f3 e E e1 := rfl
def k3b (g g' : D → D → Option Ev) (f3 : XE) (e1 e2 : Ev) (E : En) : Option D → Option D → Res (Ev × En)
  | some a, some b => k3b' g' f3 e2 E (g a b)
  | _, _ => .fail
@[simp] theorem k3b_e : k3b g g' f3 e1 e E (some a) (some b) = k3b' g' f3 e E (g a b) := rfl
def k3a' (g g' : D → D → Option Ev) (f3 : XE) (e1 : Ev) (q : Ev × En) : Res (Ev × En) := k3b g g' f3 e1 q.1 q.2 (dat q.2 e1) (dat q.2 q.1)
@[simp] theorem k3a'_e : k3a' g g' f3 e1 (e, E) = k3b g g' f3 e1 e E (dat E e1) (dat E e) := rfl
def k3a (g g' : D → D → Option Ev) (f2 f3 : XE) (p : Ev × En) : Res (Ev × En) := (f2 p.2).bind (k3a' g g' f3 p.1)
@[simp] theorem k3a_e : k3a g g' f2 f3 (e, E) = (f2 E).bind (k3a' g g' f3 e) := rfl
@[simp] theorem x3_e : x3 g g' f1 f2 f3 E = (f1 E).bind (k3a g g' f2 f3) := by
  show ((f1 E).bind fun p => (f2 p.2).bind fun q =>
  (Res.of (dat q.2 p.1)).bind fun a => (Res.of (dat q.2 q.1)).bind fun b => (Res.of (g a b)).bind fun e => match e with
    | .s (.bl true) => (f3 q.2).bind fun u => (Res.of (dat u.2 q.1)).bind fun b' => (Res.of (dat u.2 u.1)).bind fun d => (Res.of (g' b' d)).bind fun e' => .ok (e', u.2)
    | .s (.bl false) => .ok (.s (.bl false), q.2)
    | _ => .fail) = _
  congr 1; funext p; show _ = (f2 p.2).bind (k3a' g g' f3 p.1)
  congr 1; funext q; show _ = k3b g g' f3 p.1 q.1 q.2 (dat q.2 p.1) (dat q.2 q.1)
  cases dat q.2 p.1 with
  | none => rfl
  | some a =>
    cases dat q.2 q.1 with
    | none => rfl
    | some b =>
      show (Res.of (g a b)).bind _ = k3b' g' f3 q.1 q.2 (g a b)
      cases g a b with
      | none => rfl
      | some e =>
        show _ = k3c g' f3 q.1 q.2 e
        unfold k3c
        cases e with
        | s d =>
          cases d with
          | bl b =>
            cases b with
            | true =>
              show (f3 q.2).bind _ = (f3 q.2).bind (k3d g' q.1)
              congr 1; funext u; show _ = k2c g' u.2 (dat u.2 q.1) (dat u.2 u.1)
              cases dat u.2 q.1 with
              | none => rfl
              | some a => cases dat u.2 u.1 with
                | none => rfl
                | some b => show (Res.of (g' a b)).bind _ = okO u.2 (g' a b); cases g' a b <;> rfl
            | false => rfl
          | _ => rfl
        | _ => rfl
@[simp] theorem xs0_e : xs0 E = .ok ([], E) := rfl
def kCb (e : Ev) (q : List Ev × En) : Res (List Ev × En) := .ok (e.nm :: q.1, q.2)
@[simp] theorem kCb_e : kCb e (es, E) = .ok (e.nm :: es, E) := rfl
def kCa (fs : XA) (p : Ev × En) : Res (List Ev × En) := (fs p.2).bind (kCb p.1)
@[simp] theorem kCa_e : kCa fs (e, E) = (fs E).bind (kCb e) := rfl
@[simp] theorem xsC_e : xsC f fs E = (f E).bind (kCa fs) := rfl
def kLb (g : List D → Option Ev) (E : En) : Option (List D) → Res (Ev × En)
  | some ds => okO E (g ds)
  | none => .fail
@[simp] theorem kLb_e {g : List D → Option Ev} : kLb g E (some ds) = okO E (g ds) := rfl
def kLa (g : List D → Option Ev) (p : List Ev × En) : Res (Ev × En) := kLb g p.2 (dats p.2 p.1)
@[simp] theorem kLa_e {g : List D → Option Ev} : kLa g (es, E) = kLb g E (dats E es) := rfl
@[simp] theorem xL_e {g : List D → Option Ev} : xL g fs E = (fs E).bind (kLa g) := by
  show ((fs E).bind fun p => (Res.of (dats p.2 p.1)).bind fun ds => (Res.of (g ds)).bind fun e => .ok (e, p.2)) = _
  congr 1; funext p; show _ = kLb g p.2 (dats p.2 p.1)
  cases dats p.2 p.1 with
  | none => rfl
  | some ds => show (Res.of (g ds)).bind _ = okO p.2 (g ds); cases g ds <;> rfl
/-- a new tuple, a new list -/
def kTb : Option (List D × En) → Res (Ev × En)
  | some (ds, E) => if ds.length ≤ 16777216 then .ok (.s (.tup ds), E) else .fail
  | none => .fail
@[simp] theorem kTb_e : kTb (some (ds, E)) = if ds.length ≤ 16777216 then .ok (.s (.tup ds), E) else .fail := rfl
def kTa (p : List Ev × En) : Res (Ev × En) := kTb (shares p.2 p.1)
@[simp] theorem kTa_e : kTa (es, E) = kTb (shares E es) := rfl
@[simp] theorem xTup_e : xTup fs E = (fs E).bind kTa := by
  show ((fs E).bind fun p => (Res.of (shares p.2 p.1)).bind fun q => if q.1.length ≤ sizeLine then (.ok (.s (.tup q.1), q.2) : Res (Ev × En)) else .fail) = _
  rw [sizeLine_eq]
  congr 1; funext p; show _ = kTb (shares p.2 p.1); cases shares p.2 p.1 <;> rfl
def kNb : Option (List D × En) → Res (Ev × En)
  | some (ds, E) => if ds.length ≤ 16777216 then .ok (.o (.lst ds), E) else .fail
  | none => .fail
@[simp] theorem kNb_e : kNb (some (ds, E)) = if ds.length ≤ 16777216 then .ok (.o (.lst ds), E) else .fail := rfl
def kNa (p : List Ev × En) : Res (Ev × En) := kNb (shares p.2 p.1)
@[simp] theorem kNa_e : kNa (es, E) = kNb (shares E es) := rfl
@[simp] theorem xLst_e : xLst fs E = (fs E).bind kNa := by
  show ((fs E).bind fun p => (Res.of (shares p.2 p.1)).bind fun q => if q.1.length ≤ sizeLine then (.ok (.o (.lst q.1), q.2) : Res (Ev × En)) else .fail) = _
  rw [sizeLine_eq]
  congr 1; funext p; show _ = kNb (shares p.2 p.1); cases shares p.2 p.1 <;> rfl
def okB (E : En) : Option Bool → Res (Bool × En)
  | some b => .ok (b, E)
  | none => .fail
@[simp] theorem okB_some {b : Bool} : okB E (some b) = .ok (b, E) := rfl
def kUb (E : En) : Option D → Res (Bool × En)
  | some d => okB E (truth' d)
  | none => .fail
@[simp] theorem kUb_e : kUb E (some d) = okB E (truth' d) := rfl
def kUa (p : Ev × En) : Res (Bool × En) := kUb p.2 (dat p.2 p.1)
@[simp] theorem kUa_e : kUa (e, E) = kUb E (dat E e) := rfl
@[simp] theorem xTru'_e : xTru' f E = (f E).bind kUa := by
  show ((f E).bind fun p => (Res.of (dat p.2 p.1)).bind fun d => (Res.of (truth' d)).bind fun b => .ok (b, p.2)) = _
  congr 1; funext p; show _ = kUb p.2 (dat p.2 p.1)
  cases dat p.2 p.1 with
  | none => rfl
  | some d => show (Res.of (truth' d)).bind _ = okB p.2 (truth' d); cases truth' d <;> rfl
def blV (E : En) : Option D → Res (Bool × En)
  | some (.bl b) => .ok (b, E)
  | _ => .fail
@[simp] theorem blV_b (b : Bool) : blV E (some (.bl b)) = .ok (b, E) := rfl
def kBa (p : Ev × En) : Res (Bool × En) := blV p.2 (dat p.2 p.1)
@[simp] theorem kBa_e : kBa (e, E) = blV E (dat E e) := rfl
@[simp] theorem xBl_e : xBl f E = (f E).bind kBa := by
  show ((f E).bind fun p => (Res.of (dat p.2 p.1)).bind fun d => match d with
  | .bl b => .ok (b, p.2)
  | _ => .fail) = _
  congr 1; funext p; show _ = blV p.2 (dat p.2 p.1)
  cases dat p.2 p.1 with
  | none => rfl
  | some d => cases d <;> rfl
section
variable {t t1 t2 : XT} {b : Bool}
def kNot (p : Bool × En) : Res (Bool × En) := .ok (!p.1, p.2)
@[simp] theorem kNot_e : kNot (b, E) = .ok (!b, E) := rfl
@[simp] theorem xNot_e : xNot t E = (t E).bind kNot := rfl
def kAnd (t2 : XT) (p : Bool × En) : Res (Bool × En) := if p.1 = true then t2 p.2 else .ok (false, p.2)
@[simp] theorem kAnd_e : kAnd t2 (b, E) = if b = true then t2 E else .ok (false, E) := rfl
@[simp] theorem xAnd_e : xAnd t1 t2 E = (t1 E).bind (kAnd t2) := rfl
def kOr (t2 : XT) (p : Bool × En) : Res (Bool × En) := if p.1 = true then .ok (true, p.2) else t2 p.2
@[simp] theorem kOr_e : kOr t2 (b, E) = if b = true then .ok (true, E) else t2 E := rfl
@[simp] theorem xOr_e : xOr t1 t2 E = (t1 E).bind (kOr t2) := rfl
def kIf (f1 f2 : XE) (p : Bool × En) : Res (Ev × En) := if p.1 = true then f1 p.2 else f2 p.2
@[simp] theorem kIf_e : kIf f1 f2 (b, E) = if b = true then f1 E else f2 E := rfl
@[simp] theorem xIf_e : xIf t f1 f2 E = (t E).bind (kIf f1 f2) := rfl
def kNotV (p : Bool × En) : Res (Ev × En) := .ok (.s (.bl (!p.1)), p.2)
@[simp] theorem kNotV_e : kNotV (b, E) = .ok (.s (.bl (!b)), E) := rfl
@[simp] theorem xNotV_e : xNotV f E = (xBl f E).bind kNotV := rfl
def kAndV (f2 : XE) (p : Bool × En) : Res (Ev × En) := if p.1 = true then f2 p.2 else .ok (.s (.bl false), p.2)
@[simp] theorem kAndV_e : kAndV f2 (b, E) = if b = true then f2 E else .ok (.s (.bl false), E) := rfl
@[simp] theorem xAndV_e : xAndV f1 f2 E = (xBl f1 E).bind (kAndV f2) := rfl
def kOrV (f2 : XE) (p : Bool × En) : Res (Ev × En) := if p.1 = true then .ok (.s (.bl true), p.2) else f2 p.2
@[simp] theorem kOrV_e : kOrV f2 (b, E) = if b = true then .ok (.s (.bl true), E) else f2 E := rfl
@[simp] theorem xOrV_e : xOrV f1 f2 E = (xBl f1 E).bind (kOrV f2) := rfl
@[simp] theorem xYes_e : xYes E = .ok (true, E) := rfl
def okS' : Option (D × En) → Res (Ev × En)
  | some (d, E) => .ok (.s d, E)
  | none => .fail
@[simp] theorem okS'_e : okS' (some (d, E)) = .ok (.s d, E) := rfl
def kShr (p : Ev × En) : Res (Ev × En) := okS' (share p.2 p.1)
@[simp] theorem kShr_e : kShr (e, E) = okS' (share E e) := rfl
@[simp] theorem xShr_e : xShr f E = (f E).bind kShr := by
  show ((f E).bind fun p => (Res.of (share p.2 p.1)).bind fun q => (.ok (.s q.1, q.2) : Res (Ev × En))) = _
  congr 1; funext p; show _ = okS' (share p.2 p.1); cases share p.2 p.1 <;> rfl
end
/-! subscripts -/
@[simp] theorem xo0_e : xo0 E = .ok (none, E) := rfl
def ioV (E : En) : Option D → Res (Option Int × En)
  | some (.int i) => .ok (some i, E)
  | _ => .fail
@[simp] theorem ioV_i (i : Int) : ioV E (some (.int i)) = .ok (some i, E) := rfl
def kIo (p : Ev × En) : Res (Option Int × En) := ioV p.2 (dat p.2 p.1)
@[simp] theorem kIo_e : kIo (e, E) = ioV E (dat E e) := rfl
@[simp] theorem xo1_e : xo1 f E = (f E).bind kIo := by
  show ((f E).bind fun p => (Res.of (dat p.2 p.1)).bind fun d => match d with
  | .int i => .ok (some i, p.2)
  | _ => .fail) = _
  congr 1; funext p; show _ = ioV p.2 (dat p.2 p.1)
  cases dat p.2 p.1 with
  | none => rfl
  | some d => cases d <;> rfl
section
variable {l u : XO} {lo hi : Option Int}
def kXd (lo hi : Option Int) (E : En) : Option D → Res (Ev × En)
  | some d => okO E (gCut lo hi d)
  | none => .fail
@[simp] theorem kXd_e : kXd lo hi E (some d) = okO E (gCut lo hi d) := rfl
def kXc (e : Ev) (lo : Option Int) (r : Option Int × En) : Res (Ev × En) := kXd lo r.1 r.2 (dat r.2 e)
@[simp] theorem kXc_e : kXc e lo (hi, E) = kXd lo hi E (dat E e) := rfl
def kXb (u : XO) (e : Ev) (q : Option Int × En) : Res (Ev × En) := (u q.2).bind (kXc e q.1)
@[simp] theorem kXb_e : kXb u e (lo, E) = (u E).bind (kXc e lo) := rfl
def kXa (l u : XO) (p : Ev × En) : Res (Ev × En) := (l p.2).bind (kXb u p.1)
@[simp] theorem kXa_e : kXa l u (e, E) = (l E).bind (kXb u e) := rfl
@[simp] theorem xCut_e : xCut f l u E = (f E).bind (kXa l u) := by
  show ((f E).bind fun p => (l p.2).bind fun q => (u q.2).bind fun r => (Res.of (dat r.2 p.1)).bind fun d => (Res.of (gCut q.1 r.1 d)).bind fun e => .ok (e, r.2)) = _
  congr 1; funext p; show _ = (l p.2).bind (kXb u p.1)
  congr 1; funext q; show _ = (u q.2).bind (kXc p.1 q.1)
  congr 1; funext r; show _ = kXd q.1 r.1 r.2 (dat r.2 p.1)
  cases dat r.2 p.1 with
  | none => rfl
  | some d => show (Res.of (gCut q.1 r.1 d)).bind _ = okO r.2 (gCut q.1 r.1 d); cases gCut q.1 r.1 d <;> rfl
end

/-! operators -/
section
variable {a b : Int} {xs ys : List D}
@[simp] theorem gAdd_i : gAdd (.int a) (.int b) = some (.s (.int (a + b))) := rfl
@[simp] theorem gAdd_l : gAdd (.lst xs) (.lst ys) = if xs.length + ys.length ≤ 16777216 then some (.o (.lst (xs ++ ys))) else none := by rw [← sizeLine_eq]; rfl
@[simp] theorem gAdd_t : gAdd (.tup xs) (.tup ys) = if xs.length + ys.length ≤ 16777216 then some (.s (.tup (xs ++ ys))) else none := by rw [← sizeLine_eq]; rfl
@[simp] theorem i2_e {f : Int → Int → Int} : i2 f (.int a) (.int b) = some (.s (.int (f a b))) := rfl
@[simp] theorem b2_e {f : Int → Int → Bool} : b2 f (.int a) (.int b) = some (.s (.bl (f a b))) := rfl
theorem i2c_e {C : Int → Int → Prop} [∀ i j, Decidable (C i j)] {f : Int → Int → Int} : i2c C f (.int a) (.int b) = if C a b then some (.s (.int (f a b))) else none := rfl
@[simp] theorem i2c_div {f : Int → Int → Int} : i2c cDiv f (.int a) (.int b) = if 0 < b ∧ b < 1073741824 then some (.s (.int (f a b))) else none := by rw [i2c_e]; rfl
@[simp] theorem i2c_mod {f : Int → Int → Int} : i2c cMod f (.int a) (.int b) = if 0 < b then some (.s (.int (f a b))) else none := by rw [i2c_e]; rfl
@[simp] theorem i2c_mul {f : Int → Int → Int} : i2c cMul f (.int a) (.int b) = if (-(2 ^ 64) < a ∧ a < 2 ^ 64) ∨ (-(2 ^ 64) < b ∧ b < 2 ^ 64) then some (.s (.int (f a b))) else none := by rw [i2c_e]; rfl
@[simp] theorem i2c_pow {f : Int → Int → Int} : i2c cPow f (.int a) (.int b) = if 0 ≤ b ∧ b ≤ 1000000 ∧ a.natAbs < 2 ^ 64 then some (.s (.int (f a b))) else none := by rw [i2c_e]; rfl
@[simp] theorem gIsN_n (neg : Bool) : gIsN neg d .non = some (.s (.bl (if neg then !d.isN else d.isN))) := by cases d <;> rfl
@[simp] theorem gIx_l : gIx (.lst xs) (.int a) = (atI xs a).map .s := rfl
@[simp] theorem gIx_t : gIx (.tup xs) (.int a) = (atI xs a).map .s := rfl
@[simp] theorem gIx_s (ns : List Int) : gIx (.scr ns) (.int a) = (atI ns a).map fun n => .s (.int n) := rfl
@[simp] theorem gCut_l {lo hi : Option Int} : gCut lo hi (.lst xs) = some (.o (.lst (cutD xs lo hi))) := rfl
@[simp] theorem gNeg_i : gNeg (.int a) = some (.s (.int (-a))) := rfl
@[simp] theorem gAbs_i : gAbs [.int a] = some (.s (.int (if a < 0 then -a else a))) := rfl
@[simp] theorem gMax2_i : gMax2 [.int a, .int b] = some (.s (.int (if b > a then b else a))) := rfl
@[simp] theorem gMin2_i : gMin2 [.int a, .int b] = some (.s (.int (if b < a then b else a))) := rfl
@[simp] theorem gInt_i : gInt [.int a] = some (.s (.int a)) := rfl
@[simp] theorem gInt_b (k : Bool) : gInt [.bl k] = some (.s (.int (if k then 1 else 0))) := rfl
@[simp] theorem gLen_l : gLen [.lst xs] = some (.s (.int (xs.length : Int))) := rfl
@[simp] theorem gLen_t : gLen [.tup xs] = some (.s (.int (xs.length : Int))) := rfl
@[simp] theorem gLen_s (ns : List Int) : gLen [.scr ns] = some (.s (.int (ns.length : Int))) := rfl
@[simp] theorem gList_l : gList [.lst xs] = some (.o (.lst xs)) := rfl
@[simp] theorem gList_t : gList [.tup xs] = some (.o (.lst xs)) := rfl
@[simp] theorem gTuple_l : gTuple [.lst xs] = some (.s (.tup xs)) := rfl
@[simp] theorem gTuple_t : gTuple [.tup xs] = some (.s (.tup xs)) := rfl
@[simp] theorem gSum_l : gSum [.lst xs] = (intsOf xs).map fun ns => .s (.int ns.sum) := rfl
@[simp] theorem gMaxL_l : gMaxL [.lst xs] = (intsOf xs).bind fun ns => ns.max?.map fun m => .s (.int m) := rfl
@[simp] theorem gMinL_l : gMinL [.lst xs] = (intsOf xs).bind fun ns => ns.min?.map fun m => .s (.int m) := rfl
@[simp] theorem gIsT_e {T : String} : gIsT T d = (isTy T d).map fun b => .s (.bl b) := rfl
@[simp] theorem isTy_ii {i : Int} : isTy "int" (.int i) = some true := by show kitB "int" "int" = _; decide
@[simp] theorem isTy_ib {i : Int} : isTy "bool" (.int i) = some false := by show kitB "int" "bool" = _; decide
@[simp] theorem truth'_b (b : Bool) : truth' (.bl b) = some b := rfl
@[simp] theorem truth'_i : truth' (.int a) = some (a != 0) := rfl
@[simp] theorem truth'_l : truth' (.lst xs) = some (!xs.isEmpty) := rfl
@[simp] theorem truth'_t : truth' (.tup xs) = some (!xs.isEmpty) := rfl
@[simp] theorem truth'_n : truth' .non = some false := rfl
@[simp] theorem gAppend_e : gAppend (.lst xs) [d] = if xs.length < 16777216 then some (.lst (xs ++ [d]), .non) else none := by rw [← sizeLine_eq]; rfl
@[simp] theorem gPop_e : gPop (.lst xs) [] = xs.getLast?.map fun d => (.lst xs.dropLast, d) := rfl
@[simp] theorem gReverse_e : gReverse (.lst xs) [] = some (.lst xs.reverse, .non) := rfl
@[simp] theorem gExtend_e : gExtend (.lst xs) [.lst ys] = if xs.length + ys.length ≤ 16777216 then some (.lst (xs ++ ys), .non) else none := by rw [← sizeLine_eq]; rfl
end


/-! methods -/
section
variable {T : String} {g : D → List D → Option (D × D)} {K' : Kd}
def okM (i : Nat) (k : Kd) (E : En) : Option (D × D) → Res (Ev × En)
  | some (d, r) => .ok (.s r, E.set i (some (k, d)))
  | none => .fail
@[simp] theorem okM_e {r : D} : okM i K' E (some (d, r)) = .ok (.s r, E.set i (some (K', d))) := rfl
def mt2 (i : Nat) (g : D → List D → Option (D × D)) (ds : List D) (E : En) : Option (Option Bd) → Res (Ev × En)
  | some (some (k, d)) => if k ≠ .sh then okM i k E (g d ds) else .fail
  | _ => .fail
@[simp] theorem mt2_ow : mt2 i g ds E (some (some (.ow, d))) = okM i .ow E (g d ds) := rfl
@[simp] theorem mt2_io : mt2 i g ds E (some (some (.io, d))) = okM i .io E (g d ds) := rfl
def mt1 (i : Nat) (g : D → List D → Option (D × D)) : Option (List D × En) → Res (Ev × En)
  | some (ds, E) => mt2 i g ds E E[i]?
  | none => .fail
@[simp] theorem mt1_e : mt1 i g (some (ds, E)) = mt2 i g ds E E[i]? := rfl
def mt0 (i : Nat) (g : D → List D → Option (D × D)) (p : List Ev × En) : Res (Ev × En) := mt1 i g (shares p.2 p.1)
@[simp] theorem mt0_e : mt0 i g (es, E) = mt1 i g (shares E es) := rfl
def mtV (i : Nat) (T : String) (g : D → List D → Option (D × D)) (fs : XA) (E : En) : Option (Option Bd) → Res (Ev × En)
  | some (some (k0, d0)) => if (k0 ≠ .sh) ∧ isTyD T d0 = true then (fs E).bind (mt0 i g) else .fail
  | _ => .fail
@[simp] theorem mtV_ow : mtV i T g fs E (some (some (.ow, d))) = if isTyD T d = true then (fs E).bind (mt0 i g) else .fail := by
  show (if (Kd.ow ≠ .sh) ∧ isTyD T d = true then _ else _) = _
  by_cases h : isTyD T d = true
  · rw [if_pos ⟨by decide, h⟩, if_pos h]
  · rw [if_neg (fun z => h z.2), if_neg h]
@[simp] theorem mtV_io : mtV i T g fs E (some (some (.io, d))) = if isTyD T d = true then (fs E).bind (mt0 i g) else .fail := by
  show (if (Kd.io ≠ .sh) ∧ isTyD T d = true then _ else _) = _
  by_cases h : isTyD T d = true
  · rw [if_pos ⟨by decide, h⟩, if_pos h]
  · rw [if_neg (fun z => h z.2), if_neg h]
@[simp] theorem xMut_e : xMut i T g fs E = mtV i T g fs E E[i]? := by
  show ((match E[i]? with
  | some (some (k0, d0)) => if (k0 ≠ .sh) ∧ isTyD T d0 = true then (fs E).bind fun p => (Res.of (shares p.2 p.1)).bind fun q => match q.2[i]? with
    | some (some (k, d)) => if k ≠ .sh then (Res.of (g d q.1)).bind fun u => .ok (.s u.2, q.2.set i (some (k, u.1))) else .fail
    | _ => .fail
    else .fail
  | _ => .fail) : Res (Ev × En)) = _
  have key : (fun p : List Ev × En => (Res.of (shares p.2 p.1)).bind fun q => match (generalizing := false) q.2[i]? with
    | some (some (k, d)) => if k ≠ .sh then (Res.of (g d q.1)).bind fun u => .ok (.s u.2, q.2.set i (some (k, u.1))) else .fail
    | _ => .fail) = mt0 i g := by
    funext p
    show _ = mt1 i g (shares p.2 p.1)
    cases shares p.2 p.1 with
    | none => rfl
    | some q =>
      show (match q.2[i]? with
        | some (some (k, d)) => if k ≠ .sh then (Res.of (g d q.1)).bind fun u => .ok (.s u.2, q.2.set i (some (k, u.1))) else .fail
        | _ => .fail) = mt2 i g q.1 q.2 q.2[i]?
      unfold mt2
      split
      · split
        · rename_i k d _ _
          cases g d q.1 <;> rfl
        · rfl
      · rfl
  rw [key]
  rfl
end

/-! calls -/
def ldV : Option (Option Bd) → Option Bd
  | some (some (.sh, d)) => some (.sh, d)
  | some (some (_, d)) => some (.io, d)
  | _ => none
@[simp] theorem ldV_sh : ldV (some (some (.sh, d))) = some (.sh, d) := rfl
@[simp] theorem ldV_ow : ldV (some (some (.ow, d))) = some (.io, d) := rfl
@[simp] theorem ldV_io : ldV (some (some (.io, d))) = some (.io, d) := rfl
@[simp] theorem lend_s : lend E (.s d) = some (.sh, d) := rfl
@[simp] theorem lend_o : lend E (.o d) = some (.sh, d) := rfl
@[simp] theorem lend_b : lend E (.b i) = ldV E[i]? := rfl
@[simp] theorem lends_nil : lends E [] = some [] := rfl
@[simp] theorem lends_cons : lends E (e :: es) = consO (lend E e) (lends E es) := consO_eq _ _
def ltV (i : Nat) (l : List Nat) : Option (Option Bd) → List Nat
  | some (some (.sh, _)) => l
  | _ => i :: l
@[simp] theorem ltV_sh {l : List Nat} : ltV i l (some (some (.sh, d))) = l := rfl
@[simp] theorem ltV_ow {l : List Nat} : ltV i l (some (some (.ow, d))) = i :: l := rfl
@[simp] theorem ltV_io {l : List Nat} : ltV i l (some (some (.io, d))) = i :: l := rfl
@[simp] theorem lent_nil : lent E [] = [] := rfl
@[simp] theorem lent_s : lent E (.s d :: es) = lent E es := rfl
@[simp] theorem lent_o : lent E (.o d :: es) = lent E es := rfl
@[simp] theorem lnt_b : lent E (.b i :: es) = ltV i (lent E es) E[i]? := rfl
def rgV' (i : Nat) (E : En) (es : List Ev) (bs : En) : Option (Option Bd) → Option En
  | some (some (.sh, _)) => regain E es bs.tail
  | some (some (k, _)) => match bs with
      | some (.io, d) :: bs => (regain E es bs).map fun E' => E'.set i (some (k, d))
      | _ => none
  | _ => none
section
variable {bs : En} {d1 : D} {x : Option Bd}
@[simp] theorem rgV_sh : rgV' i E es bs (some (some (.sh, d))) = regain E es bs.tail := rfl
@[simp] theorem rgV_ow : rgV' i E es (some (.io, d1) :: bs) (some (some (.ow, d))) = (regain E es bs).map fun E' => E'.set i (some (.ow, d1)) := rfl
@[simp] theorem rgV_io : rgV' i E es (some (.io, d1) :: bs) (some (some (.io, d))) = (regain E es bs).map fun E' => E'.set i (some (.io, d1)) := rfl
@[simp] theorem regain_nil : regain E [] bs = some E := rfl
@[simp] theorem regain_s : regain E (.s d :: es) (x :: bs) = regain E es bs := rfl
@[simp] theorem regain_o : regain E (.o d :: es) (x :: bs) = regain E es bs := rfl
@[simp] theorem regain_b : regain E (.b i :: es) bs = rgV' i E es bs E[i]? := rfl
end
def loV (i : Nat) (E E' : En) : Option (Option Bd) → En
  | some (some (.sh, _)) => E'
  | _ => E'.set i none
@[simp] theorem loV_sh {E' : En} : loV i E E' (some (some (.sh, d))) = E' := rfl
@[simp] theorem loV_ow {E' : En} : loV i E E' (some (some (.ow, d))) = E'.set i none := rfl
@[simp] theorem loV_io {E' : En} : loV i E E' (some (some (.io, d))) = E'.set i none := rfl
@[simp] theorem lost_nil : lost E [] = E := rfl
@[simp] theorem lost_s : lost E (.s d :: es) = lost E es := rfl
@[simp] theorem lost_o : lost E (.o d :: es) = lost E es := rfl
@[simp] theorem lost_b : lost E (.b i :: es) = loV i E (lost E es) E[i]? := rfl


/-- what comes back of a call -/
def okE (e : Ev) : Option En → Res (Ev × En)
  | some E => .ok (e, E)
  | none => .fail
@[simp] theorem okE_e : okE e (some E) = .ok (e, E) := rfl
def bkR (E : En) (es : List Ev) : FR → Res (Ev × En)
  | .ok (.b _) _ => .fail
  | .ok e bs' => okE e (regain E es bs')
  | .ex k v => .ex k v (DS.lost E es)
  | .fail => .fail
@[simp] theorem bkR_s {bs : En} : bkR E es (.ok (.s d) bs) = okE (.s d) (regain E es bs) := rfl
@[simp] theorem bkR_o {bs : En} : bkR E es (.ok (.o d) bs) = okE (.o d) (regain E es bs) := rfl
@[simp] theorem bkR_x {v : V} : bkR E es (.ex k v) = .ex k v (DS.lost E es) := rfl
section
variable {n : Nat} {F : FS} {bs : List Bd}
def kFb (n : Nat) (F : FS) (E : En) (es : List Ev) : Option (List Bd) → Res (Ev × En)
  | some bs => if (lent E es).Nodup ∧ bs.length = n then bkR E es (F bs) else .fail
  | none => .fail
@[simp] theorem kFb_e : kFb n F E es (some bs) = if (lent E es).Nodup ∧ bs.length = n then bkR E es (F bs) else .fail := rfl
def kFa (n : Nat) (F : FS) (p : List Ev × En) : Res (Ev × En) := kFb n F p.2 p.1 (lends p.2 p.1)
@[simp] theorem kFa_e : kFa n F (es, E) = kFb n F E es (lends E es) := rfl
@[simp] theorem xCallN_e : xCallN n F fs E = (fs E).bind (kFa n F) := by
  show ((fs E).bind fun p => (Res.of (lends p.2 p.1)).bind fun bs => if (lent p.2 p.1).Nodup ∧ bs.length = n then
    (match F bs with
    | .ok (.b _) _ => .fail
    | .ok e bs' => (Res.of (regain p.2 p.1 bs')).bind fun E' => .ok (e, E')
    | .ex k v => .ex k v (DS.lost p.2 p.1)
    | .fail => .fail) else .fail) = _
  congr 1; funext p; show _ = kFb n F p.2 p.1 (lends p.2 p.1)
  cases lends p.2 p.1 with
  | none => rfl
  | some bs =>
    show (if (lent p.2 p.1).Nodup ∧ bs.length = n then _ else _) = (if (lent p.2 p.1).Nodup ∧ bs.length = n then _ else _)
    congr 1
    unfold bkR
    cases F bs with
    | ok e bs' => cases e <;> first | rfl | (show (Res.of (regain p.2 p.1 bs')).bind _ = okE _ (regain p.2 p.1 bs'); cases regain p.2 p.1 bs' <;> rfl)
    | ex k v => rfl
    | fail => rfl
end
/-! loops and comprehensions -/
@[simp] theorem itemsOf_l {xs : List D} : itemsOf (.lst xs) = some xs := rfl
@[simp] theorem itemsOf_t {xs : List D} : itemsOf (.tup xs) = some xs := rfl
def okI (E : En) : Option (List D) → Res (List D × En)
  | some ds => .ok (ds, E)
  | none => .fail
@[simp] theorem okI_e : okI E (some ds) = .ok (ds, E) := rfl
def kSb : Option (D × En) → Res (List D × En)
  | some (d, E) => okI E (itemsOf d)
  | none => .fail
@[simp] theorem kSb_e : kSb (some (d, E)) = okI E (itemsOf d) := rfl
def kSa (p : Ev × En) : Res (List D × En) := kSb (share p.2 p.1)
@[simp] theorem kSa_e : kSa (e, E) = kSb (share E e) := rfl
@[simp] theorem xiSeq_e : xiSeq f E = (f E).bind kSa := by
  show ((f E).bind fun p => (Res.of (share p.2 p.1)).bind fun q => (Res.of (itemsOf q.1)).bind fun ds => .ok (ds, q.2)) = _
  congr 1; funext p; show _ = kSb (share p.2 p.1)
  cases share p.2 p.1 with
  | none => rfl
  | some q => show (Res.of (itemsOf q.1)).bind _ = okI q.2 (itemsOf q.1); cases itemsOf q.1 <;> rfl
def rnV (E : En) : Option (List D) → Res (List D × En)
  | some [.int j] => if -(2 ^ 62) ≤ j ∧ j < 2 ^ 62 then .ok (rngD 0 j.toNat, E) else .fail
  | _ => .fail
@[simp] theorem rnV_i {j : Int} : rnV E (some [.int j]) = if -(2 ^ 62) ≤ j ∧ j < 2 ^ 62 then .ok (rngD 0 j.toNat, E) else .fail := rfl
theorem inR_if {α : Type} {j : Int} {x y : α} : (if inR j = true then x else y) = if -(2 ^ 62) ≤ j ∧ j < 2 ^ 62 then x else y := by
  unfold inR
  by_cases h : -(2 ^ 62) ≤ j ∧ j < 2 ^ 62
  · rw [if_pos h, if_pos (decide_eq_true h)]
  · rw [if_neg h, if_neg (by simpa using h)]
def kRa (p : List Ev × En) : Res (List D × En) := rnV p.2 (dats p.2 p.1)
@[simp] theorem kRa_e : kRa (es, E) = rnV E (dats E es) := rfl
@[simp] theorem xiRng1_e : xiRng1 fs E = (fs E).bind kRa := by
  show ((fs E).bind fun p => (Res.of (dats p.2 p.1)).bind fun ds => match ds with
  | [.int j] => if inR j = true then .ok (rngD 0 j.toNat, p.2) else .fail
  | _ => .fail) = _
  congr 1; funext p; show _ = rnV p.2 (dats p.2 p.1)
  cases dats p.2 p.1 with
  | none => rfl
  | some ds =>
    unfold rnV
    show ((match ds with
      | [.int j] => if inR j = true then .ok (rngD 0 j.toNat, p.2) else .fail
      | _ => .fail : Res (List D × En))) = _
    split
    · exact inR_if
    · rename_i h; split
      · rename_i j e; exact absurd (Option.some.inj e) (h j)
      · rfl
def rnW (E : En) : Option (List D) → Res (List D × En)
  | some [.int i, .int j] => if (-(2 ^ 62) ≤ i ∧ i < 2 ^ 62) ∧ (-(2 ^ 62) ≤ j ∧ j < 2 ^ 62) then .ok (rngD i (j - i).toNat, E) else .fail
  | _ => .fail
@[simp] theorem rnW_i {i j : Int} : rnW E (some [.int i, .int j]) = if (-(2 ^ 62) ≤ i ∧ i < 2 ^ 62) ∧ (-(2 ^ 62) ≤ j ∧ j < 2 ^ 62) then .ok (rngD i (j - i).toNat, E) else .fail := rfl
def kRw (p : List Ev × En) : Res (List D × En) := rnW p.2 (dats p.2 p.1)
@[simp] theorem kRw_e : kRw (es, E) = rnW E (dats E es) := rfl
@[simp] theorem xiRng2_e : xiRng2 fs E = (fs E).bind kRw := by
  show ((fs E).bind fun p => (Res.of (dats p.2 p.1)).bind fun ds => match ds with
  | [.int i, .int j] => if (inR i && inR j) = true then .ok (rngD i (j - i).toNat, p.2) else .fail
  | _ => .fail) = _
  congr 1; funext p; show _ = rnW p.2 (dats p.2 p.1)
  cases dats p.2 p.1 with
  | none => rfl
  | some ds =>
    unfold rnW
    show ((match ds with
      | [.int i, .int j] => if (inR i && inR j) = true then .ok (rngD i (j - i).toNat, p.2) else .fail
      | _ => .fail : Res (List D × En))) = _
    split
    · unfold inR; simp only [Bool.and_eq_true, decide_eq_true_eq]
    · rename_i h; split
      · rename_i i j e; exact absurd (Option.some.inj e) (h i j)
      · rfl
def lcE (E0 : En) (vs : List Nat) (q : List D × En) : Res (Ev × En) := .ok (.o (.lst q.1), backE E0 q.2 vs)
@[simp] theorem lcE_e {E0 : En} {vs : List Nat} : lcE E0 vs (ds, E) = .ok (.o (.lst ds), backE E0 E vs) := rfl
def kLc (g : XG) (t : XT) (f : XE) (vs : List Nat) (p : List D × En) : Res (Ev × En) := if noOwn p.2 vs = true then (lcL g t f vs p.1 (wipeE p.2 vs) []).bind (lcE p.2 vs) else .fail
@[simp] theorem kLc_e {g : XG} {t : XT} {vs : List Nat} : kLc g t f vs (ds, E) = if noOwn E vs = true then (lcL g t f vs ds (wipeE E vs) []).bind (lcE E vs) else .fail := rfl
@[simp] theorem xLc_e {fi : XI} {g : XG} {t : XT} {vs : List Nat} : xLc fi g t f vs E = (fi E).bind (kLc g t f vs) := rfl
@[simp] theorem wipeE_nil : wipeE E [] = E := rfl
@[simp] theorem wipeE_cons {v : Nat} {vs : List Nat} : wipeE E (v :: vs) = (wipeE E vs).set v none := rfl
@[simp] theorem backE_nil {E1 : En} : backE E E1 [] = E1 := rfl
@[simp] theorem backE_cons {E1 : En} {v : Nat} {vs : List Nat} : backE E E1 (v :: vs) = (backE E E1 vs).set v (E[v]?.join) := rfl
def nwV : Option (Option Bd) → Bool
  | some none => true
  | some (some (.sh, _)) => true
  | _ => false
@[simp] theorem nwV_n : nwV (some none) = true := rfl
@[simp] theorem nwV_s : nwV (some (some (.sh, d))) = true := rfl
@[simp] theorem noOwn_nil : noOwn E [] = true := rfl
@[simp] theorem noOwn_cons {v : Nat} {vs : List Nat} : noOwn E (v :: vs) = (nwV E[v]? && noOwn E vs) := rfl
def lcT (g : XG) (t : XT) (f : XE) (vs : List Nat) (ds acc : List D) : Option (D × En) → Res (List D × En)
  | some (d, E) => if acc.length < 16777216 then lcL g t f vs ds (wipeE E vs) (acc ++ [d]) else .fail
  | none => .fail
@[simp] theorem lcT_e {g : XG} {t : XT} {vs : List Nat} {acc : List D} : lcT g t f vs ds acc (some (d, E)) = if acc.length < 16777216 then lcL g t f vs ds (wipeE E vs) (acc ++ [d]) else .fail := rfl
def lcV (g : XG) (t : XT) (f : XE) (vs : List Nat) (ds acc : List D) (q : Ev × En) : Res (List D × En) := lcT g t f vs ds acc (share q.2 q.1)
@[simp] theorem lcV_e {g : XG} {t : XT} {vs : List Nat} {acc : List D} : lcV g t f vs ds acc (e, E) = lcT g t f vs ds acc (share E e) := rfl
def lcC (g : XG) (t : XT) (f : XE) (vs : List Nat) (ds acc : List D) (p : Bool × En) : Res (List D × En) := if p.1 = true then (f p.2).nox.bind (lcV g t f vs ds acc) else lcL g t f vs ds (wipeE p.2 vs) acc
@[simp] theorem lcC_e {g : XG} {t : XT} {vs : List Nat} {acc : List D} {b : Bool} : lcC g t f vs ds acc (b, E) = if b = true then (f E).nox.bind (lcV g t f vs ds acc) else lcL g t f vs ds (wipeE E vs) acc := rfl
def lcG (g : XG) (t : XT) (f : XE) (vs : List Nat) (ds acc : List D) : Option En → Res (List D × En)
  | some E => (t E).nox.bind (lcC g t f vs ds acc)
  | none => .fail
@[simp] theorem lcG_e {g : XG} {t : XT} {vs : List Nat} {acc : List D} : lcG g t f vs ds acc (some E) = (t E).nox.bind (lcC g t f vs ds acc) := rfl
/-- one turn of a comprehension -/
theorem lcL_c {g : XG} {t : XT} {vs : List Nat} {acc : List D} : lcL g t f vs (d :: ds) E acc = lcG g t f vs ds acc (g d E) := by
  rw [lcL_cons]
  cases g d E with
  | none => rfl
  | some E1 =>
    show (t E1).nox.bind _ = (t E1).nox.bind _
    congr 1; funext p; show _ = (if p.1 = true then (f p.2).nox.bind (lcV g t f vs ds acc) else lcL g t f vs ds (wipeE p.2 vs) acc)
    congr 1
    congr 1; funext q; show _ = lcT g t f vs ds acc (share q.2 q.1)
    cases share q.2 q.1 with
    | none => rfl
    | some r => show (if acc.length < sizeLine then _ else _) = (if acc.length < 16777216 then _ else _); rw [sizeLine_eq]
@[simp] theorem gSlot_e : gSlot i d E = putV i (.sh, d) E (free E i) := putV_eq
@[simp] theorem gNilD_e : gNilD [] E = some E := rfl
def gsB (gs : List D → En → Option En) (ds : List D) : Option En → Option En
  | some E => gs ds E
  | none => none
@[simp] theorem gsB_e {gs : List D → En → Option En} : gsB gs ds (some E) = gs ds E := rfl
@[simp] theorem gConsD_e {g : XG} {gs : List D → En → Option En} : gConsD g gs (d :: ds) E = gsB gs ds (g d E) := by
  show (g d E).bind _ = _
  cases g d E <;> rfl
@[simp] theorem gTupD_e {n : Nat} {gs : List D → En → Option En} : gTupD n gs (.tup ds) E = if ds.length = n then gs ds E else none := rfl
/-! statements -/
section
variable {s s1 s2 : XS} {t : XT} {b : Bool}
def Out.seq (o : Out) (s : XS) : Out := match o with
  | .nx E' => s E'
  | o => o
@[simp] theorem seq_nx : Out.seq (.nx E) s = s E := rfl
@[simp] theorem seq_rt : Out.seq (.rt e E) s = .rt e E := rfl
@[simp] theorem seq_ex {v : V} : Out.seq (.ex k v E) s = .ex k v E := rfl
@[simp] theorem seq_bk : Out.seq (.bk E) s = .bk E := rfl
@[simp] theorem seq_ct : Out.seq (.ct E) s = .ct E := rfl
@[simp] theorem seq_fail : Out.seq .fail s = .fail := rfl
@[simp] theorem sSeq_e : sSeq s1 s2 E = (s1 E).seq s2 := by
  show (match s1 E with
    | .nx E' => s2 E'
    | o => o) = _
  unfold Out.seq
  cases s1 E <;> rfl
@[simp] theorem sNext_e : sNext E = .nx E := rfl
@[simp] theorem sBrk_e : sBrk E = .bk E := rfl
@[simp] theorem sCnt_e : sCnt E = .ct E := rfl
def kEx (p : Ev × En) : Out := .nx p.2
@[simp] theorem kEx_e : kEx (e, E) = .nx E := rfl
@[simp] theorem sExp_e : sExp f E = (f E).out kEx := rfl
def kSif (s1 s2 : XS) (p : Bool × En) : Out := if p.1 = true then s1 p.2 else s2 p.2
@[simp] theorem kSif_e : kSif s1 s2 (b, E) = if b = true then s1 E else s2 E := rfl
@[simp] theorem sIf_e : sIf t s1 s2 E = (t E).out (kSif s1 s2) := rfl
def oeV (i : Nat) (E : En) : Option (Option Bd) → Out
  | some (some (.ow, d)) => .rt (.o d) (E.set i none)
  | some (some (.sh, d)) => .rt (.s d) E
  | _ => .fail
@[simp] theorem oeV_ow : oeV i E (some (some (.ow, d))) = .rt (.o d) (E.set i none) := rfl
@[simp] theorem oeV_sh : oeV i E (some (some (.sh, d))) = .rt (.s d) E := rfl
@[simp] theorem outE_s : outE E (.s d) = .rt (.s d) E := rfl
@[simp] theorem outE_o : outE E (.o d) = .rt (.o d) E := rfl
@[simp] theorem outE_b : outE E (.b i) = oeV i E E[i]? := rfl
def kRet (p : Ev × En) : Out := outE p.2 p.1
@[simp] theorem kRet_e : kRet (e, E) = outE E e := rfl
@[simp] theorem sRet_e : sRet f E = (f E).out kRet := rfl
@[simp] theorem sRetN_e : sRetN E = .rt (.s .non) E := rfl
def nxO : Option En → Out
  | some E => .nx E
  | none => .fail
@[simp] theorem nxO_e : nxO (some E) = .nx E := rfl
theorem nxO_eq {o : Option En} : (Res.of o).out (fun E' => .nx E') = nxO o := by cases o <;> rfl
def kSet (i : Nat) (p : Ev × En) : Out := nxO (stor i p.2 p.1)
@[simp] theorem kSet_e : kSet i (e, E) = nxO (stor i E e) := rfl
@[simp] theorem sSet_e : sSet i f E = (f E).out (kSet i) := by
  show ((f E).out fun p => (Res.of (stor i p.2 p.1)).out fun E' => .nx E') = _
  congr 1; funext p; exact nxO_eq
def kAg (g : XG) : Option (D × En) → Out
  | some (d, E) => nxO (g d E)
  | none => .fail
@[simp] theorem kAg_e {g : XG} : kAg g (some (d, E)) = nxO (g d E) := rfl
def kAs (g : XG) (p : Ev × En) : Out := kAg g (share p.2 p.1)
@[simp] theorem kAs_e {g : XG} : kAs g (e, E) = kAg g (share E e) := rfl
@[simp] theorem sAsg_e {g : XG} : sAsg f g E = (f E).out (kAs g) := by
  show ((f E).out fun p => (Res.of (share p.2 p.1)).out fun q => (Res.of (g q.1 q.2)).out fun E' => .nx E') = _
  congr 1; funext p; show _ = kAg g (share p.2 p.1)
  cases share p.2 p.1 with
  | none => rfl
  | some q => exact nxO_eq
def kFor (g : XG) (s : XS) (p : List D × En) : Out := forL g s p.1 p.2
@[simp] theorem kFor_e {g : XG} : kFor g s (ds, E) = forL g s ds E := rfl
@[simp] theorem sFor_e {fi : XI} {g : XG} : sFor fi g s E = (fi E).out (kFor g s) := rfl
@[simp] theorem lp_nx : lp s (.nx E) = s E := rfl
@[simp] theorem lp_ct : lp s (.ct E) = s E := rfl
@[simp] theorem lp_bk : lp s (.bk E) = .nx E := rfl
@[simp] theorem lp_rt : lp s (.rt e E) = .rt e E := rfl
@[simp] theorem lp_ex {v : V} : lp s (.ex k v E) = .ex k v E := rfl
@[simp] theorem fl_nil {g : XG} : forL g s [] E = .nx E := rfl
def fgV (s : XS) (k : XS) : Option En → Out
  | some E => lp k (s E)
  | none => .fail
@[simp] theorem fgV_e {k : XS} : fgV s k (some E) = lp k (s E) := rfl
/-- one turn of a for -/
theorem forL_c {g : XG} : forL g s (d :: ds) E = fgV s (forL g s ds) (g d E) := by
  rw [forL_cons]
  cases g d E <;> rfl
def kWh (s : XS) (t : XT) (n : Nat) (p : Bool × En) : Out := if p.1 = true then lp (whl t s n) (s p.2) else .nx p.2
@[simp] theorem kWh_e {n : Nat} : kWh s t n (b, E) = if b = true then lp (whl t s n) (s E) else .nx E := rfl
/-- one turn of a while -/
theorem whl_c {n : Nat} : whl t s (n + 1) E = (t E).out (kWh s t n) := rfl
def kPo (is : List Nat) (p : List Bd × En) : Out := nxO (storAll is p.1 p.2)
@[simp] theorem kPo_e {is : List Nat} {bs : List Bd} : kPo is (bs, E) = nxO (storAll is bs E) := rfl
@[simp] theorem sParO_e {is : List Nat} {fs : XOw} : sParO is fs E = (fs E).out (kPo is) := by
  show ((fs E).out fun p => (Res.of (storAll is p.1 p.2)).out fun E' => .nx E') = _
  congr 1; funext p; exact nxO_eq
@[simp] theorem ys0_e : ys0 E = .ok ([], E) := rfl
def ysD (b : Bd) (q : List Bd × En) : Res (List Bd × En) := .ok (b :: q.1, q.2)
@[simp] theorem ysD_e {b : Bd} {bs : List Bd} : ysD b (bs, E) = .ok (b :: bs, E) := rfl
def ysS (fs : XOw) : Option (D × En) → Res (List Bd × En)
  | some (d, E) => (fs E).bind (ysD (.sh, d))
  | none => .fail
@[simp] theorem ysS_e {fs : XOw} : ysS fs (some (d, E)) = (fs E).bind (ysD (.sh, d)) := rfl
def ysV (fs : XOw) (E : En) : Ev → Res (List Bd × En)
  | .o d => (fs E).bind (ysD (.ow, d))
  | e => ysS fs (share E e)
@[simp] theorem ysV_o {fs : XOw} : ysV fs E (.o d) = (fs E).bind (ysD (.ow, d)) := rfl
@[simp] theorem ysV_s {fs : XOw} : ysV fs E (.s d) = (fs E).bind (ysD (.sh, d)) := rfl
@[simp] theorem ysV_b {fs : XOw} : ysV fs E (.b i) = ysS fs (share E (.b i)) := rfl
def kYa (fs : XOw) (p : Ev × En) : Res (List Bd × En) := ysV fs p.2 p.1
@[simp] theorem kYa_e {fs : XOw} : kYa fs (e, E) = ysV fs E e := rfl
@[simp] theorem ysC_e {fs : XOw} : ysC f fs E = (f E).bind (kYa fs) := by
  show ((f E).bind fun p => match p.1 with
  | .o d => (fs p.2).bind fun q => .ok ((.ow, d) :: q.1, q.2)
  | e => (Res.of (share p.2 e)).bind fun r => (fs r.2).bind fun q => .ok ((.sh, r.1) :: q.1, q.2)) = _
  congr 1; funext p; show _ = ysV fs p.2 p.1
  obtain ⟨e, E⟩ := p
  cases e with
  | b i => show (Res.of (share E (.b i))).bind _ = ysS fs (share E (.b i)); cases share E (.b i) <;> rfl
  | _ => rfl
@[simp] theorem storAll_nil : storAll [] [] E = some E := rfl
def saV (i : Nat) (b : Bd) : Option En → Option En
  | some E => putV i b E (free E i)
  | none => none
@[simp] theorem saV_e {b : Bd} : saV i b (some E) = putV i b E (free E i) := rfl
@[simp] theorem storAll_cons {is : List Nat} {b : Bd} {bs : List Bd} : storAll (i :: is) (b :: bs) E = saV i b (storAll is bs E) := by
  show ((storAll is bs E).bind fun E' => if free E' i = true then some (E'.set i (some b)) else none) = _
  cases storAll is bs E with
  | none => rfl
  | some E' => exact putV_eq
/-! raise, try, defs -/
def rzV (k : Nat) (E : En) : Option D → Out
  | some (.str z) => if z.length ≤ 1000 then .ex k (.str z) E else .fail
  | _ => .fail
@[simp] theorem rzV_s {z : Str} : rzV k E (some (.str z)) = if z.length ≤ 1000 then .ex k (.str z) E else .fail := rfl
def kRz (k : Nat) (p : Ev × En) : Out := rzV k p.2 (dat p.2 p.1)
@[simp] theorem kRz_e : kRz k (e, E) = rzV k E (dat E e) := rfl
@[simp] theorem sRaise_e : sRaise' k f E = (f E).out (kRz k) := by
  show ((f E).out fun p => (Res.of (dat p.2 p.1)).out fun d => match d with
  | .str z => if z.length ≤ 1000 then .ex k (.str z) p.2 else .fail
  | _ => .fail) = _
  congr 1; funext p; show _ = rzV k p.2 (dat p.2 p.1)
  cases dat p.2 p.1 with
  | none => rfl
  | some d => cases d <;> rfl
def tyV (i nC : Nat) (ks : List Nat) (fh : Nat → V → XS) : Out → Out
  | .ex k v E' => if k < nC then (if k ∈ ks then (fh k v (E'.set i none)).gone i else .ex k v E') else .fail
  | o => o
@[simp] theorem tyV_x {nC : Nat} {ks : List Nat} {fh : Nat → V → XS} {v : V} : tyV i nC ks fh (.ex k v E) = if k < nC then (if k ∈ ks then (fh k v (E.set i none)).gone i else .ex k v E) else .fail := rfl
@[simp] theorem tyV_rt {nC : Nat} {ks : List Nat} {fh : Nat → V → XS} : tyV i nC ks fh (.rt e E) = .rt e E := rfl
@[simp] theorem tyV_nx {nC : Nat} {ks : List Nat} {fh : Nat → V → XS} : tyV i nC ks fh (.nx E) = .nx E := rfl
@[simp] theorem sTry_e {nC : Nat} {ks : List Nat} {fh : Nat → V → XS} : sTry i nC ks s fh E = tyV i nC ks fh (s E) := by
  show (match s E with
    | .ex k v E' => if k < nC then (if k ∈ ks then (fh k v (E'.set i none)).gone i else .ex k v E') else .fail
    | o => o) = _
  unfold tyV
  cases s E <;> rfl
@[simp] theorem gone_rt : Out.gone i (.rt e E) = .rt e E := rfl
@[simp] theorem shRet_s {xf : Nat → Str} {n z : Str} : shRet xf n k (.str z) E = if xf k = n then .rt (.s (.str z)) E else .fail := rfl
variable {bs : List Bd}
@[simp] theorem fr_nx : Out.fr bs (.nx E) = .ok (.s .non) (keepIo bs E) := rfl
@[simp] theorem fr_s : Out.fr bs (.rt (.s d) E) = .ok (.s d) (keepIo bs E) := rfl
@[simp] theorem fr_o : Out.fr bs (.rt (.o d) E) = .ok (.o d) (keepIo bs E) := rfl
@[simp] theorem fr_x {v : V} : Out.fr bs (.ex k v E) = .ex k v := rfl
@[simp] theorem fnOf_e {nl : Nat} : fnOf s nl bs = (s (bs.map some ++ List.replicate nl none)).fr bs := rfl
end
end DS

namespace DS
open PySem PySem.Spec L2
/-- a list of ints -/
abbrev IL (xs : List Int) : D := .lst (xs.map .int)
section
mutual
theorem pl_plB : ∀ d : D, d.pl = true → d.plB = true
  | .non, _ => rfl
  | .bl _, _ => rfl
  | .int _, _ => rfl
  | .str x, h => h
  | .tup xs, h => by simp only [D.pl] at h; simp only [D.plB]; exact pls_plB xs h
  | .lst xs, h => by simp only [D.pl] at h; simp only [D.plB]; exact pls_plB xs h
  | .dct _, h => by simp [D.pl] at h
  | .dtp _, h => by simp [D.pl] at h
  | .set _, h => by simp [D.pl] at h
  | .obj _ _, h => by simp [D.pl] at h
  | .scr _, h => by simp [D.pl] at h
theorem pls_plB : ∀ ds : List D, D.pls ds = true → D.plBs ds = true
  | [], _ => rfl
  | d :: ds, h => by
    simp only [D.pls, Bool.and_eq_true] at h
    simp only [D.plBs, Bool.and_eq_true]
    exact ⟨pl_plB d h.1, pls_plB ds h.2⟩
end
theorem pls_of : ∀ {ds : List D}, (∀ d ∈ ds, d.pl = true) → D.pls ds = true
  | [], _ => rfl
  | d :: ds, h => by
    simp only [D.pls, Bool.and_eq_true]
    exact ⟨h d (by simp), pls_of fun e he => h e (by simp [he])⟩
theorem deps_of {n : Nat} : ∀ {ds : List D}, (∀ d ∈ ds, d.dep ≤ n) → D.deps ds ≤ n
  | [], _ => by simp [D.deps]
  | d :: ds, h => by
    simp only [D.deps]
    exact Nat.max_le.mpr ⟨h d (by simp), deps_of fun e he => h e (by simp [he])⟩
/-- plain data of depth at most n -/
def Pl (n : Nat) (d : D) : Prop := d.pl = true ∧ d.dep ≤ n
theorem Pl.mono {n m : Nat} {d : D} (h : Pl n d) (q : n ≤ m) : Pl m d := ⟨h.1, Nat.le_trans h.2 q⟩
theorem Pl.shp {d : D} {n : Nat} (h : Pl n d) (q : n ≤ 64 := by decide) : d.shp = true := by
  unfold D.shp
  rw [pl_plB d h.1, decide_eq_true (Nat.le_trans h.2 q)]
  rfl
theorem Pl.int {n : Nat} {i : Int} : Pl n (.int i) := ⟨rfl, by simp [D.dep]⟩
theorem Pl.non {n : Nat} : Pl n .non := ⟨rfl, by simp [D.dep]⟩
theorem Pl.str {n : Nat} {x : Str} (h : PyData.strOk x = true) : Pl n (.str x) := ⟨by simpa [D.pl] using h, by simp [D.dep]⟩
theorem Pl.lst {n : Nat} {ds : List D} (h : ∀ d ∈ ds, Pl n d) : Pl (n + 1) (.lst ds) := ⟨by simp only [D.pl]; exact pls_of fun d hd => (h d hd).1, by simp only [D.dep]; exact Nat.succ_le_succ (deps_of fun d hd => (h d hd).2)⟩
theorem Pl.tup {n : Nat} {ds : List D} (h : ∀ d ∈ ds, Pl n d) : Pl (n + 1) (.tup ds) := ⟨by simp only [D.pl]; exact pls_of fun d hd => (h d hd).1, by simp only [D.dep]; exact Nat.succ_le_succ (deps_of fun d hd => (h d hd).2)⟩
theorem Pl.il {n : Nat} {xs : List Int} : Pl (n + 1) (IL xs) := Pl.lst fun d hd => by
  obtain ⟨i, _, rfl⟩ := List.mem_map.mp hd
  exact .int
theorem gEq_eq {n : Nat} {d : D} (neg : Bool) (h : Pl n d) (q : n ≤ 64 := by decide) : gEq neg d d = some (.s (.bl (!neg))) := by
  unfold gEq
  rw [h.shp q]
  have := (eqv_pl d d h.1 h.1).mpr rfl
  rw [this]
  cases neg <;> rfl
theorem gEq_ne {n : Nat} {d e : D} (neg : Bool) (h : Pl n d) (h' : Pl n e) (hn : d ≠ e) (q : n ≤ 64 := by decide) : gEq neg d e = some (.s (.bl neg)) := by
  unfold gEq
  rw [h.shp q, h'.shp q]
  have : PyData.eqv d.pd e.pd = false := by
    cases hq : PyData.eqv d.pd e.pd with
    | false => rfl
    | true => exact absurd ((eqv_pl d e h.1 h'.1).mp hq) hn
  rw [this]
  cases neg <;> rfl
theorem gEq_if {n : Nat} {d e : D} {p : Prop} [Decidable p] (neg : Bool) (h : Pl n d) (h' : Pl n e) (hp : d = e ↔ p) (q : n ≤ 64 := by decide) : gEq neg d e = some (.s (.bl (if neg then !decide p else decide p))) := by
  by_cases hq : d = e
  · subst hq
    rw [gEq_eq neg h q, decide_eq_true (hp.mp rfl)]
    cases neg <;> rfl
  · rw [gEq_ne neg h h' hq q, decide_eq_false (fun z => hq (hp.mpr z))]
    cases neg <;> rfl
@[simp] theorem gEq_ii {i j : Int} (neg : Bool) : gEq neg (.int i) (.int j) = some (.s (.bl (if neg then !decide (i = j) else decide (i = j)))) := gEq_if (n := 0) neg .int .int (by simp)
theorem il_inj {xs ys : List Int} : IL xs = IL ys ↔ xs = ys := by
  constructor
  · intro h
    exact (List.map_inj_right (f := D.int) (by intro a b e; cases e; rfl)).mp (by injection h)
  · rintro rfl; rfl
theorem gEq_il {xs ys : List Int} (neg : Bool) : gEq neg (IL xs) (IL ys) = some (.s (.bl (if neg then !decide (xs = ys) else decide (xs = ys)))) := gEq_if (n := 1) neg .il .il il_inj
@[simp] theorem gEq_bb {a b : Bool} (neg : Bool) : gEq neg (.bl a) (.bl b) = some (.s (.bl (if neg then !(a == b) else (a == b)))) := by cases a <;> cases b <;> cases neg <;> rfl
/-! places -/
@[simp] theorem atI_nat {α : Type} (xs : List α) (n : Nat) : atI xs (n : Int) = xs[n]? := by
  unfold atI ixN
  rw [if_pos (by omega)]
  by_cases h : n < xs.length
  · rw [if_pos (by omega)]
    simp
  · rw [if_neg (by omega), List.getElem?_eq_none (by omega)]
    rfl
@[simp] theorem atI_0 {α : Type} (xs : List α) : atI xs 0 = xs[0]? := atI_nat xs 0
@[simp] theorem atI_1 {α : Type} (xs : List α) : atI xs 1 = xs[1]? := atI_nat xs 1
@[simp] theorem atI_2 {α : Type} (xs : List α) : atI xs 2 = xs[2]? := atI_nat xs 2
@[simp] theorem atI_3 {α : Type} (xs : List α) : atI xs 3 = xs[3]? := atI_nat xs 3
@[simp] theorem atI_4 {α : Type} (xs : List α) : atI xs 4 = xs[4]? := atI_nat xs 4
@[simp] theorem atI_5 {α : Type} (xs : List α) : atI xs 5 = xs[5]? := atI_nat xs 5
@[simp] theorem atI_6 {α : Type} (xs : List α) : atI xs 6 = xs[6]? := atI_nat xs 6
@[simp] theorem atI_7 {α : Type} (xs : List α) : atI xs 7 = xs[7]? := atI_nat xs 7
@[simp] theorem atI_8 {α : Type} (xs : List α) : atI xs 8 = xs[8]? := atI_nat xs 8
@[simp] theorem atI_9 {α : Type} (xs : List α) : atI xs 9 = xs[9]? := atI_nat xs 9
@[simp] theorem atI_10 {α : Type} (xs : List α) : atI xs 10 = xs[10]? := atI_nat xs 10
@[simp] theorem atI_11 {α : Type} (xs : List α) : atI xs 11 = xs[11]? := atI_nat xs 11
@[simp] theorem atI_12 {α : Type} (xs : List α) : atI xs 12 = xs[12]? := atI_nat xs 12
@[simp] theorem atI_13 {α : Type} (xs : List α) : atI xs 13 = xs[13]? := atI_nat xs 13
@[simp] theorem atI_14 {α : Type} (xs : List α) : atI xs 14 = xs[14]? := atI_nat xs 14
@[simp] theorem atI_15 {α : Type} (xs : List α) : atI xs 15 = xs[15]? := atI_nat xs 15
@[simp] theorem atI_16 {α : Type} (xs : List α) : atI xs 16 = xs[16]? := atI_nat xs 16
theorem atI_add {α : Type} (xs : List α) (n m : Nat) : atI xs ((n : Int) + (m : Int)) = xs[n + m]? := by rw [← Int.natCast_add]; exact atI_nat xs _
theorem cutD_to (xs : List D) (n : Nat) : cutD xs none (some (n : Int)) = xs.take n := by
  unfold cutD
  rw [HT.sIx_nat]
  simp only [HT.sIx_none, List.drop_zero, Nat.sub_zero]
  by_cases h : n ≤ xs.length
  · rw [Nat.min_eq_left h]
  · rw [Nat.min_eq_right (by omega), List.take_of_length_le (by omega), List.take_of_length_le (by omega)]
theorem cutD_from (xs : List D) (n : Nat) : cutD xs (some (n : Int)) none = xs.drop n := by
  unfold cutD
  rw [HT.sIx_nat]
  simp only [HT.sIx_none]
  by_cases h : n ≤ xs.length
  · rw [Nat.min_eq_left h, List.take_of_length_le (by simp)]
  · rw [Nat.min_eq_right (by omega), List.drop_of_length_le (by omega), List.drop_of_length_le (by omega)]
    simp
theorem cutD_mid (xs : List D) (a b : Nat) : cutD xs (some (a : Int)) (some (b : Int)) = (xs.drop a).take (b - a) := by
  unfold cutD
  rw [HT.sIx_nat, HT.sIx_nat]
  by_cases h : a ≤ xs.length
  · rw [Nat.min_eq_left h]
    by_cases h' : b ≤ xs.length
    · rw [Nat.min_eq_left h']
    · rw [Nat.min_eq_right (Nat.le_of_lt (Nat.lt_of_not_le h')), List.take_of_length_le (by simp), List.take_of_length_le (by simp; omega)]
  · rw [Nat.min_eq_right (Nat.le_of_lt (Nat.lt_of_not_le h)), List.drop_of_length_le (Nat.le_refl _), List.drop_of_length_le (by omega)]
    simp
theorem cutD_from1 (xs : List D) : cutD xs (some 1) none = xs.drop 1 := cutD_from xs 1
theorem rngD_0 (n : Nat) : rngD 0 n = (List.range n).map fun (i : Nat) => .int (i : Int) := by
  unfold rngD
  refine List.map_congr_left fun i _ => ?_
  rw [Int.zero_add]
/-! comprehensions -/
theorem lc_none {g : XG} {t : XT} {f : XE} {vs : List Nat} {E : En} {acc : List D} : ∀ {ds : List D}, (∀ d ∈ ds, ∀ rest, lcL g t f vs (d :: rest) E acc = lcL g t f vs rest E acc) → lcL g t f vs ds E acc = .ok (acc, E)
  | [], _ => rfl
  | d :: ds, h => by
    rw [h d (by simp) ds]
    exact lc_none fun e he => h e (by simp [he])
theorem lc_map {α : Type} {g : XG} {t : XT} {f : XE} {vs : List Nat} {E : En} {φ ψ : α → D} : ∀ {xs : List α} {acc : List D}, (∀ x ∈ xs, ∀ rest acc, acc.length < 16777216 → lcL g t f vs (φ x :: rest) E acc = lcL g t f vs rest E (acc ++ [ψ x])) → acc.length + xs.length ≤ 16777216 → lcL g t f vs (xs.map φ) E acc = .ok (acc ++ xs.map ψ, E)
  | [], acc, _, _ => by simp
  | x :: xs, acc, h, hl => by
    simp only [List.length_cons] at hl
    rw [List.map_cons, h x (by simp) _ acc (by omega), lc_map (xs := xs) (acc := acc ++ [ψ x]) (fun e he => h e (by simp [he])) (by simp; omega)]
    simp
theorem lc_filter {α : Type} {g : XG} {t : XT} {f : XE} {vs : List Nat} {E : En} {φ ψ : α → D} {p : α → Bool} : ∀ {xs : List α} {acc : List D}, (∀ x ∈ xs, ∀ rest acc, acc.length < 16777216 → lcL g t f vs (φ x :: rest) E acc = lcL g t f vs rest E (if p x then acc ++ [ψ x] else acc)) → acc.length + xs.length ≤ 16777216 → lcL g t f vs (xs.map φ) E acc = .ok (acc ++ (xs.filter p).map ψ, E)
  | [], acc, _, _ => by simp
  | x :: xs, acc, h, hl => by
    simp only [List.length_cons] at hl
    rw [List.map_cons, h x (by simp) _ acc (by omega)]
    cases hp : p x with
    | true =>
      rw [if_pos rfl, lc_filter (xs := xs) (acc := acc ++ [ψ x]) (fun e he => h e (by simp [he])) (by simp; omega)]
      simp [List.filter_cons, hp]
    | false =>
      rw [if_neg (by decide), lc_filter (xs := xs) (acc := acc) (fun e he => h e (by simp [he])) (by omega)]
      simp [List.filter_cons, hp]
/-! < of lists of ints -/
theorem alike_ints : ∀ xs ys : List Int, PySem.W.alikeAll (D.pds (xs.map .int)) (D.pds (ys.map .int)) = true
  | [], _ => by simp [D.pds, PySem.W.alikeAll]
  | _ :: _, [] => by simp [D.pds, PySem.W.alikeAll]
  | x :: xs, y :: ys => by
    simp only [List.map_cons, D.pds, D.pd, PySem.W.alikeAll, PySem.W.alike, Bool.true_and]
    exact alike_ints xs ys
theorem lt_ints : ∀ xs ys : List Int, PySem.W.dataLt (.list (D.pds (xs.map .int))) (.list (D.pds (ys.map .int))) = lexI xs ys
  | [], [] => rfl
  | _ :: _, [] => by
    unfold PySem.W.dataLt
    simp only [PySem.W.keyToks]
    rw [toks_int]
    simp only [List.map_nil, D.pds, PySem.W.keyToksAll, lexI]
    rw [PyProof.Rows.lex_diff (O := PyProof.Rows.itemOrd) (by decide)]
    decide
  | [], y :: ys => by
    unfold PySem.W.dataLt
    simp only [PySem.W.keyToks]
    rw [toks_int]
    simp only [List.map_nil, D.pds, PySem.W.keyToksAll, lexI]
    rw [PyProof.Rows.lex_diff (O := PyProof.Rows.itemOrd) (by decide)]
    decide
  | x :: xs, y :: ys => by
    have ih := lt_ints xs ys
    unfold PySem.W.dataLt at ih ⊢
    simp only [PySem.W.keyToks] at ih ⊢
    rw [toks_int, toks_int, PyProof.Rows.lex_self (O := PyProof.Rows.itemOrd)]
    unfold lexI
    by_cases h : x = y
    · subst h
      rw [if_pos rfl, PyProof.Rows.lex_self (O := PyProof.Rows.itemOrd)]
      exact ih
    · rw [if_neg h, PyProof.Rows.lex_diff (O := PyProof.Rows.itemOrd) (fun z => h (Sum.inl.inj z))]
      rfl
theorem gLtD_il (xs ys : List Int) : gLtD (IL xs) (IL ys) = some (.s (.bl (lexI xs ys))) := by
  unfold gLtD
  have h1 : (IL xs).shp = true := (Pl.il (n := 0)).shp
  have h2 : (IL ys).shp = true := (Pl.il (n := 0)).shp
  have h3 : PySem.W.alike (IL xs).pd (IL ys).pd = true := by simp only [D.pd, PySem.W.alike]; exact alike_ints xs ys
  rw [h1, h2, h3]
  simp only [D.isN, D.pd]
  rw [lt_ints]
  rfl
end
end DS

namespace K16
open PySem PySem.Spec L2 DS
/-- the one field of each class of errors -/
def xfC : Nat → Str := fun _ => "what"
def b_is_number : XS :=
  (sRet (xAndV (x1 (gIsT "int") (xVar 0)) (xAndV (xNotV (x1 (gIsT "bool") (xVar 0))) (x3 (b2 fun i j => decide (i ≤ j)) (b2 fun i j => decide (i < j)) (xVar 1) (xVar 0) (xVar 2)))))
@[simp] theorem b_is_number_e (E : En) : b_is_number E =
  (sRet (xAndV (x1 (gIsT "int") (xVar 0)) (xAndV (xNotV (x1 (gIsT "bool") (xVar 0))) (x3 (b2 fun i j => decide (i ≤ j)) (b2 fun i j => decide (i < j)) (xVar 1) (xVar 0) (xVar 2))))) E := rfl
def F_is_number : FS := fnOf b_is_number 0
def q_check_bytes_1 : XT :=
  (xNot (xTru' (xCallN 3 F_is_number (xsC (xShr (xVar 1)) (xsC (xD (.int 0)) (xsC (xD (.int 256)) xs0))))))
@[simp] theorem q_check_bytes_1_e (E : En) : q_check_bytes_1 E =
  (xNot (xTru' (xCallN 3 F_is_number (xsC (xShr (xVar 1)) (xsC (xD (.int 0)) (xsC (xD (.int 256)) xs0)))))) E := rfl
def e_check_bytes_1 : XE :=
  (xVar 1)
@[simp] theorem e_check_bytes_1_e (E : En) : e_check_bytes_1 E =
  (xVar 1) E := rfl
def b_check_bytes : XS :=
  (sIf (xTru' (xLc (xiSeq (xVar 0)) (gSlot 1) q_check_bytes_1 e_check_bytes_1 [1]))
    (sRaise' 1 (xD (.str "byte")))
    sNext)
@[simp] theorem b_check_bytes_e (E : En) : b_check_bytes E =
  (sIf (xTru' (xLc (xiSeq (xVar 0)) (gSlot 1) q_check_bytes_1 e_check_bytes_1 [1]))
    (sRaise' 1 (xD (.str "byte")))
    sNext) E := rfl
def F_check_bytes : FS := fnOf b_check_bytes 1
def q_check_signs_1 : XT :=
  (xNot (xTru' (xCallN 3 F_is_number (xsC (xShr (xVar 1)) (xsC (xD (.int 0)) (xsC (xD (.int 1114112)) xs0))))))
@[simp] theorem q_check_signs_1_e (E : En) : q_check_signs_1 E =
  (xNot (xTru' (xCallN 3 F_is_number (xsC (xShr (xVar 1)) (xsC (xD (.int 0)) (xsC (xD (.int 1114112)) xs0)))))) E := rfl
def e_check_signs_1 : XE :=
  (xVar 1)
@[simp] theorem e_check_signs_1_e (E : En) : e_check_signs_1 E =
  (xVar 1) E := rfl
def b_check_signs : XS :=
  (sIf (xTru' (xLc (xiSeq (xVar 0)) (gSlot 1) q_check_signs_1 e_check_signs_1 [1]))
    (sRaise' 0 (xD (.str "sign")))
    sNext)
@[simp] theorem b_check_signs_e (E : En) : b_check_signs E =
  (sIf (xTru' (xLc (xiSeq (xVar 0)) (gSlot 1) q_check_signs_1 e_check_signs_1 [1]))
    (sRaise' 0 (xD (.str "sign")))
    sNext) E := rfl
def F_check_signs : FS := fnOf b_check_signs 1
def b_code_of : XS :=
  (sSeq (sIf (xBl (x2 (b2 fun i j => decide (i < j)) (xVar 0) (xD (.int 128))))
    (sRet (xLst (xsC (xVar 0) xs0)))
    sNext)
    (sSeq (sIf (xBl (x2 (b2 fun i j => decide (i < j)) (xVar 0) (xD (.int 2048))))
    (sRet (xLst (xsC (x2 gAdd (xD (.int 192)) (x2 (i2c cDiv (· / ·)) (xVar 0) (xD (.int 64)))) (xsC (x2 gAdd (xD (.int 128)) (x2 (i2c cMod (· % ·)) (xVar 0) (xD (.int 64)))) xs0))))
    sNext)
    (sSeq (sIf (xBl (x2 (b2 fun i j => decide (i < j)) (xVar 0) (xD (.int 65536))))
    (sRet (xLst (xsC (x2 gAdd (xD (.int 224)) (x2 (i2c cDiv (· / ·)) (xVar 0) (xD (.int 4096)))) (xsC (x2 gAdd (xD (.int 128)) (x2 (i2c cMod (· % ·)) (x2 (i2c cDiv (· / ·)) (xVar 0) (xD (.int 64))) (xD (.int 64)))) (xsC (x2 gAdd (xD (.int 128)) (x2 (i2c cMod (· % ·)) (xVar 0) (xD (.int 64)))) xs0)))))
    sNext)
    (sRet (xLst (xsC (x2 gAdd (xD (.int 240)) (x2 (i2c cDiv (· / ·)) (xVar 0) (xD (.int 262144)))) (xsC (x2 gAdd (xD (.int 128)) (x2 (i2c cMod (· % ·)) (x2 (i2c cDiv (· / ·)) (xVar 0) (xD (.int 4096))) (xD (.int 64)))) (xsC (x2 gAdd (xD (.int 128)) (x2 (i2c cMod (· % ·)) (x2 (i2c cDiv (· / ·)) (xVar 0) (xD (.int 64))) (xD (.int 64)))) (xsC (x2 gAdd (xD (.int 128)) (x2 (i2c cMod (· % ·)) (xVar 0) (xD (.int 64)))) xs0)))))))))
@[simp] theorem b_code_of_e (E : En) : b_code_of E =
  (sSeq (sIf (xBl (x2 (b2 fun i j => decide (i < j)) (xVar 0) (xD (.int 128))))
    (sRet (xLst (xsC (xVar 0) xs0)))
    sNext)
    (sSeq (sIf (xBl (x2 (b2 fun i j => decide (i < j)) (xVar 0) (xD (.int 2048))))
    (sRet (xLst (xsC (x2 gAdd (xD (.int 192)) (x2 (i2c cDiv (· / ·)) (xVar 0) (xD (.int 64)))) (xsC (x2 gAdd (xD (.int 128)) (x2 (i2c cMod (· % ·)) (xVar 0) (xD (.int 64)))) xs0))))
    sNext)
    (sSeq (sIf (xBl (x2 (b2 fun i j => decide (i < j)) (xVar 0) (xD (.int 65536))))
    (sRet (xLst (xsC (x2 gAdd (xD (.int 224)) (x2 (i2c cDiv (· / ·)) (xVar 0) (xD (.int 4096)))) (xsC (x2 gAdd (xD (.int 128)) (x2 (i2c cMod (· % ·)) (x2 (i2c cDiv (· / ·)) (xVar 0) (xD (.int 64))) (xD (.int 64)))) (xsC (x2 gAdd (xD (.int 128)) (x2 (i2c cMod (· % ·)) (xVar 0) (xD (.int 64)))) xs0)))))
    sNext)
    (sRet (xLst (xsC (x2 gAdd (xD (.int 240)) (x2 (i2c cDiv (· / ·)) (xVar 0) (xD (.int 262144)))) (xsC (x2 gAdd (xD (.int 128)) (x2 (i2c cMod (· % ·)) (x2 (i2c cDiv (· / ·)) (xVar 0) (xD (.int 4096))) (xD (.int 64)))) (xsC (x2 gAdd (xD (.int 128)) (x2 (i2c cMod (· % ·)) (x2 (i2c cDiv (· / ·)) (xVar 0) (xD (.int 64))) (xD (.int 64)))) (xsC (x2 gAdd (xD (.int 128)) (x2 (i2c cMod (· % ·)) (xVar 0) (xD (.int 64)))) xs0))))))))) E := rfl
def F_code_of : FS := fnOf b_code_of 0
def s_written_1 : XS :=
  (sExp (xMut 1 "list" gExtend (xsC (xCallN 1 F_code_of (xsC (xShr (xVar 2)) xs0)) xs0)))
@[simp] theorem s_written_1_e (E : En) : s_written_1 E =
  (sExp (xMut 1 "list" gExtend (xsC (xCallN 1 F_code_of (xsC (xShr (xVar 2)) xs0)) xs0))) E := rfl
def b_written : XS :=
  (sSeq (sSet 1 (xLst xs0))
    (sSeq (sFor (xiSeq (xVar 0)) (gSlot 2)
    s_written_1)
    (sRet (xVar 1))))
@[simp] theorem b_written_e (E : En) : b_written E =
  (sSeq (sSet 1 (xLst xs0))
    (sSeq (sFor (xiSeq (xVar 0)) (gSlot 2)
    s_written_1)
    (sRet (xVar 1)))) E := rfl
def F_written : FS := fnOf b_written 2
def b_bytes_of : XS :=
  (sSeq (sExp (xCallN 1 F_check_signs (xsC (xShr (xVar 0)) xs0)))
    (sRet (xCallN 1 F_written (xsC (xShr (xVar 0)) xs0))))
@[simp] theorem b_bytes_of_e (E : En) : b_bytes_of E =
  (sSeq (sExp (xCallN 1 F_check_signs (xsC (xShr (xVar 0)) xs0)))
    (sRet (xCallN 1 F_written (xsC (xShr (xVar 0)) xs0)))) E := rfl
def F_bytes_of : FS := fnOf b_bytes_of 0
def b_first_byte : XS :=
  (sSeq (sIf (xBl (x2 (b2 fun i j => decide (i < j)) (xVar 0) (xD (.int 128))))
    (sRet (xTup (xsC (xD (.int 1)) (xsC (xD (.int 0)) (xsC (xD (.int 0)) xs0)))))
    sNext)
    (sSeq (sIf (xBl (x3 (b2 fun i j => decide (i ≤ j)) (b2 fun i j => decide (i < j)) (xD (.int 194)) (xVar 0) (xD (.int 224))))
    (sRet (xTup (xsC (xD (.int 2)) (xsC (xD (.int 128)) (xsC (xD (.int 192)) xs0)))))
    sNext)
    (sSeq (sIf (xBl (x3 (b2 fun i j => decide (i ≤ j)) (b2 fun i j => decide (i < j)) (xD (.int 224)) (xVar 0) (xD (.int 240))))
    (sRet (xTup (xsC (xD (.int 3)) (xsC (xIf (xBl (x2 (gEq false) (xVar 0) (xD (.int 224)))) (xD (.int 160)) (xD (.int 128))) (xsC (xD (.int 192)) xs0)))))
    sNext)
    (sSeq (sIf (xBl (x3 (b2 fun i j => decide (i ≤ j)) (b2 fun i j => decide (i < j)) (xD (.int 240)) (xVar 0) (xD (.int 245))))
    (sRet (xTup (xsC (xD (.int 4)) (xsC (xIf (xBl (x2 (gEq false) (xVar 0) (xD (.int 240)))) (xD (.int 144)) (xD (.int 128))) (xsC (xIf (xBl (x2 (gEq false) (xVar 0) (xD (.int 244)))) (xD (.int 144)) (xD (.int 192))) xs0)))))
    sNext)
    (sRet (xTup (xsC (xD (.int 0)) (xsC (xD (.int 0)) (xsC (xD (.int 0)) xs0)))))))))
@[simp] theorem b_first_byte_e (E : En) : b_first_byte E =
  (sSeq (sIf (xBl (x2 (b2 fun i j => decide (i < j)) (xVar 0) (xD (.int 128))))
    (sRet (xTup (xsC (xD (.int 1)) (xsC (xD (.int 0)) (xsC (xD (.int 0)) xs0)))))
    sNext)
    (sSeq (sIf (xBl (x3 (b2 fun i j => decide (i ≤ j)) (b2 fun i j => decide (i < j)) (xD (.int 194)) (xVar 0) (xD (.int 224))))
    (sRet (xTup (xsC (xD (.int 2)) (xsC (xD (.int 128)) (xsC (xD (.int 192)) xs0)))))
    sNext)
    (sSeq (sIf (xBl (x3 (b2 fun i j => decide (i ≤ j)) (b2 fun i j => decide (i < j)) (xD (.int 224)) (xVar 0) (xD (.int 240))))
    (sRet (xTup (xsC (xD (.int 3)) (xsC (xIf (xBl (x2 (gEq false) (xVar 0) (xD (.int 224)))) (xD (.int 160)) (xD (.int 128))) (xsC (xD (.int 192)) xs0)))))
    sNext)
    (sSeq (sIf (xBl (x3 (b2 fun i j => decide (i ≤ j)) (b2 fun i j => decide (i < j)) (xD (.int 240)) (xVar 0) (xD (.int 245))))
    (sRet (xTup (xsC (xD (.int 4)) (xsC (xIf (xBl (x2 (gEq false) (xVar 0) (xD (.int 240)))) (xD (.int 144)) (xD (.int 128))) (xsC (xIf (xBl (x2 (gEq false) (xVar 0) (xD (.int 244)))) (xD (.int 144)) (xD (.int 192))) xs0)))))
    sNext)
    (sRet (xTup (xsC (xD (.int 0)) (xsC (xD (.int 0)) (xsC (xD (.int 0)) xs0))))))))) E := rfl
def F_first_byte : FS := fnOf b_first_byte 0
def w_reach_1 : XT :=
  (xAnd (xBl (x2 (b2 fun i j => decide (i < j)) (xVar 5) (xVar 2))) (xAnd (xBl (x2 (b2 fun i j => decide (i < j)) (x2 gAdd (xVar 1) (xVar 5)) (xL gLen (xsC (xVar 0) xs0)))) (xBl (x3 (b2 fun i j => decide (i ≤ j)) (b2 fun i j => decide (i < j)) (xVar 3) (x2 gIx (xVar 0) (x2 gAdd (xVar 1) (xVar 5))) (xVar 4)))))
@[simp] theorem w_reach_1_e (E : En) : w_reach_1 E =
  (xAnd (xBl (x2 (b2 fun i j => decide (i < j)) (xVar 5) (xVar 2))) (xAnd (xBl (x2 (b2 fun i j => decide (i < j)) (x2 gAdd (xVar 1) (xVar 5)) (xL gLen (xsC (xVar 0) xs0)))) (xBl (x3 (b2 fun i j => decide (i ≤ j)) (b2 fun i j => decide (i < j)) (xVar 3) (x2 gIx (xVar 0) (x2 gAdd (xVar 1) (xVar 5))) (xVar 4))))) E := rfl
def s_reach_1 : XS :=
  (sSeq (sSet 5 (x2 gAdd (xVar 5) (xD (.int 1))))
    (sAsg (xTup (xsC (xD (.int 128)) (xsC (xD (.int 192)) xs0))) (gTupD 2 (gConsD (gSlot 3) (gConsD (gSlot 4) gNilD)))))
@[simp] theorem s_reach_1_e (E : En) : s_reach_1 E =
  (sSeq (sSet 5 (x2 gAdd (xVar 5) (xD (.int 1))))
    (sAsg (xTup (xsC (xD (.int 128)) (xsC (xD (.int 192)) xs0))) (gTupD 2 (gConsD (gSlot 3) (gConsD (gSlot 4) gNilD))))) E := rfl
def b_reach : XS :=
  (sSeq (sAsg (xCallN 1 F_first_byte (xsC (x2 gIx (xVar 0) (xVar 1)) xs0)) (gTupD 3 (gConsD (gSlot 2) (gConsD (gSlot 3) (gConsD (gSlot 4) gNilD)))))
    (sSeq (sSet 5 (xD (.int 1)))
    (sSeq (whl w_reach_1
    s_reach_1 fuel)
    (sRet (xTup (xsC (xVar 5) (xsC (xVar 2) xs0)))))))
@[simp] theorem b_reach_e (E : En) : b_reach E =
  (sSeq (sAsg (xCallN 1 F_first_byte (xsC (x2 gIx (xVar 0) (xVar 1)) xs0)) (gTupD 3 (gConsD (gSlot 2) (gConsD (gSlot 3) (gConsD (gSlot 4) gNilD)))))
    (sSeq (sSet 5 (xD (.int 1)))
    (sSeq (whl w_reach_1
    s_reach_1 fuel)
    (sRet (xTup (xsC (xVar 5) (xsC (xVar 2) xs0))))))) E := rfl
def F_reach : FS := fnOf b_reach 4
def s_value_of_1 : XS :=
  (sSet 1 (x2 (i2 (· - ·)) (x2 gAdd (x2 (i2c cMul (· * ·)) (xD (.int 64)) (xVar 1)) (xVar 2)) (xD (.int 128))))
@[simp] theorem s_value_of_1_e (E : En) : s_value_of_1 E =
  (sSet 1 (x2 (i2 (· - ·)) (x2 gAdd (x2 (i2c cMul (· * ·)) (xD (.int 64)) (xVar 1)) (xVar 2)) (xD (.int 128)))) E := rfl
def b_value_of : XS :=
  (sSeq (sIf (xBl (x2 (gEq false) (xL gLen (xsC (xVar 0) xs0)) (xD (.int 1))))
    (sRet (x2 gIx (xVar 0) (xD (.int 0))))
    sNext)
    (sSeq (sSet 1 (x2 (i2 (· - ·)) (x2 gIx (xVar 0) (xD (.int 0))) (x2 gIx (xLst (xsC (xD (.int 0)) (xsC (xD (.int 0)) (xsC (xD (.int 192)) (xsC (xD (.int 224)) (xsC (xD (.int 240)) xs0)))))) (xL gLen (xsC (xVar 0) xs0)))))
    (sSeq (sFor (xiSeq (xCut (xVar 0) (xo1 (xD (.int 1))) xo0)) (gSlot 2)
    s_value_of_1)
    (sRet (xVar 1)))))
@[simp] theorem b_value_of_e (E : En) : b_value_of E =
  (sSeq (sIf (xBl (x2 (gEq false) (xL gLen (xsC (xVar 0) xs0)) (xD (.int 1))))
    (sRet (x2 gIx (xVar 0) (xD (.int 0))))
    sNext)
    (sSeq (sSet 1 (x2 (i2 (· - ·)) (x2 gIx (xVar 0) (xD (.int 0))) (x2 gIx (xLst (xsC (xD (.int 0)) (xsC (xD (.int 0)) (xsC (xD (.int 192)) (xsC (xD (.int 224)) (xsC (xD (.int 240)) xs0)))))) (xL gLen (xsC (xVar 0) xs0)))))
    (sSeq (sFor (xiSeq (xCut (xVar 0) (xo1 (xD (.int 1))) xo0)) (gSlot 2)
    s_value_of_1)
    (sRet (xVar 1))))) E := rfl
def F_value_of : FS := fnOf b_value_of 2
def w_cut_1 : XT :=
  (xBl (x2 (b2 fun i j => decide (i < j)) (xVar 2) (xL gLen (xsC (xVar 0) xs0))))
@[simp] theorem w_cut_1_e (E : En) : w_cut_1 E =
  (xBl (x2 (b2 fun i j => decide (i < j)) (xVar 2) (xL gLen (xsC (xVar 0) xs0)))) E := rfl
def s_cut_1 : XS :=
  (sSeq (sAsg (xCallN 2 F_reach (xsC (xShr (xVar 0)) (xsC (xShr (xVar 2)) xs0))) (gTupD 2 (gConsD (gSlot 3) (gConsD (gSlot 4) gNilD))))
    (sSeq (sExp (xMut 1 "list" gAppend (xsC (xTup (xsC (xIf (xBl (x2 (gEq false) (xVar 3) (xVar 4))) (xCallN 1 F_value_of (xsC (xCut (xVar 0) (xo1 (xVar 2)) (xo1 (x2 gAdd (xVar 2) (xVar 3)))) xs0)) (xD .non)) (xsC (xVar 3) xs0))) xs0)))
    (sSet 2 (x2 gAdd (xVar 2) (xVar 3)))))
@[simp] theorem s_cut_1_e (E : En) : s_cut_1 E =
  (sSeq (sAsg (xCallN 2 F_reach (xsC (xShr (xVar 0)) (xsC (xShr (xVar 2)) xs0))) (gTupD 2 (gConsD (gSlot 3) (gConsD (gSlot 4) gNilD))))
    (sSeq (sExp (xMut 1 "list" gAppend (xsC (xTup (xsC (xIf (xBl (x2 (gEq false) (xVar 3) (xVar 4))) (xCallN 1 F_value_of (xsC (xCut (xVar 0) (xo1 (xVar 2)) (xo1 (x2 gAdd (xVar 2) (xVar 3)))) xs0)) (xD .non)) (xsC (xVar 3) xs0))) xs0)))
    (sSet 2 (x2 gAdd (xVar 2) (xVar 3))))) E := rfl
def b_cut : XS :=
  (sSeq (sSet 1 (xLst xs0))
    (sSeq (sSet 2 (xD (.int 0)))
    (sSeq (whl w_cut_1
    s_cut_1 fuel)
    (sRet (xVar 1)))))
@[simp] theorem b_cut_e (E : En) : b_cut E =
  (sSeq (sSet 1 (xLst xs0))
    (sSeq (sSet 2 (xD (.int 0)))
    (sSeq (whl w_cut_1
    s_cut_1 fuel)
    (sRet (xVar 1))))) E := rfl
def F_cut : FS := fnOf b_cut 4
def e_read_bytes_1 : XE :=
  (xVar 2)
@[simp] theorem e_read_bytes_1_e (E : En) : e_read_bytes_1 E =
  (xVar 2) E := rfl
def b_read_bytes : XS :=
  (sSeq (sExp (xCallN 1 F_check_bytes (xsC (xShr (xVar 0)) xs0)))
    (sSeq (sSet 1 (xLc (xiSeq (xCallN 1 F_cut (xsC (xL gList (xsC (xVar 0) xs0)) xs0))) (gTupD 2 (gConsD (gSlot 2) (gConsD (gSlot 3) gNilD))) xYes e_read_bytes_1 [2, 3]))
    (sSeq (sIf (xBl (x2 (gInL false) (xD .non) (xVar 1)))
    (sRaise' 1 (xD (.str "piece")))
    sNext)
    (sRet (xVar 1)))))
@[simp] theorem b_read_bytes_e (E : En) : b_read_bytes E =
  (sSeq (sExp (xCallN 1 F_check_bytes (xsC (xShr (xVar 0)) xs0)))
    (sSeq (sSet 1 (xLc (xiSeq (xCallN 1 F_cut (xsC (xL gList (xsC (xVar 0) xs0)) xs0))) (gTupD 2 (gConsD (gSlot 2) (gConsD (gSlot 3) gNilD))) xYes e_read_bytes_1 [2, 3]))
    (sSeq (sIf (xBl (x2 (gInL false) (xD .non) (xVar 1)))
    (sRaise' 1 (xD (.str "piece")))
    sNext)
    (sRet (xVar 1))))) E := rfl
def F_read_bytes : FS := fnOf b_read_bytes 3
def e_read_with_1 : XE :=
  (xIf (xBl (x2 (gIsN false) (xVar 2) (xD .non))) (xVar 1) (xVar 2))
@[simp] theorem e_read_with_1_e (E : En) : e_read_with_1 E =
  (xIf (xBl (x2 (gIsN false) (xVar 2) (xD .non))) (xVar 1) (xVar 2)) E := rfl
def b_read_with : XS :=
  (sSeq (sExp (xCallN 1 F_check_bytes (xsC (xShr (xVar 0)) xs0)))
    (sSeq (sExp (xCallN 1 F_check_signs (xsC (xLst (xsC (xVar 1) xs0)) xs0)))
    (sRet (xLc (xiSeq (xCallN 1 F_cut (xsC (xL gList (xsC (xVar 0) xs0)) xs0))) (gTupD 2 (gConsD (gSlot 2) (gConsD (gSlot 3) gNilD))) xYes e_read_with_1 [2, 3]))))
@[simp] theorem b_read_with_e (E : En) : b_read_with E =
  (sSeq (sExp (xCallN 1 F_check_bytes (xsC (xShr (xVar 0)) xs0)))
    (sSeq (sExp (xCallN 1 F_check_signs (xsC (xLst (xsC (xVar 1) xs0)) xs0)))
    (sRet (xLc (xiSeq (xCallN 1 F_cut (xsC (xL gList (xsC (xVar 0) xs0)) xs0))) (gTupD 2 (gConsD (gSlot 2) (gConsD (gSlot 3) gNilD))) xYes e_read_with_1 [2, 3])))) E := rfl
def F_read_with : FS := fnOf b_read_with 2
def e_pieces_of_1 : XE :=
  (xTup (xsC (xIf (xBl (x2 (gIsN false) (xVar 1) (xD .non))) (xLst xs0) (xLst (xsC (xVar 1) xs0))) (xsC (xVar 2) xs0)))
@[simp] theorem e_pieces_of_1_e (E : En) : e_pieces_of_1 E =
  (xTup (xsC (xIf (xBl (x2 (gIsN false) (xVar 1) (xD .non))) (xLst xs0) (xLst (xsC (xVar 1) xs0))) (xsC (xVar 2) xs0))) E := rfl
def b_pieces_of : XS :=
  (sSeq (sExp (xCallN 1 F_check_bytes (xsC (xShr (xVar 0)) xs0)))
    (sRet (xLc (xiSeq (xCallN 1 F_cut (xsC (xL gList (xsC (xVar 0) xs0)) xs0))) (gTupD 2 (gConsD (gSlot 1) (gConsD (gSlot 2) gNilD))) xYes e_pieces_of_1 [1, 2])))
@[simp] theorem b_pieces_of_e (E : En) : b_pieces_of E =
  (sSeq (sExp (xCallN 1 F_check_bytes (xsC (xShr (xVar 0)) xs0)))
    (sRet (xLc (xiSeq (xCallN 1 F_cut (xsC (xL gList (xsC (xVar 0) xs0)) xs0))) (gTupD 2 (gConsD (gSlot 1) (gConsD (gSlot 2) gNilD))) xYes e_pieces_of_1 [1, 2]))) E := rfl
def F_pieces_of : FS := fnOf b_pieces_of 2
def s_first_wrong_1 : XS :=
  (sSeq (sIf (xBl (x2 (gIsN false) (xVar 2) (xD .non)))
    (sRet (xVar 1))
    sNext)
    (sSet 1 (x2 gAdd (xVar 1) (xVar 3))))
@[simp] theorem s_first_wrong_1_e (E : En) : s_first_wrong_1 E =
  (sSeq (sIf (xBl (x2 (gIsN false) (xVar 2) (xD .non)))
    (sRet (xVar 1))
    sNext)
    (sSet 1 (x2 gAdd (xVar 1) (xVar 3)))) E := rfl
def b_first_wrong : XS :=
  (sSeq (sExp (xCallN 1 F_check_bytes (xsC (xShr (xVar 0)) xs0)))
    (sSeq (sSet 1 (xD (.int 0)))
    (sSeq (sFor (xiSeq (xCallN 1 F_cut (xsC (xL gList (xsC (xVar 0) xs0)) xs0))) (gTupD 2 (gConsD (gSlot 2) (gConsD (gSlot 3) gNilD)))
    s_first_wrong_1)
    (sRet (xD .non)))))
@[simp] theorem b_first_wrong_e (E : En) : b_first_wrong E =
  (sSeq (sExp (xCallN 1 F_check_bytes (xsC (xShr (xVar 0)) xs0)))
    (sSeq (sSet 1 (xD (.int 0)))
    (sSeq (sFor (xiSeq (xCallN 1 F_cut (xsC (xL gList (xsC (xVar 0) xs0)) xs0))) (gTupD 2 (gConsD (gSlot 2) (gConsD (gSlot 3) gNilD)))
    s_first_wrong_1)
    (sRet (xD .non))))) E := rfl
def F_first_wrong : FS := fnOf b_first_wrong 3
def s_begin_at_1 : XS :=
  (sSeq (sIf (xBl (x2 (b2 fun i j => decide (j < i)) (x2 gAdd (xVar 2) (xVar 4)) (xVar 1)))
    (sRet (xVar 2))
    sNext)
    (sSet 2 (x2 gAdd (xVar 2) (xVar 4))))
@[simp] theorem s_begin_at_1_e (E : En) : s_begin_at_1 E =
  (sSeq (sIf (xBl (x2 (b2 fun i j => decide (j < i)) (x2 gAdd (xVar 2) (xVar 4)) (xVar 1)))
    (sRet (xVar 2))
    sNext)
    (sSet 2 (x2 gAdd (xVar 2) (xVar 4)))) E := rfl
def b_begin_at : XS :=
  (sSeq (sExp (xCallN 1 F_check_bytes (xsC (xShr (xVar 0)) xs0)))
    (sSeq (sIf (xNot (xBl (x3 (b2 fun i j => decide (i ≤ j)) (b2 fun i j => decide (i < j)) (xD (.int 0)) (xVar 1) (xL gLen (xsC (xVar 0) xs0)))))
    (sRaise' 1 (xD (.str "place")))
    sNext)
    (sSeq (sSet 2 (xD (.int 0)))
    (sSeq (sFor (xiSeq (xCallN 1 F_cut (xsC (xL gList (xsC (xVar 0) xs0)) xs0))) (gTupD 2 (gConsD (gSlot 3) (gConsD (gSlot 4) gNilD)))
    s_begin_at_1)
    (sRet (xVar 2))))))
@[simp] theorem b_begin_at_e (E : En) : b_begin_at E =
  (sSeq (sExp (xCallN 1 F_check_bytes (xsC (xShr (xVar 0)) xs0)))
    (sSeq (sIf (xNot (xBl (x3 (b2 fun i j => decide (i ≤ j)) (b2 fun i j => decide (i < j)) (xD (.int 0)) (xVar 1) (xL gLen (xsC (xVar 0) xs0)))))
    (sRaise' 1 (xD (.str "place")))
    sNext)
    (sSeq (sSet 2 (xD (.int 0)))
    (sSeq (sFor (xiSeq (xCallN 1 F_cut (xsC (xL gList (xsC (xVar 0) xs0)) xs0))) (gTupD 2 (gConsD (gSlot 3) (gConsD (gSlot 4) gNilD)))
    s_begin_at_1)
    (sRet (xVar 2)))))) E := rfl
def F_begin_at : FS := fnOf b_begin_at 3
def s__law_deck_1 : XS :=
  (sSeq (sExp (xMut 3 "list" gAppend (xsC (x2 (i2c cMod (· % ·)) (xL gInt (xsC (xVar 7) xs0)) (xD (.int 1000003))) xs0)))
    (sSet 7 (x2 (i2c cDiv (· / ·)) (xVar 7) (xD (.int 1000003)))))
@[simp] theorem s__law_deck_1_e (E : En) : s__law_deck_1 E =
  (sSeq (sExp (xMut 3 "list" gAppend (xsC (x2 (i2c cMod (· % ·)) (xL gInt (xsC (xVar 7) xs0)) (xD (.int 1000003))) xs0)))
    (sSet 7 (x2 (i2c cDiv (· / ·)) (xVar 7) (xD (.int 1000003))))) E := rfl
def s__law_deck_2 : XS :=
  (sSeq (sSet 4 (x2 (i2c cMod (· % ·)) (xL gInt (xsC (x2 gAdd (x2 gAdd (x2 (i2c cMul (· * ·)) (xVar 4) (xD (.int 69621))) (xVar 8)) (xD (.int 1))) xs0)) (xD (.int 2147483629))))
    (sExp (xMut 3 "list" gAppend (xsC (x2 (i2c cMod (· % ·)) (xL gInt (xsC (x2 (i2c cDiv (· / ·)) (xVar 4) (xD (.int 5))) xs0)) (xD (.int 1000003))) xs0))))
@[simp] theorem s__law_deck_2_e (E : En) : s__law_deck_2 E =
  (sSeq (sSet 4 (x2 (i2c cMod (· % ·)) (xL gInt (xsC (x2 gAdd (x2 gAdd (x2 (i2c cMul (· * ·)) (xVar 4) (xD (.int 69621))) (xVar 8)) (xD (.int 1))) xs0)) (xD (.int 2147483629))))
    (sExp (xMut 3 "list" gAppend (xsC (x2 (i2c cMod (· % ·)) (xL gInt (xsC (x2 (i2c cDiv (· / ·)) (xVar 4) (xD (.int 5))) xs0)) (xD (.int 1000003))) xs0)))) E := rfl
def s__law_deck_3 : XS :=
  (sSeq (sSet 6 (xD (.int 0)))
    (sSeq (sIf (xBl (x2 (b2 fun i j => decide (i < j)) (xVar 5) (xL gLen (xsC (xVar 0) xs0))))
    (sSet 6 (x2 gIx (xVar 0) (xVar 5)))
    sNext)
    (sSeq (sSet 7 (xL gAbs (xsC (xVar 6) xs0)))
    (sIf (xBl (x2 (b2 fun i j => decide (j ≤ i)) (xVar 7) (x2 (i2c cPow fun i j => i ^ j.toNat) (xD (.int 10)) (xD (.int 30)))))
    (sFor (xiRng1 (xsC (xVar 2) xs0)) (gSlot 8)
    s__law_deck_1)
    (sSeq (sSet 4 (x2 (i2c cMod (· % ·)) (xL gInt (xsC (x2 gAdd (x2 gAdd (x2 gAdd (x2 (i2c cMul (· * ·)) (xVar 4) (xD (.int 48271))) (x2 (i2c cMul (· * ·)) (xD (.int 2)) (xVar 7))) (xL gInt (xsC (x2 (b2 fun i j => decide (i < j)) (xVar 6) (xD (.int 0))) xs0))) (xVar 5)) xs0)) (xD (.int 2147483647))))
    (sFor (xiRng1 (xsC (xVar 2) xs0)) (gSlot 8)
    s__law_deck_2))))))
@[simp] theorem s__law_deck_3_e (E : En) : s__law_deck_3 E =
  (sSeq (sSet 6 (xD (.int 0)))
    (sSeq (sIf (xBl (x2 (b2 fun i j => decide (i < j)) (xVar 5) (xL gLen (xsC (xVar 0) xs0))))
    (sSet 6 (x2 gIx (xVar 0) (xVar 5)))
    sNext)
    (sSeq (sSet 7 (xL gAbs (xsC (xVar 6) xs0)))
    (sIf (xBl (x2 (b2 fun i j => decide (j ≤ i)) (xVar 7) (x2 (i2c cPow fun i j => i ^ j.toNat) (xD (.int 10)) (xD (.int 30)))))
    (sFor (xiRng1 (xsC (xVar 2) xs0)) (gSlot 8)
    s__law_deck_1)
    (sSeq (sSet 4 (x2 (i2c cMod (· % ·)) (xL gInt (xsC (x2 gAdd (x2 gAdd (x2 gAdd (x2 (i2c cMul (· * ·)) (xVar 4) (xD (.int 48271))) (x2 (i2c cMul (· * ·)) (xD (.int 2)) (xVar 7))) (xL gInt (xsC (x2 (b2 fun i j => decide (i < j)) (xVar 6) (xD (.int 0))) xs0))) (xVar 5)) xs0)) (xD (.int 2147483647))))
    (sFor (xiRng1 (xsC (xVar 2) xs0)) (gSlot 8)
    s__law_deck_2)))))) E := rfl
def b__law_deck : XS :=
  (sSeq (sSet 3 (xLst xs0))
    (sSeq (sSet 4 (x2 gAdd (xD (.int 7)) (xL gLen (xsC (xVar 0) xs0))))
    (sSeq (sFor (xiRng1 (xsC (xVar 1) xs0)) (gSlot 5)
    s__law_deck_3)
    (sSeq (sExp (xMut 3 "list" gReverse xs0))
    (sRet (xVar 3))))))
@[simp] theorem b__law_deck_e (E : En) : b__law_deck E =
  (sSeq (sSet 3 (xLst xs0))
    (sSeq (sSet 4 (x2 gAdd (xD (.int 7)) (xL gLen (xsC (xVar 0) xs0))))
    (sSeq (sFor (xiRng1 (xsC (xVar 1) xs0)) (gSlot 5)
    s__law_deck_3)
    (sSeq (sExp (xMut 3 "list" gReverse xs0))
    (sRet (xVar 3)))))) E := rfl
def F__law_deck : FS := fnOf b__law_deck 6
def b__law_take : XS :=
  (sSeq (sIf (xBl (x2 (gEq false) (xL gLen (xsC (xVar 0) xs0)) (xD (.int 0))))
    (sRet (xD (.int 0)))
    sNext)
    (sRet (x2 (i2c cMod (· % ·)) (xL gInt (xsC (xMut 0 "list" gPop xs0) xs0)) (xVar 1))))
@[simp] theorem b__law_take_e (E : En) : b__law_take E =
  (sSeq (sIf (xBl (x2 (gEq false) (xL gLen (xsC (xVar 0) xs0)) (xD (.int 0))))
    (sRet (xD (.int 0)))
    sNext)
    (sRet (x2 (i2c cMod (· % ·)) (xL gInt (xsC (xMut 0 "list" gPop xs0) xs0)) (xVar 1)))) E := rfl
def F__law_take : FS := fnOf b__law_take 0
def s__law_bytes_1 : XS :=
  (sIf (xBl (x2 (b2 fun i j => decide (i < j)) (xVar 2) (xD (.int 128))))
    (sSet 1 (x2 gAdd (xVar 1) (xLst (xsC (xVar 2) xs0))))
    (sIf (xBl (x2 (b2 fun i j => decide (i < j)) (xVar 2) (xD (.int 2048))))
    (sSet 1 (x2 gAdd (xVar 1) (xLst (xsC (x2 gAdd (xD (.int 192)) (x2 (i2c cDiv (· / ·)) (xVar 2) (xD (.int 64)))) (xsC (x2 gAdd (xD (.int 128)) (x2 (i2c cMod (· % ·)) (xVar 2) (xD (.int 64)))) xs0)))))
    (sIf (xBl (x2 (b2 fun i j => decide (i < j)) (xVar 2) (xD (.int 65536))))
    (sSet 1 (x2 gAdd (xVar 1) (xLst (xsC (x2 gAdd (xD (.int 224)) (x2 (i2c cDiv (· / ·)) (xVar 2) (xD (.int 4096)))) (xsC (x2 gAdd (xD (.int 128)) (x2 (i2c cMod (· % ·)) (x2 (i2c cDiv (· / ·)) (xVar 2) (xD (.int 64))) (xD (.int 64)))) (xsC (x2 gAdd (xD (.int 128)) (x2 (i2c cMod (· % ·)) (xVar 2) (xD (.int 64)))) xs0))))))
    (sSet 1 (x2 gAdd (xVar 1) (xLst (xsC (x2 gAdd (xD (.int 240)) (x2 (i2c cDiv (· / ·)) (xVar 2) (xD (.int 262144)))) (xsC (x2 gAdd (xD (.int 128)) (x2 (i2c cMod (· % ·)) (x2 (i2c cDiv (· / ·)) (xVar 2) (xD (.int 4096))) (xD (.int 64)))) (xsC (x2 gAdd (xD (.int 128)) (x2 (i2c cMod (· % ·)) (x2 (i2c cDiv (· / ·)) (xVar 2) (xD (.int 64))) (xD (.int 64)))) (xsC (x2 gAdd (xD (.int 128)) (x2 (i2c cMod (· % ·)) (xVar 2) (xD (.int 64)))) xs0))))))))))
@[simp] theorem s__law_bytes_1_e (E : En) : s__law_bytes_1 E =
  (sIf (xBl (x2 (b2 fun i j => decide (i < j)) (xVar 2) (xD (.int 128))))
    (sSet 1 (x2 gAdd (xVar 1) (xLst (xsC (xVar 2) xs0))))
    (sIf (xBl (x2 (b2 fun i j => decide (i < j)) (xVar 2) (xD (.int 2048))))
    (sSet 1 (x2 gAdd (xVar 1) (xLst (xsC (x2 gAdd (xD (.int 192)) (x2 (i2c cDiv (· / ·)) (xVar 2) (xD (.int 64)))) (xsC (x2 gAdd (xD (.int 128)) (x2 (i2c cMod (· % ·)) (xVar 2) (xD (.int 64)))) xs0)))))
    (sIf (xBl (x2 (b2 fun i j => decide (i < j)) (xVar 2) (xD (.int 65536))))
    (sSet 1 (x2 gAdd (xVar 1) (xLst (xsC (x2 gAdd (xD (.int 224)) (x2 (i2c cDiv (· / ·)) (xVar 2) (xD (.int 4096)))) (xsC (x2 gAdd (xD (.int 128)) (x2 (i2c cMod (· % ·)) (x2 (i2c cDiv (· / ·)) (xVar 2) (xD (.int 64))) (xD (.int 64)))) (xsC (x2 gAdd (xD (.int 128)) (x2 (i2c cMod (· % ·)) (xVar 2) (xD (.int 64)))) xs0))))))
    (sSet 1 (x2 gAdd (xVar 1) (xLst (xsC (x2 gAdd (xD (.int 240)) (x2 (i2c cDiv (· / ·)) (xVar 2) (xD (.int 262144)))) (xsC (x2 gAdd (xD (.int 128)) (x2 (i2c cMod (· % ·)) (x2 (i2c cDiv (· / ·)) (xVar 2) (xD (.int 4096))) (xD (.int 64)))) (xsC (x2 gAdd (xD (.int 128)) (x2 (i2c cMod (· % ·)) (x2 (i2c cDiv (· / ·)) (xVar 2) (xD (.int 64))) (xD (.int 64)))) (xsC (x2 gAdd (xD (.int 128)) (x2 (i2c cMod (· % ·)) (xVar 2) (xD (.int 64)))) xs0)))))))))) E := rfl
def b__law_bytes : XS :=
  (sSeq (sSet 1 (xLst xs0))
    (sSeq (sFor (xiSeq (xVar 0)) (gSlot 2)
    s__law_bytes_1)
    (sRet (xVar 1))))
@[simp] theorem b__law_bytes_e (E : En) : b__law_bytes E =
  (sSeq (sSet 1 (xLst xs0))
    (sSeq (sFor (xiSeq (xVar 0)) (gSlot 2)
    s__law_bytes_1)
    (sRet (xVar 1)))) E := rfl
def F__law_bytes : FS := fnOf b__law_bytes 2
def s__law_starts_1 : XS :=
  (sSeq (sIf (xOr (xNot (xBl (x3 (b2 fun i j => decide (i ≤ j)) (b2 fun i j => decide (i < j)) (xD (.int 128)) (xVar 5) (xD (.int 192))))) (xBl (x2 (gEq false) (xVar 4) (xD (.int 1)))))
    (sRet (xD .non))
    sNext)
    (sSeq (sSet 6 (x2 (i2c cMul (· * ·)) (x2 (i2c cDiv (· / ·)) (xVar 2) (xVar 4)) (xVar 4)))
    (sSeq (sSet 4 (x2 (i2c cDiv (· / ·)) (xVar 4) (xD (.int 64))))
    (sSeq (sSet 6 (x2 gAdd (xVar 6) (x2 (i2c cMul (· * ·)) (x2 (i2 (· - ·)) (xVar 5) (xD (.int 128))) (xVar 4))))
    (sSeq (sParO [2, 3] (ysC (xL gMax2 (xsC (xVar 2) (xsC (xVar 6) xs0))) (ysC (xL gMin2 (xsC (xVar 3) (xsC (x2 (i2 (· - ·)) (x2 gAdd (xVar 6) (xVar 4)) (xD (.int 1))) xs0))) ys0)))
    (sIf (xBl (x2 (b2 fun i j => decide (j < i)) (xVar 2) (xVar 3)))
    (sRet (xD .non))
    sNext))))))
@[simp] theorem s__law_starts_1_e (E : En) : s__law_starts_1 E =
  (sSeq (sIf (xOr (xNot (xBl (x3 (b2 fun i j => decide (i ≤ j)) (b2 fun i j => decide (i < j)) (xD (.int 128)) (xVar 5) (xD (.int 192))))) (xBl (x2 (gEq false) (xVar 4) (xD (.int 1)))))
    (sRet (xD .non))
    sNext)
    (sSeq (sSet 6 (x2 (i2c cMul (· * ·)) (x2 (i2c cDiv (· / ·)) (xVar 2) (xVar 4)) (xVar 4)))
    (sSeq (sSet 4 (x2 (i2c cDiv (· / ·)) (xVar 4) (xD (.int 64))))
    (sSeq (sSet 6 (x2 gAdd (xVar 6) (x2 (i2c cMul (· * ·)) (x2 (i2 (· - ·)) (xVar 5) (xD (.int 128))) (xVar 4))))
    (sSeq (sParO [2, 3] (ysC (xL gMax2 (xsC (xVar 2) (xsC (xVar 6) xs0))) (ysC (xL gMin2 (xsC (xVar 3) (xsC (x2 (i2 (· - ·)) (x2 gAdd (xVar 6) (xVar 4)) (xD (.int 1))) xs0))) ys0)))
    (sIf (xBl (x2 (b2 fun i j => decide (j < i)) (xVar 2) (xVar 3)))
    (sRet (xD .non))
    sNext)))))) E := rfl
def b__law_starts : XS :=
  (sSeq (sSet 1 (x2 gIx (xVar 0) (xD (.int 0))))
    (sSeq (sIf (xBl (x2 (b2 fun i j => decide (i < j)) (xVar 1) (xD (.int 128))))
    (sRet (xIf (xBl (x2 (gEq false) (xL gLen (xsC (xVar 0) xs0)) (xD (.int 1)))) (xLst (xsC (xVar 1) (xsC (xVar 1) xs0))) (xD .non)))
    sNext)
    (sSeq (sIf (xBl (x3 (b2 fun i j => decide (i ≤ j)) (b2 fun i j => decide (i < j)) (xD (.int 194)) (xVar 1) (xD (.int 224))))
    (sParO [2, 3] (ysC (x2 (i2c cMul (· * ·)) (x2 (i2 (· - ·)) (xVar 1) (xD (.int 192))) (xD (.int 64))) (ysC (x2 gAdd (x2 (i2c cMul (· * ·)) (x2 (i2 (· - ·)) (xVar 1) (xD (.int 192))) (xD (.int 64))) (xD (.int 63))) ys0)))
    (sIf (xBl (x3 (b2 fun i j => decide (i ≤ j)) (b2 fun i j => decide (i < j)) (xD (.int 224)) (xVar 1) (xD (.int 240))))
    (sParO [2, 3] (ysC (xL gMax2 (xsC (xD (.int 2048)) (xsC (x2 (i2c cMul (· * ·)) (x2 (i2 (· - ·)) (xVar 1) (xD (.int 224))) (xD (.int 4096))) xs0))) (ysC (x2 gAdd (x2 (i2c cMul (· * ·)) (x2 (i2 (· - ·)) (xVar 1) (xD (.int 224))) (xD (.int 4096))) (xD (.int 4095))) ys0)))
    (sIf (xBl (x3 (b2 fun i j => decide (i ≤ j)) (b2 fun i j => decide (i < j)) (xD (.int 240)) (xVar 1) (xD (.int 245))))
    (sParO [2, 3] (ysC (xL gMax2 (xsC (xD (.int 65536)) (xsC (x2 (i2c cMul (· * ·)) (x2 (i2 (· - ·)) (xVar 1) (xD (.int 240))) (xD (.int 262144))) xs0))) (ysC (xL gMin2 (xsC (xD (.int 1114111)) (xsC (x2 gAdd (x2 (i2c cMul (· * ·)) (x2 (i2 (· - ·)) (xVar 1) (xD (.int 240))) (xD (.int 262144))) (xD (.int 262143))) xs0))) ys0)))
    (sRet (xD .non)))))
    (sSeq (sSet 4 (xIf (xBl (x2 (b2 fun i j => decide (i < j)) (xVar 1) (xD (.int 224)))) (xD (.int 64)) (xIf (xBl (x2 (b2 fun i j => decide (i < j)) (xVar 1) (xD (.int 240)))) (xD (.int 4096)) (xD (.int 262144)))))
    (sSeq (sFor (xiSeq (xCut (xVar 0) (xo1 (xD (.int 1))) xo0)) (gSlot 5)
    s__law_starts_1)
    (sRet (xLst (xsC (xVar 2) (xsC (xVar 3) xs0)))))))))
@[simp] theorem b__law_starts_e (E : En) : b__law_starts E =
  (sSeq (sSet 1 (x2 gIx (xVar 0) (xD (.int 0))))
    (sSeq (sIf (xBl (x2 (b2 fun i j => decide (i < j)) (xVar 1) (xD (.int 128))))
    (sRet (xIf (xBl (x2 (gEq false) (xL gLen (xsC (xVar 0) xs0)) (xD (.int 1)))) (xLst (xsC (xVar 1) (xsC (xVar 1) xs0))) (xD .non)))
    sNext)
    (sSeq (sIf (xBl (x3 (b2 fun i j => decide (i ≤ j)) (b2 fun i j => decide (i < j)) (xD (.int 194)) (xVar 1) (xD (.int 224))))
    (sParO [2, 3] (ysC (x2 (i2c cMul (· * ·)) (x2 (i2 (· - ·)) (xVar 1) (xD (.int 192))) (xD (.int 64))) (ysC (x2 gAdd (x2 (i2c cMul (· * ·)) (x2 (i2 (· - ·)) (xVar 1) (xD (.int 192))) (xD (.int 64))) (xD (.int 63))) ys0)))
    (sIf (xBl (x3 (b2 fun i j => decide (i ≤ j)) (b2 fun i j => decide (i < j)) (xD (.int 224)) (xVar 1) (xD (.int 240))))
    (sParO [2, 3] (ysC (xL gMax2 (xsC (xD (.int 2048)) (xsC (x2 (i2c cMul (· * ·)) (x2 (i2 (· - ·)) (xVar 1) (xD (.int 224))) (xD (.int 4096))) xs0))) (ysC (x2 gAdd (x2 (i2c cMul (· * ·)) (x2 (i2 (· - ·)) (xVar 1) (xD (.int 224))) (xD (.int 4096))) (xD (.int 4095))) ys0)))
    (sIf (xBl (x3 (b2 fun i j => decide (i ≤ j)) (b2 fun i j => decide (i < j)) (xD (.int 240)) (xVar 1) (xD (.int 245))))
    (sParO [2, 3] (ysC (xL gMax2 (xsC (xD (.int 65536)) (xsC (x2 (i2c cMul (· * ·)) (x2 (i2 (· - ·)) (xVar 1) (xD (.int 240))) (xD (.int 262144))) xs0))) (ysC (xL gMin2 (xsC (xD (.int 1114111)) (xsC (x2 gAdd (x2 (i2c cMul (· * ·)) (x2 (i2 (· - ·)) (xVar 1) (xD (.int 240))) (xD (.int 262144))) (xD (.int 262143))) xs0))) ys0)))
    (sRet (xD .non)))))
    (sSeq (sSet 4 (xIf (xBl (x2 (b2 fun i j => decide (i < j)) (xVar 1) (xD (.int 224)))) (xD (.int 64)) (xIf (xBl (x2 (b2 fun i j => decide (i < j)) (xVar 1) (xD (.int 240)))) (xD (.int 4096)) (xD (.int 262144)))))
    (sSeq (sFor (xiSeq (xCut (xVar 0) (xo1 (xD (.int 1))) xo0)) (gSlot 5)
    s__law_starts_1)
    (sRet (xLst (xsC (xVar 2) (xsC (xVar 3) xs0))))))))) E := rfl
def F__law_starts : FS := fnOf b__law_starts 6
def s__law_pieces_1 : XS :=
  (sIf (xBl (x2 (b2 fun i j => decide (i ≤ j)) (x2 gAdd (xVar 2) (xVar 3)) (xL gLen (xsC (xVar 0) xs0))))
    (sSeq (sSet 6 (xCallN 1 F__law_starts (xsC (xCut (xVar 0) (xo1 (xVar 2)) (xo1 (x2 gAdd (xVar 2) (xVar 3)))) xs0)))
    (sIf (xBl (x2 (gIsN true) (xVar 6) (xD .non)))
    (sSeq (sSet 4 (xVar 3))
    (sIf (xBl (x2 (gEq false) (xCallN 1 F__law_bytes (xsC (xLst (xsC (x2 gIx (xVar 6) (xD (.int 0))) xs0)) xs0)) (xCut (xVar 0) (xo1 (xVar 2)) (xo1 (x2 gAdd (xVar 2) (xVar 3))))))
    (sSet 5 (x2 gIx (xVar 6) (xD (.int 0))))
    sNext))
    sNext))
    sNext)
@[simp] theorem s__law_pieces_1_e (E : En) : s__law_pieces_1 E =
  (sIf (xBl (x2 (b2 fun i j => decide (i ≤ j)) (x2 gAdd (xVar 2) (xVar 3)) (xL gLen (xsC (xVar 0) xs0))))
    (sSeq (sSet 6 (xCallN 1 F__law_starts (xsC (xCut (xVar 0) (xo1 (xVar 2)) (xo1 (x2 gAdd (xVar 2) (xVar 3)))) xs0)))
    (sIf (xBl (x2 (gIsN true) (xVar 6) (xD .non)))
    (sSeq (sSet 4 (xVar 3))
    (sIf (xBl (x2 (gEq false) (xCallN 1 F__law_bytes (xsC (xLst (xsC (x2 gIx (xVar 6) (xD (.int 0))) xs0)) xs0)) (xCut (xVar 0) (xo1 (xVar 2)) (xo1 (x2 gAdd (xVar 2) (xVar 3))))))
    (sSet 5 (x2 gIx (xVar 6) (xD (.int 0))))
    sNext))
    sNext))
    sNext) E := rfl
def w__law_pieces_2 : XT :=
  (xBl (x2 (b2 fun i j => decide (i < j)) (xVar 2) (xL gLen (xsC (xVar 0) xs0))))
@[simp] theorem w__law_pieces_2_e (E : En) : w__law_pieces_2 E =
  (xBl (x2 (b2 fun i j => decide (i < j)) (xVar 2) (xL gLen (xsC (xVar 0) xs0)))) E := rfl
def s__law_pieces_2 : XS :=
  (sSeq (sAsg (xTup (xsC (xD (.int 1)) (xsC (xD .non) xs0))) (gTupD 2 (gConsD (gSlot 4) (gConsD (gSlot 5) gNilD))))
    (sSeq (sFor (xiRng2 (xsC (xD (.int 1)) (xsC (xD (.int 5)) xs0))) (gSlot 3)
    s__law_pieces_1)
    (sSeq (sExp (xMut 1 "list" gAppend (xsC (xTup (xsC (xIf (xBl (x2 (gIsN true) (xVar 5) (xD .non))) (xLst (xsC (xVar 5) xs0)) (xLst xs0)) (xsC (xVar 4) xs0))) xs0)))
    (sSet 2 (x2 gAdd (xVar 2) (xVar 4))))))
@[simp] theorem s__law_pieces_2_e (E : En) : s__law_pieces_2 E =
  (sSeq (sAsg (xTup (xsC (xD (.int 1)) (xsC (xD .non) xs0))) (gTupD 2 (gConsD (gSlot 4) (gConsD (gSlot 5) gNilD))))
    (sSeq (sFor (xiRng2 (xsC (xD (.int 1)) (xsC (xD (.int 5)) xs0))) (gSlot 3)
    s__law_pieces_1)
    (sSeq (sExp (xMut 1 "list" gAppend (xsC (xTup (xsC (xIf (xBl (x2 (gIsN true) (xVar 5) (xD .non))) (xLst (xsC (xVar 5) xs0)) (xLst xs0)) (xsC (xVar 4) xs0))) xs0)))
    (sSet 2 (x2 gAdd (xVar 2) (xVar 4)))))) E := rfl
def b__law_pieces : XS :=
  (sSeq (sParO [1, 2] (ysC (xLst xs0) (ysC (xD (.int 0)) ys0)))
    (sSeq (whl w__law_pieces_2
    s__law_pieces_2 fuel)
    (sRet (xVar 1))))
@[simp] theorem b__law_pieces_e (E : En) : b__law_pieces E =
  (sSeq (sParO [1, 2] (ysC (xLst xs0) (ysC (xD (.int 0)) ys0)))
    (sSeq (whl w__law_pieces_2
    s__law_pieces_2 fuel)
    (sRet (xVar 1)))) E := rfl
def F__law_pieces : FS := fnOf b__law_pieces 6
def b__law_any_sign : XS :=
  (sSeq (sSet 1 (xLst (xsC (xD (.int 0)) (xsC (xD (.int 1)) (xsC (xD (.int 127)) (xsC (xD (.int 128)) (xsC (xD (.int 2047)) (xsC (xD (.int 2048)) (xsC (xD (.int 4095)) (xsC (xD (.int 4096)) (xsC (xD (.int 65535)) (xsC (xD (.int 65536)) (xsC (xD (.int 262143)) (xsC (xD (.int 262144)) (xsC (xD (.int 1114111)) xs0)))))))))))))))
    (sRet (xIf (xBl (x2 (gEq false) (xCallN 2 F__law_take (xsC (xVar 0) (xsC (xD (.int 2)) xs0))) (xD (.int 0)))) (x2 gIx (xVar 1) (xCallN 2 F__law_take (xsC (xVar 0) (xsC (xL gLen (xsC (xVar 1) xs0)) xs0)))) (xCallN 2 F__law_take (xsC (xVar 0) (xsC (x2 gIx (xLst (xsC (xD (.int 128)) (xsC (xD (.int 2048)) (xsC (xD (.int 65536)) (xsC (xD (.int 1114112)) xs0))))) (xCallN 2 F__law_take (xsC (xVar 0) (xsC (xD (.int 4)) xs0)))) xs0))))))
@[simp] theorem b__law_any_sign_e (E : En) : b__law_any_sign E =
  (sSeq (sSet 1 (xLst (xsC (xD (.int 0)) (xsC (xD (.int 1)) (xsC (xD (.int 127)) (xsC (xD (.int 128)) (xsC (xD (.int 2047)) (xsC (xD (.int 2048)) (xsC (xD (.int 4095)) (xsC (xD (.int 4096)) (xsC (xD (.int 65535)) (xsC (xD (.int 65536)) (xsC (xD (.int 262143)) (xsC (xD (.int 262144)) (xsC (xD (.int 1114111)) xs0)))))))))))))))
    (sRet (xIf (xBl (x2 (gEq false) (xCallN 2 F__law_take (xsC (xVar 0) (xsC (xD (.int 2)) xs0))) (xD (.int 0)))) (x2 gIx (xVar 1) (xCallN 2 F__law_take (xsC (xVar 0) (xsC (xL gLen (xsC (xVar 1) xs0)) xs0)))) (xCallN 2 F__law_take (xsC (xVar 0) (xsC (x2 gIx (xLst (xsC (xD (.int 128)) (xsC (xD (.int 2048)) (xsC (xD (.int 65536)) (xsC (xD (.int 1114112)) xs0))))) (xCallN 2 F__law_take (xsC (xVar 0) (xsC (xD (.int 4)) xs0)))) xs0)))))) E := rfl
def F__law_any_sign : FS := fnOf b__law_any_sign 1
def b__law_read : XS :=
  (sTry 1 2 [1] (sRet (xCallN 1 F_read_bytes (xsC (xShr (xVar 0)) xs0))) (fun k v E => if 1 < E.length then shRet xfC "what" k v E else .fail))
@[simp] theorem b__law_read_e (E : En) : b__law_read E =
  (sTry 1 2 [1] (sRet (xCallN 1 F_read_bytes (xsC (xShr (xVar 0)) xs0))) (fun k v E => if 1 < E.length then shRet xfC "what" k v E else .fail)) E := rfl
def F__law_read : FS := fnOf b__law_read 1
def e_law_1 : XE :=
  (xCallN 1 F__law_any_sign (xsC (xVar 1) xs0))
@[simp] theorem e_law_1_e (E : En) : e_law_1 E =
  (xCallN 1 F__law_any_sign (xsC (xVar 1) xs0)) E := rfl
def e_law_2 : XE :=
  (xTup (xsC (xLst (xsC (xVar 18) xs0)) (xsC (xL gLen (xsC (xCallN 1 F__law_bytes (xsC (xLst (xsC (xVar 18) xs0)) xs0)) xs0)) xs0)))
@[simp] theorem e_law_2_e (E : En) : e_law_2 E =
  (xTup (xsC (xLst (xsC (xVar 18) xs0)) (xsC (xL gLen (xsC (xCallN 1 F__law_bytes (xsC (xLst (xsC (xVar 18) xs0)) xs0)) xs0)) xs0))) E := rfl
def e_law_3 : XE :=
  (xCallN 1 F__law_any_sign (xsC (xVar 1) xs0))
@[simp] theorem e_law_3_e (E : En) : e_law_3 E =
  (xCallN 1 F__law_any_sign (xsC (xVar 1) xs0)) E := rfl
def s_law_4 : XS :=
  (sSeq (sParO [13, 17] (ysC (xCallN 2 F__law_take (xsC (xVar 1) (xsC (x2 gAdd (xL gLen (xsC (xVar 6) xs0)) (xD (.int 1))) xs0))) (ysC (xCallN 2 F__law_take (xsC (xVar 1) (xsC (xD (.int 3)) xs0))) ys0)))
    (sSeq (sSet 14 (x2 gIx (xLst (xsC (xD (.int 0)) (xsC (xD (.int 65)) (xsC (xD (.int 128)) (xsC (xD (.int 191)) (xsC (xD (.int 192)) (xsC (xD (.int 193)) (xsC (xD (.int 194)) (xsC (xD (.int 224)) (xsC (xD (.int 237)) (xsC (xD (.int 240)) (xsC (xD (.int 244)) (xsC (xD (.int 245)) (xsC (xD (.int 255)) (xsC (xD (.int 160)) xs0))))))))))))))) (xCallN 2 F__law_take (xsC (xVar 1) (xsC (xD (.int 14)) xs0)))))
    (sSet 6 (x2 gAdd (x2 gAdd (xCut (xVar 6) xo0 (xo1 (xVar 13))) (xIf (xBl (x2 (gEq false) (xVar 17) (xD (.int 1)))) (xLst xs0) (xLst (xsC (xVar 14) xs0)))) (xCut (xVar 6) (xo1 (x2 gAdd (xVar 13) (xL gInt (xsC (x2 (b2 fun i j => decide (j < i)) (xVar 17) (xD (.int 0))) xs0)))) xo0)))))
@[simp] theorem s_law_4_e (E : En) : s_law_4 E =
  (sSeq (sParO [13, 17] (ysC (xCallN 2 F__law_take (xsC (xVar 1) (xsC (x2 gAdd (xL gLen (xsC (xVar 6) xs0)) (xD (.int 1))) xs0))) (ysC (xCallN 2 F__law_take (xsC (xVar 1) (xsC (xD (.int 3)) xs0))) ys0)))
    (sSeq (sSet 14 (x2 gIx (xLst (xsC (xD (.int 0)) (xsC (xD (.int 65)) (xsC (xD (.int 128)) (xsC (xD (.int 191)) (xsC (xD (.int 192)) (xsC (xD (.int 193)) (xsC (xD (.int 194)) (xsC (xD (.int 224)) (xsC (xD (.int 237)) (xsC (xD (.int 240)) (xsC (xD (.int 244)) (xsC (xD (.int 245)) (xsC (xD (.int 255)) (xsC (xD (.int 160)) xs0))))))))))))))) (xCallN 2 F__law_take (xsC (xVar 1) (xsC (xD (.int 14)) xs0)))))
    (sSet 6 (x2 gAdd (x2 gAdd (xCut (xVar 6) xo0 (xo1 (xVar 13))) (xIf (xBl (x2 (gEq false) (xVar 17) (xD (.int 1)))) (xLst xs0) (xLst (xsC (xVar 14) xs0)))) (xCut (xVar 6) (xo1 (x2 gAdd (xVar 13) (xL gInt (xsC (x2 (b2 fun i j => decide (j < i)) (xVar 17) (xD (.int 0))) xs0)))) xo0))))) E := rfl
def e_law_5 : XE :=
  (xVar 20)
@[simp] theorem e_law_5_e (E : En) : e_law_5 E =
  (xVar 20) E := rfl
def q_law_6 : XT :=
  (xBl (x2 (gEq false) (x2 gIx (x2 gIx (xVar 8) (xVar 16)) (xD (.int 0))) (xLst xs0)))
@[simp] theorem q_law_6_e (E : En) : q_law_6 E =
  (xBl (x2 (gEq false) (x2 gIx (x2 gIx (xVar 8) (xVar 16)) (xD (.int 0))) (xLst xs0))) E := rfl
def e_law_6 : XE :=
  (xVar 16)
@[simp] theorem e_law_6_e (E : En) : e_law_6 E =
  (xVar 16) E := rfl
def e_law_7 : XE :=
  (xVar 20)
@[simp] theorem e_law_7_e (E : En) : e_law_7 E =
  (xVar 20) E := rfl
def e_law_8 : XE :=
  (xVar 19)
@[simp] theorem e_law_8_e (E : En) : e_law_8 E =
  (xVar 19) E := rfl
def e_law_9 : XE :=
  (xIf (xBl (x2 (gEq true) (xVar 19) (xLst xs0))) (xVar 19) (xLst (xsC (xVar 11) xs0)))
@[simp] theorem e_law_9_e (E : En) : e_law_9 E =
  (xIf (xBl (x2 (gEq true) (xVar 19) (xLst xs0))) (xVar 19) (xLst (xsC (xVar 11) xs0))) E := rfl
def e_law_10 : XE :=
  (xVar 20)
@[simp] theorem e_law_10_e (E : En) : e_law_10 E =
  (xVar 20) E := rfl
def e_law_11 : XE :=
  (xL gSum (xsC (xLc (xiSeq (xCut (xVar 8) xo0 (xo1 (xVar 16)))) (gTupD 2 (gConsD (gSlot 19) (gConsD (gSlot 20) gNilD))) xYes e_law_10 [19, 20]) xs0))
@[simp] theorem e_law_11_e (E : En) : e_law_11 E =
  (xL gSum (xsC (xLc (xiSeq (xCut (xVar 8) xo0 (xo1 (xVar 16)))) (gTupD 2 (gConsD (gSlot 19) (gConsD (gSlot 20) gNilD))) xYes e_law_10 [19, 20]) xs0)) E := rfl
def q_law_12 : XT :=
  (xBl (x2 (b2 fun i j => decide (i ≤ j)) (xVar 21) (xVar 13)))
@[simp] theorem q_law_12_e (E : En) : q_law_12 E =
  (xBl (x2 (b2 fun i j => decide (i ≤ j)) (xVar 21) (xVar 13))) E := rfl
def e_law_12 : XE :=
  (xVar 21)
@[simp] theorem e_law_12_e (E : En) : e_law_12 E =
  (xVar 21) E := rfl
def s_law_13 : XS :=
  (sIf (xBl (x2 (gEq true) (xCallN 2 F_begin_at (xsC (xShr (xVar 6)) (xsC (xShr (xVar 13)) xs0))) (xL gMaxL (xsC (xLc (xiSeq (xVar 12)) (gSlot 21) q_law_12 e_law_12 [21]) xs0))))
    (sRet (xD (.bl false)))
    sNext)
@[simp] theorem s_law_13_e (E : En) : s_law_13 E =
  (sIf (xBl (x2 (gEq true) (xCallN 2 F_begin_at (xsC (xShr (xVar 6)) (xsC (xShr (xVar 13)) xs0))) (xL gMaxL (xsC (xLc (xiSeq (xVar 12)) (gSlot 21) q_law_12 e_law_12 [21]) xs0))))
    (sRet (xD (.bl false)))
    sNext) E := rfl
def u_law_14 : XS :=
  (sSet 3 (xLc (xiRng1 (xsC (xCallN 2 F__law_take (xsC (xVar 1) (xsC (xD (.int 6)) xs0))) xs0)) (gSlot 16) xYes e_law_1 [16]))
theorem u_law_14_e (E : En) : u_law_14 E =
  (sSet 3 (xLc (xiRng1 (xsC (xCallN 2 F__law_take (xsC (xVar 1) (xsC (xD (.int 6)) xs0))) xs0)) (gSlot 16) xYes e_law_1 [16])) E := rfl
def u_law_15 : XS :=
  (sSet 4 (xCallN 1 F__law_bytes (xsC (xShr (xVar 3)) xs0)))
theorem u_law_15_e (E : En) : u_law_15 E =
  (sSet 4 (xCallN 1 F__law_bytes (xsC (xShr (xVar 3)) xs0))) E := rfl
def u_law_16 : XS :=
  (sIf (xOr (xBl (x2 (gEq true) (xCallN 1 F_bytes_of (xsC (xShr (xVar 3)) xs0)) (xVar 4))) (xOr (xBl (x2 (gEq true) (xCallN 1 F_read_bytes (xsC (xShr (xVar 4)) xs0)) (xVar 3))) (xOr (xBl (x2 (gIsN true) (xCallN 1 F_first_wrong (xsC (xShr (xVar 4)) xs0)) (xD .non))) (xBl (x2 (gEq true) (xCallN 1 F_pieces_of (xsC (xShr (xVar 4)) xs0)) (xLc (xiSeq (xVar 3)) (gSlot 18) xYes e_law_2 [18]))))))
    (sRet (xD (.bl false)))
    sNext)
theorem u_law_16_e (E : En) : u_law_16 E =
  (sIf (xOr (xBl (x2 (gEq true) (xCallN 1 F_bytes_of (xsC (xShr (xVar 3)) xs0)) (xVar 4))) (xOr (xBl (x2 (gEq true) (xCallN 1 F_read_bytes (xsC (xShr (xVar 4)) xs0)) (xVar 3))) (xOr (xBl (x2 (gIsN true) (xCallN 1 F_first_wrong (xsC (xShr (xVar 4)) xs0)) (xD .non))) (xBl (x2 (gEq true) (xCallN 1 F_pieces_of (xsC (xShr (xVar 4)) xs0)) (xLc (xiSeq (xVar 3)) (gSlot 18) xYes e_law_2 [18]))))))
    (sRet (xD (.bl false)))
    sNext) E := rfl
def u_law_17 : XS :=
  (sSet 5 (xLc (xiRng1 (xsC (xCallN 2 F__law_take (xsC (xVar 1) (xsC (xD (.int 6)) xs0))) xs0)) (gSlot 16) xYes e_law_3 [16]))
theorem u_law_17_e (E : En) : u_law_17 E =
  (sSet 5 (xLc (xiRng1 (xsC (xCallN 2 F__law_take (xsC (xVar 1) (xsC (xD (.int 6)) xs0))) xs0)) (gSlot 16) xYes e_law_3 [16])) E := rfl
def u_law_18 : XS :=
  (sIf (xOr (xBl (x2 (gEq true) (x2 gLtD (xCallN 1 F_bytes_of (xsC (xShr (xVar 3)) xs0)) (xCallN 1 F_bytes_of (xsC (xShr (xVar 5)) xs0))) (x2 gLtD (xVar 3) (xVar 5)))) (xBl (x2 (gEq true) (xCallN 1 F_bytes_of (xsC (x2 gAdd (xVar 3) (xVar 5)) xs0)) (x2 gAdd (xVar 4) (xCallN 1 F_bytes_of (xsC (xShr (xVar 5)) xs0))))))
    (sRet (xD (.bl false)))
    sNext)
theorem u_law_18_e (E : En) : u_law_18 E =
  (sIf (xOr (xBl (x2 (gEq true) (x2 gLtD (xCallN 1 F_bytes_of (xsC (xShr (xVar 3)) xs0)) (xCallN 1 F_bytes_of (xsC (xShr (xVar 5)) xs0))) (x2 gLtD (xVar 3) (xVar 5)))) (xBl (x2 (gEq true) (xCallN 1 F_bytes_of (xsC (x2 gAdd (xVar 3) (xVar 5)) xs0)) (x2 gAdd (xVar 4) (xCallN 1 F_bytes_of (xsC (xShr (xVar 5)) xs0))))))
    (sRet (xD (.bl false)))
    sNext) E := rfl
def u_law_19 : XS :=
  (sSet 6 (xL gList (xsC (xVar 4) xs0)))
theorem u_law_19_e (E : En) : u_law_19 E =
  (sSet 6 (xL gList (xsC (xVar 4) xs0))) E := rfl
def u_law_20 : XS :=
  (sFor (xiRng1 (xsC (xCallN 2 F__law_take (xsC (xVar 1) (xsC (xD (.int 4)) xs0))) xs0)) (gSlot 7)
    s_law_4)
theorem u_law_20_e (E : En) : u_law_20 E =
  (sFor (xiRng1 (xsC (xCallN 2 F__law_take (xsC (xVar 1) (xsC (xD (.int 4)) xs0))) xs0)) (gSlot 7)
    s_law_4) E := rfl
def u_law_21 : XS :=
  (sSet 8 (xCallN 1 F__law_pieces (xsC (xShr (xVar 6)) xs0)))
theorem u_law_21_e (E : En) : u_law_21 E =
  (sSet 8 (xCallN 1 F__law_pieces (xsC (xShr (xVar 6)) xs0))) E := rfl
def u_law_22 : XS :=
  (sIf (xOr (xBl (x2 (gEq true) (xCallN 1 F_pieces_of (xsC (xShr (xVar 6)) xs0)) (xVar 8))) (xBl (x2 (gEq true) (xL gSum (xsC (xLc (xiSeq (xVar 8)) (gTupD 2 (gConsD (gSlot 19) (gConsD (gSlot 20) gNilD))) xYes e_law_5 [19, 20]) xs0)) (xL gLen (xsC (xVar 6) xs0)))))
    (sRet (xD (.bl false)))
    sNext)
theorem u_law_22_e (E : En) : u_law_22 E =
  (sIf (xOr (xBl (x2 (gEq true) (xCallN 1 F_pieces_of (xsC (xShr (xVar 6)) xs0)) (xVar 8))) (xBl (x2 (gEq true) (xL gSum (xsC (xLc (xiSeq (xVar 8)) (gTupD 2 (gConsD (gSlot 19) (gConsD (gSlot 20) gNilD))) xYes e_law_5 [19, 20]) xs0)) (xL gLen (xsC (xVar 6) xs0)))))
    (sRet (xD (.bl false)))
    sNext) E := rfl
def u_law_23 : XS :=
  (sSet 9 (xLc (xiRng1 (xsC (xL gLen (xsC (xVar 8) xs0)) xs0)) (gSlot 16) q_law_6 e_law_6 [16]))
theorem u_law_23_e (E : En) : u_law_23 E =
  (sSet 9 (xLc (xiRng1 (xsC (xL gLen (xsC (xVar 8) xs0)) xs0)) (gSlot 16) q_law_6 e_law_6 [16])) E := rfl
def u_law_24 : XS :=
  (sSet 10 (xIf (xBl (x2 (gEq true) (xVar 9) (xLst xs0))) (xL gSum (xsC (xLc (xiSeq (xCut (xVar 8) xo0 (xo1 (x2 gIx (xVar 9) (xD (.int 0)))))) (gTupD 2 (gConsD (gSlot 19) (gConsD (gSlot 20) gNilD))) xYes e_law_7 [19, 20]) xs0)) (xD .non)))
theorem u_law_24_e (E : En) : u_law_24 E =
  (sSet 10 (xIf (xBl (x2 (gEq true) (xVar 9) (xLst xs0))) (xL gSum (xsC (xLc (xiSeq (xCut (xVar 8) xo0 (xo1 (x2 gIx (xVar 9) (xD (.int 0)))))) (gTupD 2 (gConsD (gSlot 19) (gConsD (gSlot 20) gNilD))) xYes e_law_7 [19, 20]) xs0)) (xD .non))) E := rfl
def u_law_25 : XS :=
  (sIf (xOr (xBl (x2 (gEq true) (xCallN 1 F_first_wrong (xsC (xShr (xVar 6)) xs0)) (xVar 10))) (xBl (x2 (gEq true) (xCallN 1 F__law_read (xsC (xShr (xVar 6)) xs0)) (xIf (xBl (x2 (gEq true) (xVar 9) (xLst xs0))) (xD (.str "piece")) (xSumL (xLc (xiSeq (xVar 8)) (gTupD 2 (gConsD (gSlot 19) (gConsD (gSlot 20) gNilD))) xYes e_law_8 [19, 20]) (xLst xs0))))))
    (sRet (xD (.bl false)))
    sNext)
theorem u_law_25_e (E : En) : u_law_25 E =
  (sIf (xOr (xBl (x2 (gEq true) (xCallN 1 F_first_wrong (xsC (xShr (xVar 6)) xs0)) (xVar 10))) (xBl (x2 (gEq true) (xCallN 1 F__law_read (xsC (xShr (xVar 6)) xs0)) (xIf (xBl (x2 (gEq true) (xVar 9) (xLst xs0))) (xD (.str "piece")) (xSumL (xLc (xiSeq (xVar 8)) (gTupD 2 (gConsD (gSlot 19) (gConsD (gSlot 20) gNilD))) xYes e_law_8 [19, 20]) (xLst xs0))))))
    (sRet (xD (.bl false)))
    sNext) E := rfl
def u_law_26 : XS :=
  (sSet 11 (xCallN 1 F__law_any_sign (xsC (xVar 1) xs0)))
theorem u_law_26_e (E : En) : u_law_26 E =
  (sSet 11 (xCallN 1 F__law_any_sign (xsC (xVar 1) xs0))) E := rfl
def u_law_27 : XS :=
  (sIf (xBl (x2 (gEq true) (xCallN 2 F_read_with (xsC (xShr (xVar 6)) (xsC (xShr (xVar 11)) xs0))) (xSumL (xLc (xiSeq (xVar 8)) (gTupD 2 (gConsD (gSlot 19) (gConsD (gSlot 20) gNilD))) xYes e_law_9 [19, 20]) (xLst xs0))))
    (sRet (xD (.bl false)))
    sNext)
theorem u_law_27_e (E : En) : u_law_27 E =
  (sIf (xBl (x2 (gEq true) (xCallN 2 F_read_with (xsC (xShr (xVar 6)) (xsC (xShr (xVar 11)) xs0))) (xSumL (xLc (xiSeq (xVar 8)) (gTupD 2 (gConsD (gSlot 19) (gConsD (gSlot 20) gNilD))) xYes e_law_9 [19, 20]) (xLst xs0))))
    (sRet (xD (.bl false)))
    sNext) E := rfl
def u_law_28 : XS :=
  (sSet 12 (xLc (xiRng1 (xsC (xL gLen (xsC (xVar 8) xs0)) xs0)) (gSlot 16) xYes e_law_11 [16]))
theorem u_law_28_e (E : En) : u_law_28 E =
  (sSet 12 (xLc (xiRng1 (xsC (xL gLen (xsC (xVar 8) xs0)) xs0)) (gSlot 16) xYes e_law_11 [16])) E := rfl
def u_law_29 : XS :=
  (sFor (xiRng1 (xsC (xL gLen (xsC (xVar 6) xs0)) xs0)) (gSlot 13)
    s_law_13)
theorem u_law_29_e (E : En) : u_law_29 E =
  (sFor (xiRng1 (xsC (xL gLen (xsC (xVar 6) xs0)) xs0)) (gSlot 13)
    s_law_13) E := rfl
def u_law_30 : XS :=
  (sIf (xBl (x2 (gEq true) (xVar 6) (xLst xs0)))
    (sSeq (sSet 15 (x2 gIx (xVar 12) (xCallN 2 F__law_take (xsC (xVar 1) (xsC (xL gLen (xsC (xVar 12) xs0)) xs0)))))
    (sIf (xBl (x2 (gEq true) (x2 gAdd (xCallN 1 F_pieces_of (xsC (xCut (xVar 6) xo0 (xo1 (xVar 15))) xs0)) (xCallN 1 F_pieces_of (xsC (xCut (xVar 6) (xo1 (xVar 15)) xo0) xs0))) (xVar 8)))
    (sRet (xD (.bl false)))
    sNext))
    sNext)
theorem u_law_30_e (E : En) : u_law_30 E =
  (sIf (xBl (x2 (gEq true) (xVar 6) (xLst xs0)))
    (sSeq (sSet 15 (x2 gIx (xVar 12) (xCallN 2 F__law_take (xsC (xVar 1) (xsC (xL gLen (xsC (xVar 12) xs0)) xs0)))))
    (sIf (xBl (x2 (gEq true) (x2 gAdd (xCallN 1 F_pieces_of (xsC (xCut (xVar 6) xo0 (xo1 (xVar 15))) xs0)) (xCallN 1 F_pieces_of (xsC (xCut (xVar 6) (xo1 (xVar 15)) xo0) xs0))) (xVar 8)))
    (sRet (xD (.bl false)))
    sNext))
    sNext) E := rfl
def s_law_31 : XS :=
  (sSeq u_law_14
    (sSeq u_law_15
    (sSeq u_law_16
    (sSeq u_law_17
    (sSeq u_law_18
    (sSeq u_law_19
    (sSeq u_law_20
    (sSeq u_law_21
    (sSeq u_law_22
    (sSeq u_law_23
    (sSeq u_law_24
    (sSeq u_law_25
    (sSeq u_law_26
    (sSeq u_law_27
    (sSeq u_law_28
    (sSeq u_law_29
    u_law_30))))))))))))))))
@[simp] theorem s_law_31_e (E : En) : s_law_31 E =
  (sSeq u_law_14
    (sSeq u_law_15
    (sSeq u_law_16
    (sSeq u_law_17
    (sSeq u_law_18
    (sSeq u_law_19
    (sSeq u_law_20
    (sSeq u_law_21
    (sSeq u_law_22
    (sSeq u_law_23
    (sSeq u_law_24
    (sSeq u_law_25
    (sSeq u_law_26
    (sSeq u_law_27
    (sSeq u_law_28
    (sSeq u_law_29
    u_law_30)))))))))))))))) E := rfl
def b_law : XS :=
  (sSeq (sSet 1 (xCallN 3 F__law_deck (xsC (xShr (xVar 0)) (xsC (xD (.int 60)) (xsC (xD (.int 8)) xs0)))))
    (sSeq (sFor (xiRng1 (xsC (xD (.int 4)) xs0)) (gSlot 2)
    s_law_31)
    (sRet (xAndV (x2 (gEq false) (xCallN 1 F__law_read (xsC (xLst (xsC (xD (.int 192)) (xsC (xD (.int 128)) xs0))) xs0)) (xD (.str "piece"))) (xAndV (x2 (gEq false) (xCallN 1 F__law_read (xsC (xLst (xsC (xD (.int 256)) xs0)) xs0)) (xD (.str "byte"))) (xAndV (x2 (gEq false) (xCallN 1 F_pieces_of (xsC (xLst (xsC (xD (.int 240)) (xsC (xD (.int 144)) (xsC (xD (.int 65)) xs0)))) xs0)) (xLst (xsC (xTup (xsC (xLst xs0) (xsC (xD (.int 2)) xs0))) (xsC (xTup (xsC (xLst (xsC (xD (.int 65)) xs0)) (xsC (xD (.int 1)) xs0))) xs0)))) (x2 (gEq false) (xCallN 1 F_bytes_of (xsC (xLst (xsC (xD (.int 233)) xs0)) xs0)) (xLst (xsC (xD (.int 195)) (xsC (xD (.int 169)) xs0))))))))))
@[simp] theorem b_law_e (E : En) : b_law E =
  (sSeq (sSet 1 (xCallN 3 F__law_deck (xsC (xShr (xVar 0)) (xsC (xD (.int 60)) (xsC (xD (.int 8)) xs0)))))
    (sSeq (sFor (xiRng1 (xsC (xD (.int 4)) xs0)) (gSlot 2)
    s_law_31)
    (sRet (xAndV (x2 (gEq false) (xCallN 1 F__law_read (xsC (xLst (xsC (xD (.int 192)) (xsC (xD (.int 128)) xs0))) xs0)) (xD (.str "piece"))) (xAndV (x2 (gEq false) (xCallN 1 F__law_read (xsC (xLst (xsC (xD (.int 256)) xs0)) xs0)) (xD (.str "byte"))) (xAndV (x2 (gEq false) (xCallN 1 F_pieces_of (xsC (xLst (xsC (xD (.int 240)) (xsC (xD (.int 144)) (xsC (xD (.int 65)) xs0)))) xs0)) (xLst (xsC (xTup (xsC (xLst xs0) (xsC (xD (.int 2)) xs0))) (xsC (xTup (xsC (xLst (xsC (xD (.int 65)) xs0)) (xsC (xD (.int 1)) xs0))) xs0)))) (x2 (gEq false) (xCallN 1 F_bytes_of (xsC (xLst (xsC (xD (.int 233)) xs0)) xs0)) (xLst (xsC (xD (.int 195)) (xsC (xD (.int 169)) xs0)))))))))) E := rfl
def F_law : FS := fnOf b_law 21
end K16

namespace K16
open PySem PySem.Spec L2 DS
def topS (i : Nat) : Stmt := PySem.Challenge.pw_normwork_k16_whole_bytes_of_signs.main.body.getD i (.Pass ⟨0, 0, 0, 0⟩)
abbrev st_is_number : Stmt := topS 6
abbrev st_check_bytes : Stmt := topS 8
abbrev st_check_signs : Stmt := topS 9
abbrev st_code_of : Stmt := topS 10
abbrev st_written : Stmt := topS 11
abbrev st_bytes_of : Stmt := topS 12
abbrev st_first_byte : Stmt := topS 13
abbrev st_reach : Stmt := topS 14
abbrev st_value_of : Stmt := topS 15
abbrev st_cut : Stmt := topS 16
abbrev st_read_bytes : Stmt := topS 17
abbrev st_read_with : Stmt := topS 18
abbrev st_pieces_of : Stmt := topS 19
abbrev st_first_wrong : Stmt := topS 20
abbrev st_begin_at : Stmt := topS 21
abbrev st__law_deck : Stmt := topS 23
abbrev st__law_take : Stmt := topS 24
abbrev st__law_bytes : Stmt := topS 25
abbrev st__law_starts : Stmt := topS 26
abbrev st__law_pieces : Stmt := topS 27
abbrev st__law_any_sign : Stmt := topS 28
abbrev st__law_read : Stmt := topS 29
abbrev st_law : Stmt := topS 30
abbrev st_InvalidText___init__ : Stmt := inClass (topS 2) 0
abbrev st_InvalidBytes___init__ : Stmt := inClass (topS 3) 0
/-- where things stand -/
structure Ad where
  f_is_number : Addr
  d_is_number : FuncData
  f_check_bytes : Addr
  d_check_bytes : FuncData
  f_check_signs : Addr
  d_check_signs : FuncData
  f_code_of : Addr
  d_code_of : FuncData
  f_written : Addr
  d_written : FuncData
  f_bytes_of : Addr
  d_bytes_of : FuncData
  f_first_byte : Addr
  d_first_byte : FuncData
  f_reach : Addr
  d_reach : FuncData
  f_value_of : Addr
  d_value_of : FuncData
  f_cut : Addr
  d_cut : FuncData
  f_read_bytes : Addr
  d_read_bytes : FuncData
  f_read_with : Addr
  d_read_with : FuncData
  f_pieces_of : Addr
  d_pieces_of : FuncData
  f_first_wrong : Addr
  d_first_wrong : FuncData
  f_begin_at : Addr
  d_begin_at : FuncData
  f__law_deck : Addr
  d__law_deck : FuncData
  f__law_take : Addr
  d__law_take : FuncData
  f__law_bytes : Addr
  d__law_bytes : FuncData
  f__law_starts : Addr
  d__law_starts : FuncData
  f__law_pieces : Addr
  d__law_pieces : FuncData
  f__law_any_sign : Addr
  d__law_any_sign : FuncData
  f__law_read : Addr
  d__law_read : FuncData
  f_law : Addr
  d_law : FuncData
  c_NormError : Addr
  c_InvalidText : Addr
  fi_InvalidText : Addr
  di_InvalidText : FuncData
  c_InvalidBytes : Addr
  fi_InvalidBytes : Addr
  di_InvalidBytes : FuncData
def cf (A : Ad) (K : PySem.W.Frag) : Cf := ⟨fun k => match k with
  | 0 => A.c_InvalidText
  | 1 => A.c_InvalidBytes
  | _ => 0, xfC, K⟩
structure Txt (K : PySem.W.Frag) (mg : Str → Option Value) (A : Ad) : Prop where
  g_abs : mg "abs" = none
  g_bool : mg "bool" = none
  g_int : mg "int" = none
  g_isinstance : mg "isinstance" = none
  g_len : mg "len" = none
  g_list : mg "list" = none
  g_max : mg "max" = none
  g_min : mg "min" = none
  g_range : mg "range" = none
  g_sum : mg "sum" = none
  c_MOST_SIGNS : ∃ t, mg "MOST_SIGNS" = some (.int 1114112 t)
  m_is_number : mg "is_number" = some (.ref A.f_is_number)
  F_is_number : Fun K "is_number" "is_number" st_is_number A.f_is_number A.d_is_number
  b_is_number : Binds K A.d_is_number ["value", "least", "bound"] []
  m_check_bytes : mg "check_bytes" = some (.ref A.f_check_bytes)
  F_check_bytes : Fun K "check_bytes" "check_bytes" st_check_bytes A.f_check_bytes A.d_check_bytes
  b_check_bytes : Binds K A.d_check_bytes ["data"] []
  m_check_signs : mg "check_signs" = some (.ref A.f_check_signs)
  F_check_signs : Fun K "check_signs" "check_signs" st_check_signs A.f_check_signs A.d_check_signs
  b_check_signs : Binds K A.d_check_signs ["text"] []
  m_code_of : mg "code_of" = some (.ref A.f_code_of)
  F_code_of : Fun K "code_of" "code_of" st_code_of A.f_code_of A.d_code_of
  b_code_of : Binds K A.d_code_of ["sign"] []
  m_written : mg "written" = some (.ref A.f_written)
  F_written : Fun K "written" "written" st_written A.f_written A.d_written
  b_written : Binds K A.d_written ["text"] []
  m_bytes_of : mg "bytes_of" = some (.ref A.f_bytes_of)
  F_bytes_of : Fun K "bytes_of" "bytes_of" st_bytes_of A.f_bytes_of A.d_bytes_of
  b_bytes_of : Binds K A.d_bytes_of ["text"] []
  m_first_byte : mg "first_byte" = some (.ref A.f_first_byte)
  F_first_byte : Fun K "first_byte" "first_byte" st_first_byte A.f_first_byte A.d_first_byte
  b_first_byte : Binds K A.d_first_byte ["byte"] []
  m_reach : mg "reach" = some (.ref A.f_reach)
  F_reach : Fun K "reach" "reach" st_reach A.f_reach A.d_reach
  b_reach : Binds K A.d_reach ["data", "place"] []
  m_value_of : mg "value_of" = some (.ref A.f_value_of)
  F_value_of : Fun K "value_of" "value_of" st_value_of A.f_value_of A.d_value_of
  b_value_of : Binds K A.d_value_of ["data"] []
  m_cut : mg "cut" = some (.ref A.f_cut)
  F_cut : Fun K "cut" "cut" st_cut A.f_cut A.d_cut
  b_cut : Binds K A.d_cut ["data"] []
  m_read_bytes : mg "read_bytes" = some (.ref A.f_read_bytes)
  F_read_bytes : Fun K "read_bytes" "read_bytes" st_read_bytes A.f_read_bytes A.d_read_bytes
  b_read_bytes : Binds K A.d_read_bytes ["data"] []
  m_read_with : mg "read_with" = some (.ref A.f_read_with)
  F_read_with : Fun K "read_with" "read_with" st_read_with A.f_read_with A.d_read_with
  b_read_with : Binds K A.d_read_with ["data", "sign"] []
  m_pieces_of : mg "pieces_of" = some (.ref A.f_pieces_of)
  F_pieces_of : Fun K "pieces_of" "pieces_of" st_pieces_of A.f_pieces_of A.d_pieces_of
  b_pieces_of : Binds K A.d_pieces_of ["data"] []
  m_first_wrong : mg "first_wrong" = some (.ref A.f_first_wrong)
  F_first_wrong : Fun K "first_wrong" "first_wrong" st_first_wrong A.f_first_wrong A.d_first_wrong
  b_first_wrong : Binds K A.d_first_wrong ["data"] []
  m_begin_at : mg "begin_at" = some (.ref A.f_begin_at)
  F_begin_at : Fun K "begin_at" "begin_at" st_begin_at A.f_begin_at A.d_begin_at
  b_begin_at : Binds K A.d_begin_at ["data", "place"] []
  m__law_deck : mg "_law_deck" = some (.ref A.f__law_deck)
  F__law_deck : Fun K "_law_deck" "_law_deck" st__law_deck A.f__law_deck A.d__law_deck
  b__law_deck : Binds K A.d__law_deck ["script", "cells", "each"] []
  m__law_take : mg "_law_take" = some (.ref A.f__law_take)
  F__law_take : Fun K "_law_take" "_law_take" st__law_take A.f__law_take A.d__law_take
  b__law_take : Binds K A.d__law_take ["deck", "many"] []
  m__law_bytes : mg "_law_bytes" = some (.ref A.f__law_bytes)
  F__law_bytes : Fun K "_law_bytes" "_law_bytes" st__law_bytes A.f__law_bytes A.d__law_bytes
  b__law_bytes : Binds K A.d__law_bytes ["text"] []
  m__law_starts : mg "_law_starts" = some (.ref A.f__law_starts)
  F__law_starts : Fun K "_law_starts" "_law_starts" st__law_starts A.f__law_starts A.d__law_starts
  b__law_starts : Binds K A.d__law_starts ["data"] []
  m__law_pieces : mg "_law_pieces" = some (.ref A.f__law_pieces)
  F__law_pieces : Fun K "_law_pieces" "_law_pieces" st__law_pieces A.f__law_pieces A.d__law_pieces
  b__law_pieces : Binds K A.d__law_pieces ["data"] []
  m__law_any_sign : mg "_law_any_sign" = some (.ref A.f__law_any_sign)
  F__law_any_sign : Fun K "_law_any_sign" "_law_any_sign" st__law_any_sign A.f__law_any_sign A.d__law_any_sign
  b__law_any_sign : Binds K A.d__law_any_sign ["deck"] []
  m__law_read : mg "_law_read" = some (.ref A.f__law_read)
  F__law_read : Fun K "_law_read" "_law_read" st__law_read A.f__law_read A.d__law_read
  b__law_read : Binds K A.d__law_read ["data"] []
  m_law : mg "law" = some (.ref A.f_law)
  F_law : Fun K "law" "law" st_law A.f_law A.d_law
  b_law : Binds K A.d_law ["script"] []
  nm : mg "NormError" = some (.ref A.c_NormError)
  nsp : PySem.W.specialIn K (.ref A.c_NormError) "__getattribute__" = some (some (.builtin "type.__getattribute__"))
  nrd : PySem.W.readsIn K A.c_NormError (.type "type") = true
  nv : PySem.W.findCls K (.ref A.c_NormError) (.type "type") "__init__" = some (.val (.builtin "ValueError.__init__"))
  m_InvalidText : mg "InvalidText" = some (.ref A.c_InvalidText)
  e_InvalidText : ErrC K (cf A K) 0
  i_InvalidText : PySem.W.findIn K (.ref A.c_InvalidText) "__init__" = some (some (.ref A.fi_InvalidText))
  t_InvalidText : PySem.W.typeIn K (.ref A.fi_InvalidText) = some (.type "function")
  F_InvalidText___init__ : Fun K "__init__" "InvalidText.__init__" st_InvalidText___init__ A.fi_InvalidText A.di_InvalidText
  b_InvalidText___init__ : Binds K A.di_InvalidText ["self", "what"] []
  x_InvalidText : ∀ k, k < 2 → PySem.W.exmOne K (.ref ((cf A K).cl k)) (.ref A.c_InvalidText) = some (decide (k ∈ ([0] : List Nat)))
  m_InvalidBytes : mg "InvalidBytes" = some (.ref A.c_InvalidBytes)
  e_InvalidBytes : ErrC K (cf A K) 1
  i_InvalidBytes : PySem.W.findIn K (.ref A.c_InvalidBytes) "__init__" = some (some (.ref A.fi_InvalidBytes))
  t_InvalidBytes : PySem.W.typeIn K (.ref A.fi_InvalidBytes) = some (.type "function")
  F_InvalidBytes___init__ : Fun K "__init__" "InvalidBytes.__init__" st_InvalidBytes___init__ A.fi_InvalidBytes A.di_InvalidBytes
  b_InvalidBytes___init__ : Binds K A.di_InvalidBytes ["self", "what"] []
  x_InvalidBytes : ∀ k, k < 2 → PySem.W.exmOne K (.ref ((cf A K).cl k)) (.ref A.c_InvalidBytes) = some (decide (k ∈ ([1] : List Nat)))
theorem Txt.errs {K : PySem.W.Frag} {mg : Str → Option Value} {A : Ad} (T : Txt K mg A) : ∀ k, k < 2 → ErrC K (cf A K) k := fun k h => match k, h with
  | 0, _ => T.e_InvalidText
  | 1, _ => T.e_InvalidBytes
section
variable {P : Program} {w : World} {K : PySem.W.Frag} {mg : Str → Option Value} {base : Heap} {A : Ad}
theorem sc_InvalidText___init__ : FnScope ["self", "what"] ["self", "what"] (defScope st_InvalidText___init__) := ⟨rfl, rfl, rfl, by decide +kernel, rfl, by decide +kernel, by decide +kernel⟩
theorem ok_InvalidText___init__ (T : Txt K mg A) : FnOk P w K mg base (L2.CX P w) 1 A.fi_InvalidText A.di_InvalidText ["self", "what"] (spErr (xfC 0) okS K) := by
  refine T.F_InvalidText___init__.okX sc_InvalidText___init__ (fun vs H Q E h => ?_) fun cdv Ar outer s H vs Q E hr h => ⟨_, pss_cons (ps_expr (pe_neinit rfl T.nm T.nsp T.nrd T.nv (pa_cons (pv 0) (pa_cons (pe_op op_addS (pe_str (x := "invalid text: ")) (pv 1)) pa_nil)))) (pss_one (ps_ost (f := "what") (pv 0) (pv 1))), err_read (lit := "invalid text: ") (N := ["self", "what"]) (by decide) (by decide) h⟩
  obtain ⟨a, C, v, rfl, _⟩ := h
  rfl
theorem sc_InvalidBytes___init__ : FnScope ["self", "what"] ["self", "what"] (defScope st_InvalidBytes___init__) := ⟨rfl, rfl, rfl, by decide +kernel, rfl, by decide +kernel, by decide +kernel⟩
theorem ok_InvalidBytes___init__ (T : Txt K mg A) : FnOk P w K mg base (L2.CX P w) 1 A.fi_InvalidBytes A.di_InvalidBytes ["self", "what"] (spErr (xfC 1) okS K) := by
  refine T.F_InvalidBytes___init__.okX sc_InvalidBytes___init__ (fun vs H Q E h => ?_) fun cdv Ar outer s H vs Q E hr h => ⟨_, pss_cons (ps_expr (pe_neinit rfl T.nm T.nsp T.nrd T.nv (pa_cons (pv 0) (pa_cons (pe_op op_addS (pe_str (x := "invalid bytes: ")) (pv 1)) pa_nil)))) (pss_one (ps_ost (f := "what") (pv 0) (pv 1))), err_read (lit := "invalid bytes: ") (N := ["self", "what"]) (by decide) (by decide) h⟩
  obtain ⟨a, C, v, rfl, _⟩ := h
  rfl
abbrev N_is_number : List Str := ["value", "least", "bound"]
theorem sc_is_number : FnScope N_is_number ["value", "least", "bound"] (defScope st_is_number) := ⟨rfl, rfl, rfl, by decide +kernel, rfl, by decide +kernel, by decide +kernel⟩
set_option maxHeartbeats 4000000 in
theorem ok_is_number (T : Txt K mg A) : FnD P w K mg base (cf A K) 1 A.f_is_number A.d_is_number ["value", "least", "bound"] F_is_number := by
  refine FnD.of (N := N_is_number) T.F_is_number sc_is_number rfl fun cdv Ar outer s H E hr => ?_
  have tk := takes_of (X := cxOf (L2.CX P w) P w K mg base N_is_number "is_number" (defScope st_is_number) A.f_is_number cdv Ar outer s H E) rfl rfl rfl rfl
  exact ⟨_, (ss1 (sR (dAnd (kIsi (n := "int") T.g_isinstance T.g_int (by decide +kernel) (dv 0)) (dAnd (dNot (kIsi (n := "bool") T.g_isinstance T.g_bool (by decide +kernel) (dv 0))) (dOne (dCmp3 d_le d_lt (dv 1) (dv 0) (dv 2)))))))⟩
abbrev N_check_bytes : List Str := ["data", "value"]
theorem sc_check_bytes : FnScope N_check_bytes ["data"] (defScope st_check_bytes) := ⟨rfl, rfl, rfl, by decide +kernel, rfl, by decide +kernel, by decide +kernel⟩
set_option maxHeartbeats 4000000 in
theorem ok_check_bytes (T : Txt K mg A) : FnD P w K mg base (cf A K) 3 A.f_check_bytes A.d_check_bytes ["data"] F_check_bytes := by
  refine FnD.of (N := N_check_bytes) T.F_check_bytes sc_check_bytes rfl fun cdv Ar outer s H E hr => ?_
  have tk := takes_of (X := cxOf (L2.CX P w) P w K mg base N_check_bytes "check_bytes" (defScope st_check_bytes) A.f_check_bytes cdv Ar outer s H E) rfl rfl rfl rfl
  exact ⟨_, (ss1 (sI (ktT (dLc (own := [("value", 1)]) sc_check_bytes.nd (kS (dv 0)) (by exact blkOk_by (N := N_check_bytes) (sc := (defScope st_check_bytes)) (by decide +kernel)) (fun _ _ _ _ _ => (gN 1 sc_check_bytes.nd)) (fun _ _ _ _ _ => (ts1 (dtNot (ktT (kCall takes0 (ok_is_number T) (hr.mono (by decide)) T.m_is_number T.F_is_number.kp T.b_is_number (da (dShr (dv 1)) (da di (da di da0)))))))) (fun _ _ _ _ _ => (dv 1))))
    (ss1 (sRz 1 tk (T.e_InvalidBytes) T.i_InvalidBytes T.t_InvalidBytes (ok_InvalidBytes___init__ T) (hr.mono (by decide)) T.b_InvalidBytes___init__ T.m_InvalidBytes dx))
    ss0))⟩
abbrev N_check_signs : List Str := ["text", "sign"]
theorem sc_check_signs : FnScope N_check_signs ["text"] (defScope st_check_signs) := ⟨rfl, rfl, rfl, by decide +kernel, rfl, by decide +kernel, by decide +kernel⟩
set_option maxHeartbeats 4000000 in
theorem ok_check_signs (T : Txt K mg A) : FnD P w K mg base (cf A K) 3 A.f_check_signs A.d_check_signs ["text"] F_check_signs := by
  refine FnD.of (N := N_check_signs) T.F_check_signs sc_check_signs rfl fun cdv Ar outer s H E hr => ?_
  have tk := takes_of (X := cxOf (L2.CX P w) P w K mg base N_check_signs "check_signs" (defScope st_check_signs) A.f_check_signs cdv Ar outer s H E) rfl rfl rfl rfl
  exact ⟨_, (ss1 (sI (ktT (dLc (own := [("sign", 1)]) sc_check_signs.nd (kS (dv 0)) (by exact blkOk_by (N := N_check_signs) (sc := (defScope st_check_signs)) (by decide +kernel)) (fun _ _ _ _ _ => (gN 1 sc_check_signs.nd)) (fun _ _ _ _ _ => (ts1 (dtNot (ktT (kCall takes0 (ok_is_number T) (hr.mono (by decide)) T.m_is_number T.F_is_number.kp T.b_is_number (da (dShr (dv 1)) (da di (da (dg' T.c_MOST_SIGNS) da0)))))))) (fun _ _ _ _ _ => (dv 1))))
    (ss1 (sRz 0 tk (T.e_InvalidText) T.i_InvalidText T.t_InvalidText (ok_InvalidText___init__ T) (hr.mono (by decide)) T.b_InvalidText___init__ T.m_InvalidText dx))
    ss0))⟩
abbrev N_code_of : List Str := ["sign"]
theorem sc_code_of : FnScope N_code_of ["sign"] (defScope st_code_of) := ⟨rfl, rfl, rfl, by decide +kernel, rfl, by decide +kernel, by decide +kernel⟩
set_option maxHeartbeats 4000000 in
theorem ok_code_of (T : Txt K mg A) : FnD P w K mg base (cf A K) 1 A.f_code_of A.d_code_of ["sign"] F_code_of := by
  refine FnD.of (N := N_code_of) T.F_code_of sc_code_of rfl fun cdv Ar outer s H E hr => ?_
  have tk := takes_of (X := cxOf (L2.CX P w) P w K mg base N_code_of "code_of" (defScope st_code_of) A.f_code_of cdv Ar outer s H E) rfl rfl rfl rfl
  exact ⟨_, (ss (sI (DT.cmp d_lt (dv 0) di (by rfl))
    (ss1 (sR (dLst (da (dv 0) da0))))
    ss0)
    (ss (sI (DT.cmp d_lt (dv 0) di (by rfl))
    (ss1 (sR (dLst (da (DE.bin k_add di (DE.bin d_fdiv (dv 0) di)) (da (DE.bin k_add di (DE.bin d_mod (dv 0) di)) da0)))))
    ss0)
    (ss (sI (DT.cmp d_lt (dv 0) di (by rfl))
    (ss1 (sR (dLst (da (DE.bin k_add di (DE.bin d_fdiv (dv 0) di)) (da (DE.bin k_add di (DE.bin d_mod (DE.bin d_fdiv (dv 0) di) di)) (da (DE.bin k_add di (DE.bin d_mod (dv 0) di)) da0))))))
    ss0)
    (ss1 (sR (dLst (da (DE.bin k_add di (DE.bin d_fdiv (dv 0) di)) (da (DE.bin k_add di (DE.bin d_mod (DE.bin d_fdiv (dv 0) di) di)) (da (DE.bin k_add di (DE.bin d_mod (DE.bin d_fdiv (dv 0) di) di)) (da (DE.bin k_add di (DE.bin d_mod (dv 0) di)) da0))))))))))⟩
abbrev N_written : List Str := ["text", "found", "sign"]
theorem sc_written : FnScope N_written ["text"] (defScope st_written) := ⟨rfl, rfl, rfl, by decide +kernel, rfl, by decide +kernel, by decide +kernel⟩
set_option maxHeartbeats 4000000 in
theorem ok_written (T : Txt K mg A) : FnD P w K mg base (cf A K) 2 A.f_written A.d_written ["text"] F_written := by
  refine FnD.of (N := N_written) T.F_written sc_written rfl fun cdv Ar outer s H E hr => ?_
  have tk := takes_of (X := cxOf (L2.CX P w) P w K mg base N_written "written" (defScope st_written) A.f_written cdv Ar outer s H E) rfl rfl rfl rfl
  exact ⟨_, (ss (sS 1 sc_written.nd (dLst da0))
    (ss (sF (passes_of rfl) (kS (dv 0)) (gN 2 sc_written.nd)
    (ss1 (sE (kMut 1 PySem.F.plainAttrs_list PySem.F.slot_list_extend PySem.F.type_list_extend mt_extendR m_extend (da (kCall tk (ok_code_of T) (hr.mono (by decide)) T.m_code_of T.F_code_of.kp T.b_code_of (da (dShr (dv 2)) da0)) da0)))))
    (ss1 (sR (dv 1)))))⟩
abbrev N_bytes_of : List Str := ["text"]
theorem sc_bytes_of : FnScope N_bytes_of ["text"] (defScope st_bytes_of) := ⟨rfl, rfl, rfl, by decide +kernel, rfl, by decide +kernel, by decide +kernel⟩
set_option maxHeartbeats 4000000 in
theorem ok_bytes_of (T : Txt K mg A) : FnD P w K mg base (cf A K) 4 A.f_bytes_of A.d_bytes_of ["text"] F_bytes_of := by
  refine FnD.of (N := N_bytes_of) T.F_bytes_of sc_bytes_of rfl fun cdv Ar outer s H E hr => ?_
  have tk := takes_of (X := cxOf (L2.CX P w) P w K mg base N_bytes_of "bytes_of" (defScope st_bytes_of) A.f_bytes_of cdv Ar outer s H E) rfl rfl rfl rfl
  exact ⟨_, (ss (sE (kCall tk (ok_check_signs T) (hr.mono (by decide)) T.m_check_signs T.F_check_signs.kp T.b_check_signs (da (dShr (dv 0)) da0)))
    (ss1 (sR (kCall tk (ok_written T) (hr.mono (by decide)) T.m_written T.F_written.kp T.b_written (da (dShr (dv 0)) da0)))))⟩
abbrev N_first_byte : List Str := ["byte"]
theorem sc_first_byte : FnScope N_first_byte ["byte"] (defScope st_first_byte) := ⟨rfl, rfl, rfl, by decide +kernel, rfl, by decide +kernel, by decide +kernel⟩
set_option maxHeartbeats 4000000 in
theorem ok_first_byte (T : Txt K mg A) : FnD P w K mg base (cf A K) 1 A.f_first_byte A.d_first_byte ["byte"] F_first_byte := by
  refine FnD.of (N := N_first_byte) T.F_first_byte sc_first_byte rfl fun cdv Ar outer s H E hr => ?_
  have tk := takes_of (X := cxOf (L2.CX P w) P w K mg base N_first_byte "first_byte" (defScope st_first_byte) A.f_first_byte cdv Ar outer s H E) rfl rfl rfl rfl
  exact ⟨_, (ss (sI (DT.cmp d_lt (dv 0) di (by rfl))
    (ss1 (sR (dTup (da di (da di (da di da0))))))
    ss0)
    (ss (sI (dtCmp3 d_le d_lt di (dv 0) di)
    (ss1 (sR (dTup (da di (da di (da di da0))))))
    ss0)
    (ss (sI (dtCmp3 d_le d_lt di (dv 0) di)
    (ss1 (sR (dTup (da di (da (dIf (DT.cmp (k_eq hr.units) (dv 0) di (by rfl)) di di) (da di da0))))))
    ss0)
    (ss (sI (dtCmp3 d_le d_lt di (dv 0) di)
    (ss1 (sR (dTup (da di (da (dIf (DT.cmp (k_eq hr.units) (dv 0) di (by rfl)) di di) (da (dIf (DT.cmp (k_eq hr.units) (dv 0) di (by rfl)) di di) da0))))))
    ss0)
    (ss1 (sR (dTup (da di (da di (da di da0))))))))))⟩
abbrev N_reach : List Str := ["data", "place", "many", "low", "high", "here"]
theorem sc_reach : FnScope N_reach ["data", "place"] (defScope st_reach) := ⟨rfl, rfl, rfl, by decide +kernel, rfl, by decide +kernel, by decide +kernel⟩
set_option maxHeartbeats 4000000 in
theorem ok_reach (T : Txt K mg A) : FnD P w K mg base (cf A K) 2 A.f_reach A.d_reach ["data", "place"] F_reach := by
  refine FnD.of (N := N_reach) T.F_reach sc_reach rfl fun cdv Ar outer s H E hr => ?_
  have tk := takes_of (X := cxOf (L2.CX P w) P w K mg base N_reach "reach" (defScope st_reach) A.f_reach cdv Ar outer s H E) rfl rfl rfl rfl
  exact ⟨_, (ss (sA (kCall tk (ok_first_byte T) (hr.mono (by decide)) T.m_first_byte T.F_first_byte.kp T.b_first_byte (da (kIx (dv 0) (dv 1)) da0)) (kT (gC (gN 2 sc_reach.nd) (gC (gN 3 sc_reach.nd) (gC (gN 4 sc_reach.nd) g0)))))
    (ss (sS 5 sc_reach.nd di)
    (ss (sW fuel (passes_of rfl) (DW.dt (dwAnd (DT.cmp d_lt (dv 5) (dv 2) (by rfl)) (dwAnd (DT.cmp d_lt (DE.bin k_add (dv 1) (dv 5)) (dCallB kc_len T.g_len (by decide +kernel) (da (dv 0) da0)) (by rfl)) (dwAnd1 (dtCmp3 d_le d_lt (dv 3) (kIx (dv 0) (DE.bin k_add (dv 1) (dv 5))) (dv 4))))))
    (ss (sS 5 sc_reach.nd (DE.bin k_add (dv 5) di))
    (ss1 (sA (dTup (da di (da di da0))) (kT (gC (gN 3 sc_reach.nd) (gC (gN 4 sc_reach.nd) g0)))))))
    (ss1 (sR (dTup (da (dv 5) (da (dv 2) da0))))))))⟩
abbrev N_value_of : List Str := ["data", "value", "byte"]
theorem sc_value_of : FnScope N_value_of ["data"] (defScope st_value_of) := ⟨rfl, rfl, rfl, by decide +kernel, rfl, by decide +kernel, by decide +kernel⟩
set_option maxHeartbeats 4000000 in
theorem ok_value_of (T : Txt K mg A) : FnD P w K mg base (cf A K) 1 A.f_value_of A.d_value_of ["data"] F_value_of := by
  refine FnD.of (N := N_value_of) T.F_value_of sc_value_of rfl fun cdv Ar outer s H E hr => ?_
  have tk := takes_of (X := cxOf (L2.CX P w) P w K mg base N_value_of "value_of" (defScope st_value_of) A.f_value_of cdv Ar outer s H E) rfl rfl rfl rfl
  exact ⟨_, (ss (sI (DT.cmp (k_eq hr.units) (dCallB kc_len T.g_len (by decide +kernel) (da (dv 0) da0)) di (by rfl))
    (ss1 (sR (kIx (dv 0) di)))
    ss0)
    (ss (sS 1 sc_value_of.nd (DE.bin d_sub (kIx (dv 0) di) (kIx (dLst (da di (da di (da di (da di (da di da0)))))) (dCallB kc_len T.g_len (by decide +kernel) (da (dv 0) da0)))))
    (ss (sF (passes_of rfl) (kS (kCut (dv 0) (do1 di) do0)) (gN 2 sc_value_of.nd)
    (ss1 (sS 1 sc_value_of.nd (DE.bin d_sub (DE.bin k_add (DE.bin d_mul di (dv 1)) (dv 2)) di))))
    (ss1 (sR (dv 1))))))⟩
abbrev N_cut : List Str := ["data", "found", "place", "here", "many"]
theorem sc_cut : FnScope N_cut ["data"] (defScope st_cut) := ⟨rfl, rfl, rfl, by decide +kernel, rfl, by decide +kernel, by decide +kernel⟩
set_option maxHeartbeats 4000000 in
theorem ok_cut (T : Txt K mg A) : FnD P w K mg base (cf A K) 3 A.f_cut A.d_cut ["data"] F_cut := by
  refine FnD.of (N := N_cut) T.F_cut sc_cut rfl fun cdv Ar outer s H E hr => ?_
  have tk := takes_of (X := cxOf (L2.CX P w) P w K mg base N_cut "cut" (defScope st_cut) A.f_cut cdv Ar outer s H E) rfl rfl rfl rfl
  exact ⟨_, (ss (sS 1 sc_cut.nd (dLst da0))
    (ss (sS 2 sc_cut.nd di)
    (ss (sW fuel (passes_of rfl) (DT.cmp d_lt (dv 2) (dCallB kc_len T.g_len (by decide +kernel) (da (dv 0) da0)) (by rfl))
    (ss (sA (kCall tk (ok_reach T) (hr.mono (by decide)) T.m_reach T.F_reach.kp T.b_reach (da (dShr (dv 0)) (da (dShr (dv 2)) da0))) (kT (gC (gN 3 sc_cut.nd) (gC (gN 4 sc_cut.nd) g0))))
    (ss (sE (kMut 1 PySem.F.plainAttrs_list PySem.F.slot_list_append PySem.F.type_list_append mt_append m_append (da (dTup (da (dIf (DT.cmp (k_eq hr.units) (dv 3) (dv 4) (by rfl)) (kCall tk (ok_value_of T) (hr.mono (by decide)) T.m_value_of T.F_value_of.kp T.b_value_of (da (kCut (dv 0) (do1 (dv 2)) (do1 (DE.bin k_add (dv 2) (dv 3)))) da0)) dn) (da (dv 3) da0))) da0)))
    (ss1 (sS 2 sc_cut.nd (DE.bin k_add (dv 2) (dv 3)))))))
    (ss1 (sR (dv 1))))))⟩
abbrev N_read_bytes : List Str := ["data", "found", "sign", "many"]
theorem sc_read_bytes : FnScope N_read_bytes ["data"] (defScope st_read_bytes) := ⟨rfl, rfl, rfl, by decide +kernel, rfl, by decide +kernel, by decide +kernel⟩
set_option maxHeartbeats 4000000 in
theorem ok_read_bytes (T : Txt K mg A) : FnD P w K mg base (cf A K) 4 A.f_read_bytes A.d_read_bytes ["data"] F_read_bytes := by
  refine FnD.of (N := N_read_bytes) T.F_read_bytes sc_read_bytes rfl fun cdv Ar outer s H E hr => ?_
  have tk := takes_of (X := cxOf (L2.CX P w) P w K mg base N_read_bytes "read_bytes" (defScope st_read_bytes) A.f_read_bytes cdv Ar outer s H E) rfl rfl rfl rfl
  exact ⟨_, (ss (sE (kCall tk (ok_check_bytes T) (hr.mono (by decide)) T.m_check_bytes T.F_check_bytes.kp T.b_check_bytes (da (dShr (dv 0)) da0)))
    (ss (sLc 1 (own := [("sign", 2), ("many", 3)]) sc_read_bytes.nd (kS (kCall tk (ok_cut T) (hr.mono (by decide)) T.m_cut T.F_cut.kp T.b_cut (da (dCallTy kc_list T.g_list (by decide +kernel) (da (dv 0) da0)) da0))) (by exact blkOk_by (N := N_read_bytes) (sc := (defScope st_read_bytes)) (by decide +kernel)) (fun _ _ _ _ _ => (kT (gC (gN 2 sc_read_bytes.nd) (gC (gN 3 sc_read_bytes.nd) g0)))) (fun _ _ _ _ _ => ts0) (fun _ _ _ _ _ => (dv 2)))
    (ss (sI (DT.cmp (k_inL (hu65 hr)) dn (dv 1) (by rfl))
    (ss1 (sRz 1 tk (T.e_InvalidBytes) T.i_InvalidBytes T.t_InvalidBytes (ok_InvalidBytes___init__ T) (hr.mono (by decide)) T.b_InvalidBytes___init__ T.m_InvalidBytes dx))
    ss0)
    (ss1 (sR (dv 1))))))⟩
abbrev N_read_with : List Str := ["data", "sign", "one", "many"]
theorem sc_read_with : FnScope N_read_with ["data", "sign"] (defScope st_read_with) := ⟨rfl, rfl, rfl, by decide +kernel, rfl, by decide +kernel, by decide +kernel⟩
set_option maxHeartbeats 4000000 in
theorem ok_read_with (T : Txt K mg A) : FnD P w K mg base (cf A K) 4 A.f_read_with A.d_read_with ["data", "sign"] F_read_with := by
  refine FnD.of (N := N_read_with) T.F_read_with sc_read_with rfl fun cdv Ar outer s H E hr => ?_
  have tk := takes_of (X := cxOf (L2.CX P w) P w K mg base N_read_with "read_with" (defScope st_read_with) A.f_read_with cdv Ar outer s H E) rfl rfl rfl rfl
  exact ⟨_, (ss (sE (kCall tk (ok_check_bytes T) (hr.mono (by decide)) T.m_check_bytes T.F_check_bytes.kp T.b_check_bytes (da (dShr (dv 0)) da0)))
    (ss (sE (kCall tk (ok_check_signs T) (hr.mono (by decide)) T.m_check_signs T.F_check_signs.kp T.b_check_signs (da (dLst (da (dv 1) da0)) da0)))
    (ss1 (sR (dLc (own := [("one", 2), ("many", 3)]) sc_read_with.nd (kS (kCall tk (ok_cut T) (hr.mono (by decide)) T.m_cut T.F_cut.kp T.b_cut (da (dCallTy kc_list T.g_list (by decide +kernel) (da (dv 0) da0)) da0))) (by exact blkOk_by (N := N_read_with) (sc := (defScope st_read_with)) (by decide +kernel)) (fun _ _ _ _ _ => (kT (gC (gN 2 sc_read_with.nd) (gC (gN 3 sc_read_with.nd) g0)))) (fun _ _ _ _ _ => ts0) (fun _ _ _ _ _ => (dIf (DT.cmp d_isN (dv 2) dn (by rfl)) (dv 1) (dv 2))))))))⟩
abbrev N_pieces_of : List Str := ["data", "sign", "many"]
theorem sc_pieces_of : FnScope N_pieces_of ["data"] (defScope st_pieces_of) := ⟨rfl, rfl, rfl, by decide +kernel, rfl, by decide +kernel, by decide +kernel⟩
set_option maxHeartbeats 4000000 in
theorem ok_pieces_of (T : Txt K mg A) : FnD P w K mg base (cf A K) 4 A.f_pieces_of A.d_pieces_of ["data"] F_pieces_of := by
  refine FnD.of (N := N_pieces_of) T.F_pieces_of sc_pieces_of rfl fun cdv Ar outer s H E hr => ?_
  have tk := takes_of (X := cxOf (L2.CX P w) P w K mg base N_pieces_of "pieces_of" (defScope st_pieces_of) A.f_pieces_of cdv Ar outer s H E) rfl rfl rfl rfl
  exact ⟨_, (ss (sE (kCall tk (ok_check_bytes T) (hr.mono (by decide)) T.m_check_bytes T.F_check_bytes.kp T.b_check_bytes (da (dShr (dv 0)) da0)))
    (ss1 (sR (dLc (own := [("sign", 1), ("many", 2)]) sc_pieces_of.nd (kS (kCall tk (ok_cut T) (hr.mono (by decide)) T.m_cut T.F_cut.kp T.b_cut (da (dCallTy kc_list T.g_list (by decide +kernel) (da (dv 0) da0)) da0))) (by exact blkOk_by (N := N_pieces_of) (sc := (defScope st_pieces_of)) (by decide +kernel)) (fun _ _ _ _ _ => (kT (gC (gN 1 sc_pieces_of.nd) (gC (gN 2 sc_pieces_of.nd) g0)))) (fun _ _ _ _ _ => ts0) (fun _ _ _ _ _ => (dTup (da (dIf (DT.cmp d_isN (dv 1) dn (by rfl)) (dLst da0) (dLst (da (dv 1) da0))) (da (dv 2) da0))))))))⟩
abbrev N_first_wrong : List Str := ["data", "place", "sign", "many"]
theorem sc_first_wrong : FnScope N_first_wrong ["data"] (defScope st_first_wrong) := ⟨rfl, rfl, rfl, by decide +kernel, rfl, by decide +kernel, by decide +kernel⟩
set_option maxHeartbeats 4000000 in
theorem ok_first_wrong (T : Txt K mg A) : FnD P w K mg base (cf A K) 4 A.f_first_wrong A.d_first_wrong ["data"] F_first_wrong := by
  refine FnD.of (N := N_first_wrong) T.F_first_wrong sc_first_wrong rfl fun cdv Ar outer s H E hr => ?_
  have tk := takes_of (X := cxOf (L2.CX P w) P w K mg base N_first_wrong "first_wrong" (defScope st_first_wrong) A.f_first_wrong cdv Ar outer s H E) rfl rfl rfl rfl
  exact ⟨_, (ss (sE (kCall tk (ok_check_bytes T) (hr.mono (by decide)) T.m_check_bytes T.F_check_bytes.kp T.b_check_bytes (da (dShr (dv 0)) da0)))
    (ss (sS 1 sc_first_wrong.nd di)
    (ss (sF (passes_of rfl) (kS (kCall tk (ok_cut T) (hr.mono (by decide)) T.m_cut T.F_cut.kp T.b_cut (da (dCallTy kc_list T.g_list (by decide +kernel) (da (dv 0) da0)) da0))) (kT (gC (gN 2 sc_first_wrong.nd) (gC (gN 3 sc_first_wrong.nd) g0)))
    (ss (sI (DT.cmp d_isN (dv 2) dn (by rfl))
    (ss1 (sR (dv 1)))
    ss0)
    (ss1 (sS 1 sc_first_wrong.nd (DE.bin k_add (dv 1) (dv 3))))))
    (ss1 (sR dn)))))⟩
abbrev N_begin_at : List Str := ["data", "place", "here", "sign", "many"]
theorem sc_begin_at : FnScope N_begin_at ["data", "place"] (defScope st_begin_at) := ⟨rfl, rfl, rfl, by decide +kernel, rfl, by decide +kernel, by decide +kernel⟩
set_option maxHeartbeats 4000000 in
theorem ok_begin_at (T : Txt K mg A) : FnD P w K mg base (cf A K) 4 A.f_begin_at A.d_begin_at ["data", "place"] F_begin_at := by
  refine FnD.of (N := N_begin_at) T.F_begin_at sc_begin_at rfl fun cdv Ar outer s H E hr => ?_
  have tk := takes_of (X := cxOf (L2.CX P w) P w K mg base N_begin_at "begin_at" (defScope st_begin_at) A.f_begin_at cdv Ar outer s H E) rfl rfl rfl rfl
  exact ⟨_, (ss (sE (kCall tk (ok_check_bytes T) (hr.mono (by decide)) T.m_check_bytes T.F_check_bytes.kp T.b_check_bytes (da (dShr (dv 0)) da0)))
    (ss (sI (dtNot (dtCmp3 d_le d_lt di (dv 1) (dCallB kc_len T.g_len (by decide +kernel) (da (dv 0) da0))))
    (ss1 (sRz 1 tk (T.e_InvalidBytes) T.i_InvalidBytes T.t_InvalidBytes (ok_InvalidBytes___init__ T) (hr.mono (by decide)) T.b_InvalidBytes___init__ T.m_InvalidBytes dx))
    ss0)
    (ss (sS 2 sc_begin_at.nd di)
    (ss (sF (passes_of rfl) (kS (kCall tk (ok_cut T) (hr.mono (by decide)) T.m_cut T.F_cut.kp T.b_cut (da (dCallTy kc_list T.g_list (by decide +kernel) (da (dv 0) da0)) da0))) (kT (gC (gN 3 sc_begin_at.nd) (gC (gN 4 sc_begin_at.nd) g0)))
    (ss (sI (DT.cmp d_gt (DE.bin k_add (dv 2) (dv 4)) (dv 1) (by rfl))
    (ss1 (sR (dv 2)))
    ss0)
    (ss1 (sS 2 sc_begin_at.nd (DE.bin k_add (dv 2) (dv 4))))))
    (ss1 (sR (dv 2)))))))⟩
abbrev N__law_deck : List Str := ["script", "cells", "each", "deck", "seed", "k", "cell", "rest", "at"]
theorem sc__law_deck : FnScope N__law_deck ["script", "cells", "each"] (defScope st__law_deck) := ⟨rfl, rfl, rfl, by decide +kernel, rfl, by decide +kernel, by decide +kernel⟩
set_option maxHeartbeats 4000000 in
theorem ok__law_deck (T : Txt K mg A) : FnD P w K mg base (cf A K) 1 A.f__law_deck A.d__law_deck ["script", "cells", "each"] F__law_deck := by
  refine FnD.of (N := N__law_deck) T.F__law_deck sc__law_deck rfl fun cdv Ar outer s H E hr => ?_
  have tk := takes_of (X := cxOf (L2.CX P w) P w K mg base N__law_deck "_law_deck" (defScope st__law_deck) A.f__law_deck cdv Ar outer s H E) rfl rfl rfl rfl
  exact ⟨_, (ss (sS 3 sc__law_deck.nd (dLst da0))
    (ss (sS 4 sc__law_deck.nd (DE.bin k_add di (dCallB kc_len T.g_len (by decide +kernel) (da (dv 0) da0))))
    (ss (sF (passes_of rfl) (iR1 T.g_range (da (dv 1) da0)) (gN 5 sc__law_deck.nd)
    (ss (sS 6 sc__law_deck.nd di)
    (ss (sI (DT.cmp d_lt (dv 5) (dCallB kc_len T.g_len (by decide +kernel) (da (dv 0) da0)) (by rfl))
    (ss1 (sS 6 sc__law_deck.nd (kIx (dv 0) (dv 5))))
    ss0)
    (ss (sS 7 sc__law_deck.nd (dCallB c_abs T.g_abs (by decide +kernel) (da (dv 6) da0)))
    (ss1 (sI (DT.cmp d_ge (dv 7) (DE.bin d_pow di di) (by rfl))
    (ss1 (sF (passes_of rfl) (iR1 T.g_range (da (dv 2) da0)) (gN 8 sc__law_deck.nd)
    (ss (sE (kMut 3 PySem.F.plainAttrs_list PySem.F.slot_list_append PySem.F.type_list_append mt_append m_append (da (DE.bin d_mod (dCallTy c_int T.g_int (by decide +kernel) (da (dv 7) da0)) di) da0)))
    (ss1 (sS 7 sc__law_deck.nd (DE.bin d_fdiv (dv 7) di))))))
    (ss (sS 4 sc__law_deck.nd (DE.bin d_mod (dCallTy c_int T.g_int (by decide +kernel) (da (DE.bin k_add (DE.bin k_add (DE.bin k_add (DE.bin d_mul (dv 4) di) (DE.bin d_mul di (dv 7))) (dCallTy c_int T.g_int (by decide +kernel) (da (DE.cmp d_lt (dv 6) di (by rfl)) da0))) (dv 5)) da0)) di))
    (ss1 (sF (passes_of rfl) (iR1 T.g_range (da (dv 2) da0)) (gN 8 sc__law_deck.nd)
    (ss (sS 4 sc__law_deck.nd (DE.bin d_mod (dCallTy c_int T.g_int (by decide +kernel) (da (DE.bin k_add (DE.bin k_add (DE.bin d_mul (dv 4) di) (dv 8)) di) da0)) di))
    (ss1 (sE (kMut 3 PySem.F.plainAttrs_list PySem.F.slot_list_append PySem.F.type_list_append mt_append m_append (da (DE.bin d_mod (dCallTy c_int T.g_int (by decide +kernel) (da (DE.bin d_fdiv (dv 4) di) da0)) di) da0))))))))))))))
    (ss (sE (kMut0 3 PySem.F.plainAttrs_list PySem.F.slot_list_reverse PySem.F.type_list_reverse mt_reverse m_reverse))
    (ss1 (sR (dv 3)))))))⟩
abbrev N__law_take : List Str := ["deck", "many"]
theorem sc__law_take : FnScope N__law_take ["deck", "many"] (defScope st__law_take) := ⟨rfl, rfl, rfl, by decide +kernel, rfl, by decide +kernel, by decide +kernel⟩
set_option maxHeartbeats 4000000 in
theorem ok__law_take (T : Txt K mg A) : FnD P w K mg base (cf A K) 1 A.f__law_take A.d__law_take ["deck", "many"] F__law_take := by
  refine FnD.of (N := N__law_take) T.F__law_take sc__law_take rfl fun cdv Ar outer s H E hr => ?_
  have tk := takes_of (X := cxOf (L2.CX P w) P w K mg base N__law_take "_law_take" (defScope st__law_take) A.f__law_take cdv Ar outer s H E) rfl rfl rfl rfl
  exact ⟨_, (ss (sI (DT.cmp (k_eq hr.units) (dCallB kc_len T.g_len (by decide +kernel) (da (dv 0) da0)) di (by rfl))
    (ss1 (sR di))
    ss0)
    (ss1 (sR (DE.bin d_mod (dCallTy c_int T.g_int (by decide +kernel) (da (kMut0 0 PySem.F.plainAttrs_list PySem.F.slot_list_pop PySem.F.type_list_pop mt_pop m_pop) da0)) (dv 1)))))⟩
abbrev N__law_bytes : List Str := ["text", "found", "s"]
theorem sc__law_bytes : FnScope N__law_bytes ["text"] (defScope st__law_bytes) := ⟨rfl, rfl, rfl, by decide +kernel, rfl, by decide +kernel, by decide +kernel⟩
set_option maxHeartbeats 4000000 in
theorem ok__law_bytes (T : Txt K mg A) : FnD P w K mg base (cf A K) 1 A.f__law_bytes A.d__law_bytes ["text"] F__law_bytes := by
  refine FnD.of (N := N__law_bytes) T.F__law_bytes sc__law_bytes rfl fun cdv Ar outer s H E hr => ?_
  have tk := takes_of (X := cxOf (L2.CX P w) P w K mg base N__law_bytes "_law_bytes" (defScope st__law_bytes) A.f__law_bytes cdv Ar outer s H E) rfl rfl rfl rfl
  exact ⟨_, (ss (sS 1 sc__law_bytes.nd (dLst da0))
    (ss (sF (passes_of rfl) (kS (dv 0)) (gN 2 sc__law_bytes.nd)
    (ss1 (sI (DT.cmp d_lt (dv 2) di (by rfl))
    (ss1 (sS 1 sc__law_bytes.nd (DE.bin k_add (dv 1) (dLst (da (dv 2) da0)))))
    (ss1 (sI (DT.cmp d_lt (dv 2) di (by rfl))
    (ss1 (sS 1 sc__law_bytes.nd (DE.bin k_add (dv 1) (dLst (da (DE.bin k_add di (DE.bin d_fdiv (dv 2) di)) (da (DE.bin k_add di (DE.bin d_mod (dv 2) di)) da0))))))
    (ss1 (sI (DT.cmp d_lt (dv 2) di (by rfl))
    (ss1 (sS 1 sc__law_bytes.nd (DE.bin k_add (dv 1) (dLst (da (DE.bin k_add di (DE.bin d_fdiv (dv 2) di)) (da (DE.bin k_add di (DE.bin d_mod (DE.bin d_fdiv (dv 2) di) di)) (da (DE.bin k_add di (DE.bin d_mod (dv 2) di)) da0)))))))
    (ss1 (sS 1 sc__law_bytes.nd (DE.bin k_add (dv 1) (dLst (da (DE.bin k_add di (DE.bin d_fdiv (dv 2) di)) (da (DE.bin k_add di (DE.bin d_mod (DE.bin d_fdiv (dv 2) di) di)) (da (DE.bin k_add di (DE.bin d_mod (DE.bin d_fdiv (dv 2) di) di)) (da (DE.bin k_add di (DE.bin d_mod (dv 2) di)) da0)))))))))))))))
    (ss1 (sR (dv 1)))))⟩
abbrev N__law_starts : List Str := ["data", "first", "low", "high", "size", "byte", "begin"]
theorem sc__law_starts : FnScope N__law_starts ["data"] (defScope st__law_starts) := ⟨rfl, rfl, rfl, by decide +kernel, rfl, by decide +kernel, by decide +kernel⟩
set_option maxHeartbeats 4000000 in
theorem ok__law_starts (T : Txt K mg A) : FnD P w K mg base (cf A K) 1 A.f__law_starts A.d__law_starts ["data"] F__law_starts := by
  refine FnD.of (N := N__law_starts) T.F__law_starts sc__law_starts rfl fun cdv Ar outer s H E hr => ?_
  have tk := takes_of (X := cxOf (L2.CX P w) P w K mg base N__law_starts "_law_starts" (defScope st__law_starts) A.f__law_starts cdv Ar outer s H E) rfl rfl rfl rfl
  exact ⟨_, (ss (sS 1 sc__law_starts.nd (kIx (dv 0) di))
    (ss (sI (DT.cmp d_lt (dv 1) di (by rfl))
    (ss1 (sR (dIf (DT.cmp (k_eq hr.units) (dCallB kc_len T.g_len (by decide +kernel) (da (dv 0) da0)) di (by rfl)) (dLst (da (dv 1) (da (dv 1) da0))) dn)))
    ss0)
    (ss (sI (dtCmp3 d_le d_lt di (dv 1) di)
    (ss1 (sPO2 2 3 sc__law_starts.nd (dao (DE.bin d_mul (DE.bin d_sub (dv 1) di) di) (dao (DE.bin k_add (DE.bin d_mul (DE.bin d_sub (dv 1) di) di) di) dao0))))
    (ss1 (sI (dtCmp3 d_le d_lt di (dv 1) di)
    (ss1 (sPO2 2 3 sc__law_starts.nd (dao (dCallB c_max2 T.g_max (by decide +kernel) (da di (da (DE.bin d_mul (DE.bin d_sub (dv 1) di) di) da0))) (dao (DE.bin k_add (DE.bin d_mul (DE.bin d_sub (dv 1) di) di) di) dao0))))
    (ss1 (sI (dtCmp3 d_le d_lt di (dv 1) di)
    (ss1 (sPO2 2 3 sc__law_starts.nd (dao (dCallB c_max2 T.g_max (by decide +kernel) (da di (da (DE.bin d_mul (DE.bin d_sub (dv 1) di) di) da0))) (dao (dCallB c_min2 T.g_min (by decide +kernel) (da di (da (DE.bin k_add (DE.bin d_mul (DE.bin d_sub (dv 1) di) di) di) da0))) dao0))))
    (ss1 (sR dn)))))))
    (ss (sS 4 sc__law_starts.nd (dIf (DT.cmp d_lt (dv 1) di (by rfl)) di (dIf (DT.cmp d_lt (dv 1) di (by rfl)) di di)))
    (ss (sF (passes_of rfl) (kS (kCut (dv 0) (do1 di) do0)) (gN 5 sc__law_starts.nd)
    (ss (sI (DW.dt (dwOr (dtNot (dtCmp3 d_le d_lt di (dv 5) di)) (dwOr1 (DT.cmp (k_eq hr.units) (dv 4) di (by rfl)))))
    (ss1 (sR dn))
    ss0)
    (ss (sS 6 sc__law_starts.nd (DE.bin d_mul (DE.bin d_fdiv (dv 2) (dv 4)) (dv 4)))
    (ss (sS 4 sc__law_starts.nd (DE.bin d_fdiv (dv 4) di))
    (ss (sS 6 sc__law_starts.nd (DE.bin k_add (dv 6) (DE.bin d_mul (DE.bin d_sub (dv 5) di) (dv 4))))
    (ss (sPO2 2 3 sc__law_starts.nd (dao (dCallB c_max2 T.g_max (by decide +kernel) (da (dv 2) (da (dv 6) da0))) (dao (dCallB c_min2 T.g_min (by decide +kernel) (da (dv 3) (da (DE.bin d_sub (DE.bin k_add (dv 6) (dv 4)) di) da0))) dao0)))
    (ss1 (sI (DT.cmp d_gt (dv 2) (dv 3) (by rfl))
    (ss1 (sR dn))
    ss0))))))))
    (ss1 (sR (dLst (da (dv 2) (da (dv 3) da0))))))))))⟩
abbrev N__law_pieces : List Str := ["data", "found", "at", "k", "size", "good", "told"]
theorem sc__law_pieces : FnScope N__law_pieces ["data"] (defScope st__law_pieces) := ⟨rfl, rfl, rfl, by decide +kernel, rfl, by decide +kernel, by decide +kernel⟩
set_option maxHeartbeats 4000000 in
theorem ok__law_pieces (T : Txt K mg A) : FnD P w K mg base (cf A K) 2 A.f__law_pieces A.d__law_pieces ["data"] F__law_pieces := by
  refine FnD.of (N := N__law_pieces) T.F__law_pieces sc__law_pieces rfl fun cdv Ar outer s H E hr => ?_
  have tk := takes_of (X := cxOf (L2.CX P w) P w K mg base N__law_pieces "_law_pieces" (defScope st__law_pieces) A.f__law_pieces cdv Ar outer s H E) rfl rfl rfl rfl
  exact ⟨_, (ss (sPO2 1 2 sc__law_pieces.nd (dao (dLst da0) (dao di dao0)))
    (ss (sW fuel (passes_of rfl) (DT.cmp d_lt (dv 2) (dCallB kc_len T.g_len (by decide +kernel) (da (dv 0) da0)) (by rfl))
    (ss (sA (dTup (da di (da dn da0))) (kT (gC (gN 4 sc__law_pieces.nd) (gC (gN 5 sc__law_pieces.nd) g0))))
    (ss (sF (passes_of rfl) (iR2 T.g_range (da di (da di da0))) (gN 3 sc__law_pieces.nd)
    (ss1 (sI (DT.cmp d_le (DE.bin k_add (dv 2) (dv 3)) (dCallB kc_len T.g_len (by decide +kernel) (da (dv 0) da0)) (by rfl))
    (ss (sS 6 sc__law_pieces.nd (kCall tk (ok__law_starts T) (hr.mono (by decide)) T.m__law_starts T.F__law_starts.kp T.b__law_starts (da (kCut (dv 0) (do1 (dv 2)) (do1 (DE.bin k_add (dv 2) (dv 3)))) da0)))
    (ss1 (sI (DT.cmp d_notN (dv 6) dn (by rfl))
    (ss (sS 4 sc__law_pieces.nd (dv 3))
    (ss1 (sI (DT.cmp (k_eq hr.units) (kCall tk (ok__law_bytes T) (hr.mono (by decide)) T.m__law_bytes T.F__law_bytes.kp T.b__law_bytes (da (dLst (da (kIx (dv 6) di) da0)) da0)) (kCut (dv 0) (do1 (dv 2)) (do1 (DE.bin k_add (dv 2) (dv 3)))) (by rfl))
    (ss1 (sS 5 sc__law_pieces.nd (kIx (dv 6) di)))
    ss0)))
    ss0)))
    ss0)))
    (ss (sE (kMut 1 PySem.F.plainAttrs_list PySem.F.slot_list_append PySem.F.type_list_append mt_append m_append (da (dTup (da (dIf (DT.cmp d_notN (dv 5) dn (by rfl)) (dLst (da (dv 5) da0)) (dLst da0)) (da (dv 4) da0))) da0)))
    (ss1 (sS 2 sc__law_pieces.nd (DE.bin k_add (dv 2) (dv 4))))))))
    (ss1 (sR (dv 1)))))⟩
abbrev N__law_any_sign : List Str := ["deck", "edges"]
theorem sc__law_any_sign : FnScope N__law_any_sign ["deck"] (defScope st__law_any_sign) := ⟨rfl, rfl, rfl, by decide +kernel, rfl, by decide +kernel, by decide +kernel⟩
set_option maxHeartbeats 4000000 in
theorem ok__law_any_sign (T : Txt K mg A) : FnD P w K mg base (cf A K) 2 A.f__law_any_sign A.d__law_any_sign ["deck"] F__law_any_sign := by
  refine FnD.of (N := N__law_any_sign) T.F__law_any_sign sc__law_any_sign rfl fun cdv Ar outer s H E hr => ?_
  have tk := takes_of (X := cxOf (L2.CX P w) P w K mg base N__law_any_sign "_law_any_sign" (defScope st__law_any_sign) A.f__law_any_sign cdv Ar outer s H E) rfl rfl rfl rfl
  exact ⟨_, (ss (sS 1 sc__law_any_sign.nd (dLst (da di (da di (da di (da di (da di (da di (da di (da di (da di (da di (da di (da di (da di da0)))))))))))))))
    (ss1 (sR (dIf (DT.cmp (k_eq hr.units) (kCall tk (ok__law_take T) (hr.mono (by decide)) T.m__law_take T.F__law_take.kp T.b__law_take (da (dv 0) (da di da0))) di (by rfl)) (kIx (dv 1) (kCall tk (ok__law_take T) (hr.mono (by decide)) T.m__law_take T.F__law_take.kp T.b__law_take (da (dv 0) (da (dCallB kc_len T.g_len (by decide +kernel) (da (dv 1) da0)) da0)))) (kCall tk (ok__law_take T) (hr.mono (by decide)) T.m__law_take T.F__law_take.kp T.b__law_take (da (dv 0) (da (kIx (dLst (da di (da di (da di (da di da0))))) (kCall tk (ok__law_take T) (hr.mono (by decide)) T.m__law_take T.F__law_take.kp T.b__law_take (da (dv 0) (da di da0)))) da0)))))))⟩
abbrev N__law_read : List Str := ["data", "e"]
theorem sc__law_read : FnScope N__law_read ["data"] (defScope st__law_read) := ⟨rfl, rfl, rfl, by decide +kernel, rfl, by decide +kernel, by decide +kernel⟩
set_option maxHeartbeats 4000000 in
theorem ok__law_read (T : Txt K mg A) : FnD P w K mg base (cf A K) 5 A.f__law_read A.d__law_read ["data"] F__law_read := by
  refine FnD.of (N := N__law_read) T.F__law_read sc__law_read rfl fun cdv Ar outer s H E hr => ?_
  have tk := takes_of (X := cxOf (L2.CX P w) P w K mg base N__law_read "_law_read" (defScope st__law_read) A.f__law_read cdv Ar outer s H E) rfl rfl rfl rfl
  exact ⟨_, (ss1 (sTry1 1 2 [1] sc__law_read.nd rfl rfl rfl rfl ⟨rfl, by decide, .inl T.m_InvalidBytes⟩ tk T.x_InvalidBytes (fun W pn xe tk _ => (ss1 (sR (kCall tk (ok_read_bytes T) (hr.mono (by decide)) T.m_read_bytes T.F_read_bytes.kp T.b_read_bytes (da (dShr (dv 0)) da0))))) (fun a oe cls d pn hz hf => pss_one (ps_ret (pe_xfA hz hf (pv 1)))) (sh_ret T.errs) (sh_nx _ _ _)))⟩
abbrev N_law : List Str := ["script", "deck", "turn", "text", "data", "other", "bent", "step", "pieces", "wrong", "place", "sign", "begins", "at", "byte", "cut_v", "k", "kind", "s", "row", "size", "begin"]
theorem sc_law : FnScope N_law ["script"] (defScope st_law) := ⟨rfl, rfl, rfl, by decide +kernel, rfl, by decide +kernel, by decide +kernel⟩
set_option maxHeartbeats 4000000 in
theorem ok_law (T : Txt K mg A) : FnD P w K mg base (cf A K) 6 A.f_law A.d_law ["script"] F_law := by
  refine FnD.of (N := N_law) T.F_law sc_law rfl fun cdv Ar outer s H E hr => ?_
  have tk := takes_of (X := cxOf (L2.CX P w) P w K mg base N_law "law" (defScope st_law) A.f_law cdv Ar outer s H E) rfl rfl rfl rfl
  exact ⟨_, (ss (sS 1 sc_law.nd (kCall tk (ok__law_deck T) (hr.mono (by decide)) T.m__law_deck T.F__law_deck.kp T.b__law_deck (da (dShr (dv 0)) (da di (da di da0)))))
    (ss (sF (passes_of rfl) (iR1 T.g_range (da di da0)) (gN 2 sc_law.nd)
    (ss (sLc 3 (own := [("k", 16)]) sc_law.nd (iR1 T.g_range (da (kCall tk (ok__law_take T) (hr.mono (by decide)) T.m__law_take T.F__law_take.kp T.b__law_take (da (dv 1) (da di da0))) da0)) (by exact blkOk_by (N := N_law) (sc := (defScope st_law)) (by decide +kernel)) (fun _ _ _ _ _ => (gN 16 sc_law.nd)) (fun _ _ _ _ _ => ts0) (fun _ _ _ _ _ => (kCall takes0 (ok__law_any_sign T) (hr.mono (by decide)) T.m__law_any_sign T.F__law_any_sign.kp T.b__law_any_sign (da (dv 1) da0))))
    (ss (sS 4 sc_law.nd (kCall tk (ok__law_bytes T) (hr.mono (by decide)) T.m__law_bytes T.F__law_bytes.kp T.b__law_bytes (da (dShr (dv 3)) da0)))
    (ss (sI (DW.dt (dwOr (DT.cmp (k_ne hr.units) (kCall tk (ok_bytes_of T) (hr.mono (by decide)) T.m_bytes_of T.F_bytes_of.kp T.b_bytes_of (da (dShr (dv 3)) da0)) (dv 4) (by rfl)) (dwOr (DT.cmp (k_ne hr.units) (kCall tk (ok_read_bytes T) (hr.mono (by decide)) T.m_read_bytes T.F_read_bytes.kp T.b_read_bytes (da (dShr (dv 4)) da0)) (dv 3) (by rfl)) (dwOr (DT.cmp d_notN (kCall tk (ok_first_wrong T) (hr.mono (by decide)) T.m_first_wrong T.F_first_wrong.kp T.b_first_wrong (da (dShr (dv 4)) da0)) dn (by rfl)) (dwOr1 (DT.cmp (k_ne hr.units) (kCall tk (ok_pieces_of T) (hr.mono (by decide)) T.m_pieces_of T.F_pieces_of.kp T.b_pieces_of (da (dShr (dv 4)) da0)) (dLc (own := [("s", 18)]) sc_law.nd (kS (dv 3)) (by exact blkOk_by (N := N_law) (sc := (defScope st_law)) (by decide +kernel)) (fun _ _ _ _ _ => (gN 18 sc_law.nd)) (fun _ _ _ _ _ => ts0) (fun _ _ _ _ _ => (dTup (da (dLst (da (dv 18) da0)) (da (dCallB kc_len T.g_len (by decide +kernel) (da (kCall takes0 (ok__law_bytes T) (hr.mono (by decide)) T.m__law_bytes T.F__law_bytes.kp T.b__law_bytes (da (dLst (da (dv 18) da0)) da0)) da0)) da0))))) (by rfl)))))))
    (ss1 (sR db))
    ss0)
    (ss (sLc 5 (own := [("k", 16)]) sc_law.nd (iR1 T.g_range (da (kCall tk (ok__law_take T) (hr.mono (by decide)) T.m__law_take T.F__law_take.kp T.b__law_take (da (dv 1) (da di da0))) da0)) (by exact blkOk_by (N := N_law) (sc := (defScope st_law)) (by decide +kernel)) (fun _ _ _ _ _ => (gN 16 sc_law.nd)) (fun _ _ _ _ _ => ts0) (fun _ _ _ _ _ => (kCall takes0 (ok__law_any_sign T) (hr.mono (by decide)) T.m__law_any_sign T.F__law_any_sign.kp T.b__law_any_sign (da (dv 1) da0))))
    (ss (sI (DW.dt (dwOr (DT.cmp (k_ne hr.units) (DE.cmp (k_ltD (hu65 hr)) (kCall tk (ok_bytes_of T) (hr.mono (by decide)) T.m_bytes_of T.F_bytes_of.kp T.b_bytes_of (da (dShr (dv 3)) da0)) (kCall tk (ok_bytes_of T) (hr.mono (by decide)) T.m_bytes_of T.F_bytes_of.kp T.b_bytes_of (da (dShr (dv 5)) da0)) (by rfl)) (DE.cmp (k_ltD (hu65 hr)) (dv 3) (dv 5) (by rfl)) (by rfl)) (dwOr1 (DT.cmp (k_ne hr.units) (kCall tk (ok_bytes_of T) (hr.mono (by decide)) T.m_bytes_of T.F_bytes_of.kp T.b_bytes_of (da (DE.bin k_add (dv 3) (dv 5)) da0)) (DE.bin k_add (dv 4) (kCall tk (ok_bytes_of T) (hr.mono (by decide)) T.m_bytes_of T.F_bytes_of.kp T.b_bytes_of (da (dShr (dv 5)) da0))) (by rfl)))))
    (ss1 (sR db))
    ss0)
    (ss (sS 6 sc_law.nd (dCallTy kc_list T.g_list (by decide +kernel) (da (dv 4) da0)))
    (ss (sF (passes_of rfl) (iR1 T.g_range (da (kCall tk (ok__law_take T) (hr.mono (by decide)) T.m__law_take T.F__law_take.kp T.b__law_take (da (dv 1) (da di da0))) da0)) (gN 7 sc_law.nd)
    (ss (sPOn [13, 17] (dao (kCall tk (ok__law_take T) (hr.mono (by decide)) T.m__law_take T.F__law_take.kp T.b__law_take (da (dv 1) (da (DE.bin k_add (dCallB kc_len T.g_len (by decide +kernel) (da (dv 6) da0)) di) da0))) (dao (kCall tk (ok__law_take T) (hr.mono (by decide)) T.m__law_take T.F__law_take.kp T.b__law_take (da (dv 1) (da di da0))) dao0)) (pgs_cons (gN (c := cf A K) 13 sc_law.nd).pg (pgs_cons (gN (c := cf A K) 17 sc_law.nd).pg pgs_nil)))
    (ss (sS 14 sc_law.nd (kIx (dLst (da di (da di (da di (da di (da di (da di (da di (da di (da di (da di (da di (da di (da di (da di da0))))))))))))))) (kCall tk (ok__law_take T) (hr.mono (by decide)) T.m__law_take T.F__law_take.kp T.b__law_take (da (dv 1) (da di da0)))))
    (ss1 (sS 6 sc_law.nd (DE.bin k_add (DE.bin k_add (kCut (dv 6) do0 (do1 (dv 13))) (dIf (DT.cmp (k_eq hr.units) (dv 17) di (by rfl)) (dLst da0) (dLst (da (dv 14) da0)))) (kCut (dv 6) (do1 (DE.bin k_add (dv 13) (dCallTy c_int T.g_int (by decide +kernel) (da (DE.cmp d_gt (dv 17) di (by rfl)) da0)))) do0)))))))
    (ss (sS 8 sc_law.nd (kCall tk (ok__law_pieces T) (hr.mono (by decide)) T.m__law_pieces T.F__law_pieces.kp T.b__law_pieces (da (dShr (dv 6)) da0)))
    (ss (sI (DW.dt (dwOr (DT.cmp (k_ne hr.units) (kCall tk (ok_pieces_of T) (hr.mono (by decide)) T.m_pieces_of T.F_pieces_of.kp T.b_pieces_of (da (dShr (dv 6)) da0)) (dv 8) (by rfl)) (dwOr1 (DT.cmp (k_ne hr.units) (dCallB kc_sum T.g_sum (by decide +kernel) (da (dLc (own := [("row", 19), ("size", 20)]) sc_law.nd (kS (dv 8)) (by exact blkOk_by (N := N_law) (sc := (defScope st_law)) (by decide +kernel)) (fun _ _ _ _ _ => (kT (gC (gN 19 sc_law.nd) (gC (gN 20 sc_law.nd) g0)))) (fun _ _ _ _ _ => ts0) (fun _ _ _ _ _ => (dv 20))) da0)) (dCallB kc_len T.g_len (by decide +kernel) (da (dv 6) da0)) (by rfl)))))
    (ss1 (sR db))
    ss0)
    (ss (sLc 9 (own := [("k", 16)]) sc_law.nd (iR1 T.g_range (da (dCallB kc_len T.g_len (by decide +kernel) (da (dv 8) da0)) da0)) (by exact blkOk_by (N := N_law) (sc := (defScope st_law)) (by decide +kernel)) (fun _ _ _ _ _ => (gN 16 sc_law.nd)) (fun _ _ _ _ _ => (ts1 (DT.cmp (k_eq hr.units) (kIx (kIx (dv 8) (dv 16)) di) (dLst da0) (by rfl)))) (fun _ _ _ _ _ => (dv 16)))
    (ss (sS 10 sc_law.nd (dIf (DT.cmp (k_ne hr.units) (dv 9) (dLst da0) (by rfl)) (dCallB kc_sum T.g_sum (by decide +kernel) (da (dLc (own := [("row", 19), ("size", 20)]) sc_law.nd (kS (kCut (dv 8) do0 (do1 (kIx (dv 9) di)))) (by exact blkOk_by (N := N_law) (sc := (defScope st_law)) (by decide +kernel)) (fun _ _ _ _ _ => (kT (gC (gN 19 sc_law.nd) (gC (gN 20 sc_law.nd) g0)))) (fun _ _ _ _ _ => ts0) (fun _ _ _ _ _ => (dv 20))) da0)) dn))
    (ss (sI (DW.dt (dwOr (DT.cmp (k_ne hr.units) (kCall tk (ok_first_wrong T) (hr.mono (by decide)) T.m_first_wrong T.F_first_wrong.kp T.b_first_wrong (da (dShr (dv 6)) da0)) (dv 10) (by rfl)) (dwOr1 (DT.cmp (k_ne hr.units) (kCall tk (ok__law_read T) (hr.mono (by decide)) T.m__law_read T.F__law_read.kp T.b__law_read (da (dShr (dv 6)) da0)) (dIf (DT.cmp (k_ne hr.units) (dv 9) (dLst da0) (by rfl)) dx (dSumL T.g_sum (dLc (own := [("row", 19), ("size", 20)]) sc_law.nd (kS (dv 8)) (by exact blkOk_by (N := N_law) (sc := (defScope st_law)) (by decide +kernel)) (fun _ _ _ _ _ => (kT (gC (gN 19 sc_law.nd) (gC (gN 20 sc_law.nd) g0)))) (fun _ _ _ _ _ => ts0) (fun _ _ _ _ _ => (dv 19))) (dLst da0))) (by rfl)))))
    (ss1 (sR db))
    ss0)
    (ss (sS 11 sc_law.nd (kCall tk (ok__law_any_sign T) (hr.mono (by decide)) T.m__law_any_sign T.F__law_any_sign.kp T.b__law_any_sign (da (dv 1) da0)))
    (ss (sI (DT.cmp (k_ne hr.units) (kCall tk (ok_read_with T) (hr.mono (by decide)) T.m_read_with T.F_read_with.kp T.b_read_with (da (dShr (dv 6)) (da (dShr (dv 11)) da0))) (dSumL T.g_sum (dLc (own := [("row", 19), ("size", 20)]) sc_law.nd (kS (dv 8)) (by exact blkOk_by (N := N_law) (sc := (defScope st_law)) (by decide +kernel)) (fun _ _ _ _ _ => (kT (gC (gN 19 sc_law.nd) (gC (gN 20 sc_law.nd) g0)))) (fun _ _ _ _ _ => ts0) (fun _ _ _ _ _ => (dIf (DT.cmp (k_ne hr.units) (dv 19) (dLst da0) (by rfl)) (dv 19) (dLst (da (dv 11) da0))))) (dLst da0)) (by rfl))
    (ss1 (sR db))
    ss0)
    (ss (sLc 12 (own := [("k", 16)]) sc_law.nd (iR1 T.g_range (da (dCallB kc_len T.g_len (by decide +kernel) (da (dv 8) da0)) da0)) (by exact blkOk_by (N := N_law) (sc := (defScope st_law)) (by decide +kernel)) (fun _ _ _ _ _ => (gN 16 sc_law.nd)) (fun _ _ _ _ _ => ts0) (fun _ _ _ _ _ => (dCallB kc_sum T.g_sum (by decide +kernel) (da (dLc (own := [("row", 19), ("size", 20)]) sc_law.nd (kS (kCut (dv 8) do0 (do1 (dv 16)))) (by exact blkOk_by (N := N_law) (sc := (relS _ (defScope st_law))) (by decide +kernel)) (fun _ _ _ _ _ => (kT (gC (gN 19 sc_law.nd) (gC (gN 20 sc_law.nd) g0)))) (fun _ _ _ _ _ => ts0) (fun _ _ _ _ _ => (dv 20))) da0))))
    (ss (sF (passes_of rfl) (iR1 T.g_range (da (dCallB kc_len T.g_len (by decide +kernel) (da (dv 6) da0)) da0)) (gN 13 sc_law.nd)
    (ss1 (sI (DT.cmp (k_ne hr.units) (kCall tk (ok_begin_at T) (hr.mono (by decide)) T.m_begin_at T.F_begin_at.kp T.b_begin_at (da (dShr (dv 6)) (da (dShr (dv 13)) da0))) (dCallB kc_maxL T.g_max (by decide +kernel) (da (dLc (own := [("begin", 21)]) sc_law.nd (kS (dv 12)) (by exact blkOk_by (N := N_law) (sc := (defScope st_law)) (by decide +kernel)) (fun _ _ _ _ _ => (gN 21 sc_law.nd)) (fun _ _ _ _ _ => (ts1 (DT.cmp d_le (dv 21) (dv 13) (by rfl)))) (fun _ _ _ _ _ => (dv 21))) da0)) (by rfl))
    (ss1 (sR db))
    ss0)))
    (ss1 (sI (DT.cmp (k_ne hr.units) (dv 6) (dLst da0) (by rfl))
    (ss (sS 15 sc_law.nd (kIx (dv 12) (kCall tk (ok__law_take T) (hr.mono (by decide)) T.m__law_take T.F__law_take.kp T.b__law_take (da (dv 1) (da (dCallB kc_len T.g_len (by decide +kernel) (da (dv 12) da0)) da0)))))
    (ss1 (sI (DT.cmp (k_ne hr.units) (DE.bin k_add (kCall tk (ok_pieces_of T) (hr.mono (by decide)) T.m_pieces_of T.F_pieces_of.kp T.b_pieces_of (da (kCut (dv 6) do0 (do1 (dv 15))) da0)) (kCall tk (ok_pieces_of T) (hr.mono (by decide)) T.m_pieces_of T.F_pieces_of.kp T.b_pieces_of (da (kCut (dv 6) (do1 (dv 15)) do0) da0))) (dv 8) (by rfl))
    (ss1 (sR db))
    ss0)))
    ss0)))))))))))))))))))
    (ss1 (sR (dAnd (DE.cmp (k_eq hr.units) (kCall tk (ok__law_read T) (hr.mono (by decide)) T.m__law_read T.F__law_read.kp T.b__law_read (da (dLst (da di (da di da0))) da0)) dx (by rfl)) (dAnd (DE.cmp (k_eq hr.units) (kCall tk (ok__law_read T) (hr.mono (by decide)) T.m__law_read T.F__law_read.kp T.b__law_read (da (dLst (da di da0)) da0)) dx (by rfl)) (dAnd (DE.cmp (k_eq hr.units) (kCall tk (ok_pieces_of T) (hr.mono (by decide)) T.m_pieces_of T.F_pieces_of.kp T.b_pieces_of (da (dLst (da di (da di (da di da0)))) da0)) (dLst (da (dTup (da (dLst da0) (da di da0))) (da (dTup (da (dLst (da di da0)) (da di da0))) da0))) (by rfl)) (dOne (DE.cmp (k_eq hr.units) (kCall tk (ok_bytes_of T) (hr.mono (by decide)) T.m_bytes_of T.F_bytes_of.kp T.b_bytes_of (da (dLst (da di da0)) da0)) (dLst (da di (da di da0))) (by rfl))))))))))⟩
end
end K16

namespace K16
open PySem PySem.Spec L2 DS
def isNum (v lo hi : Int) : Bool := decide (lo ≤ v) && decide (v < hi)
theorem F_is_number_eq (v lo hi : Int) : F_is_number [(.sh, .int v), (.sh, .int lo), (.sh, .int hi)] = .ok (.s (.bl (isNum v lo hi))) [none, none, none] := by
  by_cases h : lo ≤ v <;> simp [F_is_number, isNum, h]
def code (s : Int) : List Int := if s < 128 then [s] else if s < 2048 then [192 + s / 64, 128 + s % 64] else if s < 65536 then [224 + s / 4096, 128 + s / 64 % 64, 128 + s % 64] else [240 + s / 262144, 128 + s / 4096 % 64, 128 + s / 64 % 64, 128 + s % 64]
theorem F_code_of_eq (s : Int) : F_code_of [(.sh, .int s)] = .ok (.o (IL (code s))) [none] := by
  by_cases h : s < 128
  · simp [F_code_of, code, h]
  by_cases h2 : s < 2048
  · simp [F_code_of, code, h, h2]
  by_cases h3 : s < 65536 <;> simp [F_code_of, code, h, h2, h3]
theorem code_len (s : Int) : (code s).length ≤ 4 := by
  unfold code
  split
  · simp
  split
  · simp
  split <;> simp
/-- bytes, signs -/
def Byt (xs : List Int) : Prop := ∀ x ∈ xs, isNum x 0 256 = true
def Sgn (xs : List Int) : Prop := ∀ x ∈ xs, isNum x 0 1114112 = true
theorem F_check_bytes_eq (xs : List Int) (h : Byt xs) : F_check_bytes [(.sh, IL xs)] = .ok (.s .non) [none] := by
  have hl : lcL (gSlot 1) q_check_bytes_1 e_check_bytes_1 [1] (xs.map .int) [some (.sh, IL xs), none] [] = .ok ([], [some (.sh, IL xs), none]) := by
    refine lc_none fun d hd rest => ?_
    obtain ⟨x, hx, rfl⟩ := List.mem_map.mp hd
    rw [lcL_c]
    simp [F_is_number_eq, h x hx]
  simp [F_check_bytes, hl]
theorem F_check_signs_eq (xs : List Int) (h : Sgn xs) : F_check_signs [(.sh, IL xs)] = .ok (.s .non) [none] := by
  have hl : lcL (gSlot 1) q_check_signs_1 e_check_signs_1 [1] (xs.map .int) [some (.sh, IL xs), none] [] = .ok ([], [some (.sh, IL xs), none]) := by
    refine lc_none fun d hd rest => ?_
    obtain ⟨x, hx, rfl⟩ := List.mem_map.mp hd
    rw [lcL_c]
    simp [F_is_number_eq, h x hx]
  simp [F_check_signs, hl]
theorem F_check_bytes_256 : F_check_bytes [(.sh, IL [256])] = .ex 1 (.str "byte") := by
  have h : isNum 256 0 256 = false := by decide
  have h2 : (Str.ofString "byte").length ≤ 1000 := by decide
  simp [F_check_bytes, lcL_c, F_is_number_eq, h, h2, e_check_bytes_1]
theorem written_loop : ∀ (t acc : List Int) (x : Option Bd) (T : D), frV (some x) = true → acc.length + 4 * t.length ≤ 16777216 →
    ∃ y, forL (gSlot 2) s_written_1 (t.map .int) [some (.sh, T), some (.ow, IL acc), x] = .nx [some (.sh, T), some (.ow, IL (acc ++ t.flatMap code)), y]
  | [], acc, x, T, hx, hl => ⟨x, by simp⟩
  | s :: t, acc, x, T, hx, hl => by
    simp only [List.length_cons] at hl
    have hc := code_len s
    obtain ⟨y, hy⟩ := written_loop t (acc ++ code s) (some (.sh, .int s)) T rfl (by simp; omega)
    refine ⟨y, ?_⟩
    rw [List.map_cons, forL_c]
    have h3 : acc.length + (code s).length ≤ 16777216 := by omega
    simp [F_code_of_eq, hx, h3]
    simpa [IL] using hy
def bytes (t : List Int) : List Int := t.flatMap code
theorem F_written_eq (t : List Int) (hl : t.length ≤ 1000000) : F_written [(.sh, IL t)] = .ok (.o (IL (bytes t))) [none] := by
  obtain ⟨y, hy⟩ := written_loop t [] none (IL t) rfl (by simp; omega)
  simp only [IL, List.map_nil, List.nil_append] at hy
  simp [F_written, hy, bytes]
theorem F_bytes_of_eq (t : List Int) (h : Sgn t) (hl : t.length ≤ 1000000) : F_bytes_of [(.sh, IL t)] = .ok (.o (IL (bytes t))) [none] := by
  simp [F_bytes_of, F_check_signs_eq t h, F_written_eq t hl]
theorem lbytes_loop : ∀ (t acc : List Int) (x : Option Bd) (T : D), frV (some x) = true → acc.length + 4 * t.length ≤ 16777216 →
    ∃ y, forL (gSlot 2) s__law_bytes_1 (t.map .int) [some (.sh, T), some (.ow, IL acc), x] = .nx [some (.sh, T), some (.ow, IL (acc ++ t.flatMap code)), y]
  | [], acc, x, T, hx, hl => ⟨x, by simp⟩
  | s :: t, acc, x, T, hx, hl => by
    simp only [List.length_cons] at hl
    have hc := code_len s
    obtain ⟨y, hy⟩ := lbytes_loop t (acc ++ code s) (some (.sh, .int s)) T rfl (by simp; omega)
    refine ⟨y, ?_⟩
    rw [List.map_cons, forL_c]
    have h3 : acc.length + 1 ≤ 16777216 := by omega
    have h4 : acc.length + 2 ≤ 16777216 := by omega
    have h5 : acc.length + 3 ≤ 16777216 := by omega
    have h6 : acc.length + 4 ≤ 16777216 := by omega
    rw [List.flatMap_cons, ← List.append_assoc, ← hy]
    unfold code
    by_cases q1 : s < 128
    · simp [IL, hx, h3, q1]
    by_cases q2 : s < 2048
    · simp [IL, hx, h4, q1, q2]
    by_cases q3 : s < 65536
    · simp [IL, hx, h5, q1, q2, q3]
    · simp [IL, hx, h6, q1, q2, q3]
theorem F__law_bytes_eq (t : List Int) (hl : t.length ≤ 1000000) : F__law_bytes [(.sh, IL t)] = .ok (.o (IL (bytes t))) [none] := by
  obtain ⟨y, hy⟩ := lbytes_loop t [] none (IL t) rfl (by simp; omega)
  simp only [IL, List.map_nil, List.nil_append] at hy
  simp [F__law_bytes, hy, bytes]
def fb (b : Int) : Int × Int × Int :=
  if b < 128 then (1, 0, 0) else if 194 ≤ b ∧ b < 224 then (2, 128, 192) else if 224 ≤ b ∧ b < 240 then (3, if b = 224 then 160 else 128, 192) else if 240 ≤ b ∧ b < 245 then (4, if b = 240 then 144 else 128, if b = 244 then 144 else 192) else (0, 0, 0)
theorem F_first_byte_eq (b : Int) : F_first_byte [(.sh, .int b)] = .ok (.s (.tup [.int (fb b).1, .int (fb b).2.1, .int (fb b).2.2])) [none] := by
  unfold fb
  by_cases h1 : b < 128
  · simp [F_first_byte, h1]
  by_cases h2 : 194 ≤ b
  · by_cases h3 : b < 224
    · simp [F_first_byte, h1, h2, h3]
    by_cases h4 : b < 240
    · by_cases h5 : b = 224
      · subst h5; simp [F_first_byte]
      · simp [F_first_byte, h1, h2, h3, h4, show (224 : Int) ≤ b by omega, h5]
    by_cases h6 : b < 245
    · by_cases h7 : b = 240
      · subst h7; simp [F_first_byte]
      by_cases h8 : b = 244
      · subst h8; simp [F_first_byte]
      · simp [F_first_byte, h1, h2, h3, h4, show (224 : Int) ≤ b by omega, show (240 : Int) ≤ b by omega, h6, h7, h8]
    · simp [F_first_byte, h1, h2, h3, h4, show (224 : Int) ≤ b by omega, show (240 : Int) ≤ b by omega, h6]
  · simp [F_first_byte, h1, h2, show ¬ (224 : Int) ≤ b by omega, show ¬ (240 : Int) ≤ b by omega]
end K16

namespace K16
open PySem PySem.Spec L2 DS
/-- how many more bytes go along -/
def reachL : Nat → Int → Int → List Int → Nat
  | 0, _, _, _ => 0
  | _ + 1, _, _, [] => 0
  | m + 1, lo, hi, x :: r => if lo ≤ x ∧ x < hi then reachL m 128 192 r + 1 else 0
theorem reach_loop (data : List Int) (p : Nat) (many : Int) (hp : p < data.length) : ∀ (m h : Nat) (lo hi : Int) (n : Nat), (many - h).toNat = m → m < n →
    ∃ lo' hi' : Int, whl w_reach_1 s_reach_1 n [some (.sh, IL data), some (.sh, .int p), some (.sh, .int many), some (.sh, .int lo), some (.sh, .int hi), some (.sh, .int h)] = .nx [some (.sh, IL data), some (.sh, .int p), some (.sh, .int many), some (.sh, .int lo'), some (.sh, .int hi'), some (.sh, .int ((h + reachL m lo hi (data.drop (p + h)) : Nat) : Int))] := by
  intro m
  induction m with
  | zero =>
    intro h lo hi n hm hn
    obtain ⟨n, rfl⟩ : ∃ k, n = k + 1 := ⟨n - 1, by omega⟩
    refine ⟨lo, hi, ?_⟩
    have q : ¬ (h : Int) < many := by omega
    rw [whl_c]
    simp [q, reachL]
  | succ m ih =>
    intro h lo hi n hm hn
    obtain ⟨n, rfl⟩ : ∃ k, n = k + 1 := ⟨n - 1, by omega⟩
    have q : (h : Int) < many := by omega
    rw [whl_c]
    by_cases q2 : p + h < data.length
    · have e1 : data.drop (p + h) = data[p + h] :: data.drop (p + h + 1) := List.drop_eq_getElem_cons q2
      have q3 : (p : Int) + (h : Int) < (data.length : Int) := by omega
      have e2 : data[p + h]? = some data[p + h] := List.getElem?_eq_getElem q2
      by_cases q4 : lo ≤ data[p + h]
      · by_cases q5 : data[p + h] < hi
        · obtain ⟨lo', hi', e⟩ := ih (h + 1) 128 192 n (by omega) (by omega)
          refine ⟨lo', hi', ?_⟩
          rw [e1]
          simp [q, q3, atI_add, e2, q4, q5, reachL]
          simp only [Nat.add_assoc] at e ⊢
          rw [show ((h : Int) + 1) = ((h + 1 : Nat) : Int) by omega, e]
          simp [Nat.add_comm, Int.add_comm, Int.add_left_comm, Nat.add_left_comm]
        · refine ⟨lo, hi, ?_⟩
          rw [e1]
          simp [q, q3, atI_add, e2, q4, q5, reachL]
      · refine ⟨lo, hi, ?_⟩
        rw [e1]
        simp [q, q3, atI_add, e2, q4, reachL]
    · have q3 : ¬ (p : Int) + (h : Int) < (data.length : Int) := by omega
      refine ⟨lo, hi, ?_⟩
      have e1 : data.drop (p + h) = [] := List.drop_of_length_le (by omega)
      rw [e1]
      simp [q, q3, reachL]
/-- from this place on: how many bytes, how many there should be -/
def here : List Int → Nat
  | [] => 0
  | b :: r => reachL ((fb b).1 - 1).toNat (fb b).2.1 (fb b).2.2 r + 1
def many : List Int → Int
  | [] => 0
  | b :: _ => (fb b).1
theorem F_reach_eq (data : List Int) (p : Nat) (hp : p < data.length) : F_reach [(.sh, IL data), (.sh, .int p)] = .ok (.s (.tup [.int (here (data.drop p)), .int (many (data.drop p))])) [none, none] := by
  have e1 : data.drop p = data[p] :: data.drop (p + 1) := List.drop_eq_getElem_cons hp
  have e2 : data[p]? = some data[p] := List.getElem?_eq_getElem hp
  rw [e1]
  generalize hb : data[p] = b at *
  have hf : ((fb b).1 - ((1 : Nat) : Int)).toNat < fuel := by
    unfold fb fuel
    split
    · decide
    split
    · decide
    split
    · exact (by decide : ((3 : Int) - ((1 : Nat) : Int)).toNat < 1099511627776)
    split
    · exact (by decide : ((4 : Int) - ((1 : Nat) : Int)).toNat < 1099511627776)
    · decide
  obtain ⟨lo', hi', e⟩ := reach_loop data p (fb b).1 hp ((fb b).1 - ((1 : Nat) : Int)).toNat 1 (fb b).2.1 (fb b).2.2 fuel rfl hf
  simp only [Int.natCast_one] at e
  simp [F_reach, F_first_byte_eq, e2, e, here, many, Nat.add_comm]
def val : List Int → Int
  | [a] => a
  | [a, b] => 64 * (a - 192) + b - 128
  | [a, b, c] => 64 * (64 * (a - 224) + b - 128) + c - 128
  | [a, b, c, d] => 64 * (64 * (64 * (a - 240) + b - 128) + c - 128) + d - 128
  | _ => 0
theorem F_value_of_eq (d : List Int) (h1 : 1 ≤ d.length) (h4 : d.length ≤ 4) : F_value_of [(.sh, IL d)] = .ok (.s (.int (val d))) [none] := by
  match d, h1, h4 with
  | [a], _, _ => simp [F_value_of, val]
  | [a, b], _, _ => simp [F_value_of, val, cutD_from1, forL_c]
  | [a, b, c], _, _ => simp [F_value_of, val, cutD_from1, forL_c]
  | [a, b, c, e], _, _ => simp [F_value_of, val, cutD_from1, forL_c]
end K16

namespace K16
open PySem PySem.Spec L2 DS
theorem reachL_le : ∀ (m : Nat) (lo hi : Int) (r : List Int), reachL m lo hi r ≤ m ∧ reachL m lo hi r ≤ r.length
  | 0, _, _, _ => ⟨Nat.le_refl _, Nat.zero_le _⟩
  | m + 1, _, _, [] => ⟨Nat.zero_le _, Nat.le_refl _⟩
  | m + 1, lo, hi, x :: r => by
    unfold reachL
    have ih := reachL_le m 128 192 r
    split
    · simp; omega
    · simp
theorem here_le (r : List Int) : here r ≤ r.length := by
  cases r with
  | nil => simp [here]
  | cons b r => have := (reachL_le ((fb b).1 - 1).toNat (fb b).2.1 (fb b).2.2 r).2; exact Nat.succ_le_succ this
theorem here_pos {r : List Int} (h : r ≠ []) : 1 ≤ here r := by
  cases r with
  | nil => exact absurd rfl h
  | cons b r => simp [here]
theorem fb_le (b : Int) : ((fb b).1 - 1).toNat ≤ 3 := by
  unfold fb
  split
  · decide
  split
  · decide
  split
  · exact (by decide : ((3 : Int) - 1).toNat ≤ 3)
  split
  · exact (by decide : ((4 : Int) - 1).toNat ≤ 3)
  · decide
theorem here_le4 (r : List Int) : here r ≤ 4 := by
  cases r with
  | nil => simp [here]
  | cons b r => have := (reachL_le ((fb b).1 - 1).toNat (fb b).2.1 (fb b).2.2 r).1; have := fb_le b; show _ + 1 ≤ 4; omega
abbrev Pc := Option Int × Nat
def pce (r : List Int) : Pc := (if (here r : Int) = many r then some (val (r.take (here r))) else none, here r)
def pcsF : Nat → List Int → List Pc
  | 0, _ => []
  | n + 1, r => if r = [] then [] else pce r :: pcsF n (r.drop (here r))
def pcs (r : List Int) : List Pc := pcsF r.length r
theorem pcsF_eq : ∀ (n : Nat) (r : List Int), r.length ≤ n → pcsF n r = pcs r
  | 0, r, h => by
    obtain rfl := List.eq_nil_of_length_eq_zero (Nat.le_zero.mp h)
    rfl
  | n + 1, r, h => by
    by_cases hr : r = []
    · subst hr; simp [pcsF, pcs]
    · have h1 := here_pos hr
      have h2 : 1 ≤ r.length := List.length_pos_iff.mpr hr
      obtain ⟨k, hk⟩ : ∃ k, r.length = k + 1 := ⟨r.length - 1, by omega⟩
      unfold pcs
      rw [hk]
      unfold pcsF
      rw [if_neg hr, if_neg hr, pcsF_eq n _ (by simp; omega), pcsF_eq k _ (by simp; omega)]
theorem pcs_nil : pcs [] = [] := rfl
theorem pcs_cons {r : List Int} (h : r ≠ []) : pcs r = pce r :: pcs (r.drop (here r)) := by
  have h1 := here_pos h
  have h2 : 1 ≤ r.length := List.length_pos_iff.mpr h
  obtain ⟨k, hk⟩ : ∃ k, r.length = k + 1 := ⟨r.length - 1, by omega⟩
  show pcsF r.length r = _
  rw [hk]
  unfold pcsF
  rw [if_neg h, pcsF_eq k _ (by simp; omega)]
def optD : Option Int → D
  | some i => .int i
  | none => .non
def pcD (p : Pc) : D := .tup [optD p.1, .int p.2]
theorem take_map_int (xs : List Int) (a b : Nat) : ((xs.map D.int).drop a).take b = ((xs.drop a).take b).map D.int := by simp
theorem cut_step (data : List Int) (p : Nat) (acc : List Pc) (x3 x4 : Option Bd) (q : p < data.length) (ha : acc.length < 16777216) (f3 : frV (some x3) = true) (f4 : frV (some x4) = true) :
    s_cut_1 [some (.sh, IL data), some (.ow, .lst (acc.map pcD)), some (.sh, .int p), x3, x4] = .nx [some (.sh, IL data), some (.ow, .lst ((acc ++ [pce (data.drop p)]).map pcD)), some (.sh, .int ((p + here (data.drop p) : Nat) : Int)), some (.sh, .int (here (data.drop p))), some (.sh, .int (many (data.drop p)))] := by
  have hne : data.drop p ≠ [] := by intro z; have := congrArg List.length z; simp at this; omega
  have h1 := here_pos hne
  have h2 := here_le (data.drop p)
  rw [List.length_drop] at h2
  have h4 := here_le4 (data.drop p)
  have e3 : cutD (data.map D.int) (some (p : Int)) (some ((p : Int) + (here (data.drop p) : Int))) = ((data.drop p).take (here (data.drop p))).map D.int := by
    rw [← Int.natCast_add, cutD_mid, take_map_int, Nat.add_sub_cancel_left]
  have e4 := F_value_of_eq ((data.drop p).take (here (data.drop p))) (by simp; omega) (by simp; omega)
  have e5 := F_reach_eq data p q
  have e6 : pcD (pce (data.drop p)) = .tup [if (here (data.drop p) : Int) = many (data.drop p) then .int (val ((data.drop p).take (here (data.drop p)))) else .non, .int (here (data.drop p))] := by
    unfold pce pcD
    split <;> rfl
  rw [List.map_append, List.map_singleton, e6]
  generalize val ((data.drop p).take (here (data.drop p))) = w at *
  generalize hh : here (data.drop p) = h at *
  generalize many (data.drop p) = m at *
  generalize (data.drop p).take h = t at *
  by_cases q3 : (h : Int) = m
  · subst q3
    simp [e5, f3, f4, e3, e4, ha]
  · simp [e5, f3, f4, q3, ha]
theorem cut_loop (data : List Int) (hd : data.length ≤ 1000000) : ∀ (k p : Nat) (acc : List Pc) (x3 x4 : Option Bd) (n : Nat), data.length - p = k → p ≤ data.length → acc.length ≤ p → k < n → frV (some x3) = true → frV (some x4) = true →
    ∃ y3 y4, whl w_cut_1 s_cut_1 n [some (.sh, IL data), some (.ow, .lst (acc.map pcD)), some (.sh, .int p), x3, x4] = .nx [some (.sh, IL data), some (.ow, .lst ((acc ++ pcs (data.drop p)).map pcD)), some (.sh, .int data.length), y3, y4] := by
  intro k
  induction k using Nat.strongRecOn with
  | ind k ih =>
    intro p acc x3 x4 n hk hp ha hn f3 f4
    obtain ⟨n, rfl⟩ : ∃ m, n = m + 1 := ⟨n - 1, by omega⟩
    rw [whl_c]
    by_cases q : p < data.length
    · have hne : data.drop p ≠ [] := by intro z; have := congrArg List.length z; simp at this; omega
      have h1 := here_pos hne
      have h2 := here_le (data.drop p)
      rw [List.length_drop] at h2
      have st := cut_step data p acc x3 x4 q (by omega) f3 f4
      obtain ⟨y3, y4, e⟩ := ih (data.length - (p + here (data.drop p))) (by omega) (p + here (data.drop p)) (acc ++ [pce (data.drop p)]) (some (.sh, .int (here (data.drop p)))) (some (.sh, .int (many (data.drop p)))) n rfl (by omega) (by simp; omega) (by omega) rfl rfl
      refine ⟨y3, y4, ?_⟩
      have ew : w_cut_1 [some (.sh, IL data), some (.ow, .lst (acc.map pcD)), some (.sh, .int p), x3, x4] = .ok (true, [some (.sh, IL data), some (.ow, .lst (acc.map pcD)), some (.sh, .int p), x3, x4]) := by
        have q1 : (p : Int) < (data.length : Int) := by omega
        simp [q1]
      rw [ew, rt_ok, kWh_e, if_pos rfl, st, lp_nx, e, pcs_cons hne, List.append_assoc, List.drop_drop]
      rfl
    · have e : p = data.length := by omega
      subst e
      refine ⟨x3, x4, ?_⟩
      simp [pcs_nil]
theorem F_cut_eq (data : List Int) (hd : data.length ≤ 1000000) : F_cut [(.sh, IL data)] = .ok (.o (.lst ((pcs data).map pcD))) [none] := by
  obtain ⟨y3, y4, e⟩ := cut_loop data hd data.length 0 [] none none fuel rfl (by omega) (by simp) (by unfold fuel; omega) rfl rfl
  simp only [List.map_nil, List.nil_append, List.drop_zero, Int.natCast_zero] at e
  simp [F_cut, e]
end K16

namespace K16
open PySem PySem.Spec L2 DS
theorem pcs_len : ∀ (n : Nat) (r : List Int), r.length = n → (pcs r).length ≤ n := by
  intro n
  induction n using Nat.strongRecOn with
  | ind n ih =>
    intro r hr
    by_cases h : r = []
    · subst h; simp [pcs_nil]
    · rw [pcs_cons h]
      have h1 := here_pos h
      have h2 := here_le r
      have := ih (r.length - here r) (by omega) (r.drop (here r)) (by simp)
      simp; omega
def rowD (p : Pc) : D := .tup [IL p.1.toList, .int p.2]
theorem Pl_opt {n : Nat} (o : Option Int) : Pl n (optD o) := by cases o; exact .non; exact .int
theorem none_in (ps : List Pc) : gInL false .non (.lst (ps.map fun p => optD p.1)) = some (.s (.bl (ps.any fun p => p.1.isNone))) := by
  have h1 : D.non.shp = true := (Pl.non (n := 0)).shp
  have h2 : (D.lst (ps.map fun p => optD p.1)).shp = true := Pl.shp (n := 1) (Pl.lst fun d hd => by
    obtain ⟨p, _, rfl⟩ := List.mem_map.mp hd
    exact Pl_opt _)
  show (if (D.non.shp && (D.lst (ps.map fun p => optD p.1)).shp) = true then _ else _) = _
  rw [h1, h2]
  simp only [Bool.and_self, if_true]
  rw [if_neg (by decide)]
  congr 3
  rw [List.any_map]
  congr 1
  funext p
  show PyData.eqv (optD p.1).pd D.non.pd = _
  cases p.1 <;> simp [optD, D.pd, PyData.eqv]
section
variable (data : List Int) (hb : Byt data) (hd : data.length ≤ 1000000)
include hb hd
theorem lc_ok {ps : List Pc} (h : ps = pcs data) : 0 + ps.length ≤ 16777216 := by have := pcs_len _ data rfl; subst h; omega
theorem F_read_bytes_eq : F_read_bytes [(.sh, IL data)] = if (pcs data).any (fun p => p.1.isNone) then .ex 1 (.str "piece") else .ok (.o (.lst ((pcs data).map fun p => optD p.1))) [none] := by
  have h2 : (Str.ofString "piece").length ≤ 1000 := by decide
  have hl := lc_map (g := gTupD 2 (gConsD (gSlot 2) (gConsD (gSlot 3) gNilD))) (t := xYes) (f := e_read_bytes_1) (vs := [2, 3]) (E := [some (.sh, IL data), none, none, none]) (φ := pcD) (ψ := fun p => optD p.1) (xs := pcs data) (acc := []) (fun x hx rest acc ha => by
    rw [lcL_c]
    simp [pcD, ha]) (lc_ok data hb hd rfl)
  rw [List.nil_append] at hl
  simp [F_read_bytes, F_check_bytes_eq data hb, F_cut_eq data hd, hl, none_in]
  cases (pcs data).any (fun p => p.1.isNone) <;> simp [h2]
theorem F_read_with_eq (s : Int) (hs : isNum s 0 1114112 = true) : F_read_with [(.sh, IL data), (.sh, .int s)] = .ok (.o (IL ((pcs data).map fun p => p.1.getD s))) [none, none] := by
  have hl := lc_map (g := gTupD 2 (gConsD (gSlot 2) (gConsD (gSlot 3) gNilD))) (t := xYes) (f := e_read_with_1) (vs := [2, 3]) (E := [some (.sh, IL data), some (.sh, .int s), none, none]) (φ := pcD) (ψ := fun p => .int (p.1.getD s)) (xs := pcs data) (acc := []) (fun x hx rest acc ha => by
    rw [lcL_c]
    obtain ⟨o, h⟩ := x
    cases o <;> simp [pcD, ha, optD]) (lc_ok data hb hd rfl)
  rw [List.nil_append] at hl
  have hc : F_check_signs [(.sh, .lst [.int s])] = .ok (.s .non) [none] := F_check_signs_eq [s] (fun x hx => by simp at hx; subst hx; exact hs)
  simp [F_read_with, F_check_bytes_eq data hb, F_cut_eq data hd, hl, hc]
theorem F_pieces_of_eq : F_pieces_of [(.sh, IL data)] = .ok (.o (.lst ((pcs data).map rowD))) [none] := by
  have hl := lc_map (g := gTupD 2 (gConsD (gSlot 1) (gConsD (gSlot 2) gNilD))) (t := xYes) (f := e_pieces_of_1) (vs := [1, 2]) (E := [some (.sh, IL data), none, none]) (φ := pcD) (ψ := rowD) (xs := pcs data) (acc := []) (fun x hx rest acc ha => by
    rw [lcL_c]
    obtain ⟨o, h⟩ := x
    cases o <;> simp [pcD, rowD, ha, optD, IL]) (lc_ok data hb hd rfl)
  rw [List.nil_append] at hl
  simp [F_pieces_of, F_check_bytes_eq data hb, F_cut_eq data hd, hl]
end
/-- where the first piece stands that is no sign -/
def fw : List Pc → Nat → D
  | [], _ => .non
  | (none, _) :: _, p => .int p
  | (some _, h) :: r, p => fw r (p + h)
theorem fw_loop (T : D) : ∀ (ps : List Pc) (p : Nat) (x2 x3 : Option Bd), frV (some x2) = true → frV (some x3) = true →
    (∃ E, (forL (gTupD 2 (gConsD (gSlot 2) (gConsD (gSlot 3) gNilD))) s_first_wrong_1 (ps.map pcD) [some (.sh, T), some (.sh, .int p), x2, x3]).seq (sRet (xD .non)) = .rt (.s (fw ps p)) E)
  | [], p, x2, x3, _, _ => ⟨_, by simp [fw]; rfl⟩
  | (none, h) :: ps, p, x2, x3, f2, f3 => ⟨_, by rw [List.map_cons, forL_c]; simp [pcD, optD, f2, f3, fw]; rfl⟩
  | (some v, h) :: ps, p, x2, x3, f2, f3 => by
    obtain ⟨E, e⟩ := fw_loop T ps (p + h) (some (.sh, .int v)) (some (.sh, .int h)) rfl rfl
    refine ⟨E, ?_⟩
    rw [List.map_cons, forL_c]
    simp [pcD, optD, f2, f3, fw]
    simpa using e
theorem F_first_wrong_eq (data : List Int) (hb : Byt data) (hd : data.length ≤ 1000000) : F_first_wrong [(.sh, IL data)] = .ok (.s (fw (pcs data) 0)) [none] := by
  obtain ⟨E, e⟩ := fw_loop (IL data) (pcs data) 0 none none rfl rfl
  simp at e
  simp [F_first_wrong, F_check_bytes_eq data hb, F_cut_eq data hd, e]
/-- where the piece begins that this place lies in -/
def ba (at_ : Nat) : List Pc → Nat → Nat
  | [], h => h
  | (_, m) :: r, h => if at_ < h + m then h else ba at_ r (h + m)
theorem ba_loop (T : D) (a : Nat) : ∀ (ps : List Pc) (p : Nat) (x2 x3 : Option Bd), frV (some x2) = true → frV (some x3) = true →
    (∃ E, (forL (gTupD 2 (gConsD (gSlot 3) (gConsD (gSlot 4) gNilD))) s_begin_at_1 (ps.map pcD) [some (.sh, T), some (.sh, .int a), some (.sh, .int p), x2, x3]).seq (sRet (xVar 2)) = .rt (.s (.int (ba a ps p))) E)
  | [], p, x2, x3, _, _ => ⟨_, by simp [ba]; rfl⟩
  | (o, m) :: ps, p, x2, x3, f2, f3 => by
    rw [List.map_cons, forL_c]
    by_cases q : a < p + m
    · have q' : (a : Int) < (p : Int) + (m : Int) := by omega
      exact ⟨_, by simp [pcD, f2, f3, ba, q, q']; rfl⟩
    · have q' : ¬ (a : Int) < (p : Int) + (m : Int) := by omega
      obtain ⟨E, e⟩ := ba_loop T a ps (p + m) (some (.sh, optD o)) (some (.sh, .int m)) rfl rfl
      refine ⟨E, ?_⟩
      simp [pcD, f2, f3, ba, q, q']
      simpa using e
theorem F_begin_at_eq (data : List Int) (hb : Byt data) (hd : data.length ≤ 1000000) (a : Nat) (ha : a < data.length) : F_begin_at [(.sh, IL data), (.sh, .int a)] = .ok (.s (.int (ba a (pcs data) 0))) [none, none] := by
  obtain ⟨E, e⟩ := ba_loop (IL data) a (pcs data) 0 none none rfl rfl
  simp at e
  have h1 : (a : Int) < (data.length : Int) := by omega
  simp [F_begin_at, F_check_bytes_eq data hb, F_cut_eq data hd, e, h1]
theorem F__law_read_eq (data : List Int) (hb : Byt data) (hd : data.length ≤ 1000000) : F__law_read [(.sh, IL data)] = if (pcs data).any (fun p => p.1.isNone) then .ok (.s (.str "piece")) [none] else .ok (.o (.lst ((pcs data).map fun p => optD p.1))) [none] := by
  cases h : (pcs data).any (fun p => p.1.isNone) <;> simp [F__law_read, F_read_bytes_eq data hb hd, h, xfC]
theorem F__law_read_256 : F__law_read [(.sh, .lst [.int 256])] = .ok (.s (.str "byte")) [none] := by
  have h : F_check_bytes [(.sh, .lst [.int 256])] = .ex 1 (.str "byte") := F_check_bytes_256
  simp [F__law_read, F_read_bytes, h, xfC]
end K16

namespace K16
open PySem PySem.Spec L2 DS
theorem deck_in1 (a0 a1 a2 a4 a5 a6 : Option Bd) : ∀ (js acc : List Int) (rest : Int) (x : Option Bd), frV (some x) = true → acc.length + js.length ≤ 1000 →
    ∃ acc' rest' y, forL (gSlot 8) s__law_deck_1 (js.map .int) [a0, a1, a2, some (.ow, IL acc), a4, a5, a6, some (.sh, .int rest), x] = .nx [a0, a1, a2, some (.ow, IL acc'), a4, a5, a6, some (.sh, .int rest'), y] ∧ acc'.length = acc.length + js.length ∧ frV (some y) = true
  | [], acc, rest, x, hx, _ => ⟨acc, rest, x, by simp, by simp, hx⟩
  | j :: js, acc, rest, x, hx, hl => by
    simp only [List.length_cons] at hl
    obtain ⟨acc', rest', y, e, el, fy⟩ := deck_in1 a0 a1 a2 a4 a5 a6 js (acc ++ [rest % 1000003]) (rest / 1000003) (some (.sh, .int j)) rfl (by simp; omega)
    refine ⟨acc', rest', y, ?_, by rw [el]; simp; omega, fy⟩
    rw [List.map_cons, forL_c]
    have h : acc.length < 16777216 := by omega
    simp [hx, h]
    simpa [IL] using e
theorem deck_in2 (a0 a1 a2 a5 a6 a7 : Option Bd) : ∀ (js acc : List Int) (seed : Int) (x : Option Bd), frV (some x) = true → acc.length + js.length ≤ 1000 →
    ∃ acc' seed' y, forL (gSlot 8) s__law_deck_2 (js.map .int) [a0, a1, a2, some (.ow, IL acc), some (.sh, .int seed), a5, a6, a7, x] = .nx [a0, a1, a2, some (.ow, IL acc'), some (.sh, .int seed'), a5, a6, a7, y] ∧ acc'.length = acc.length + js.length ∧ frV (some y) = true
  | [], acc, seed, x, hx, _ => ⟨acc, seed, x, by simp, by simp, hx⟩
  | j :: js, acc, seed, x, hx, hl => by
    simp only [List.length_cons] at hl
    obtain ⟨acc', seed', y, e, el, fy⟩ := deck_in2 a0 a1 a2 a5 a6 a7 js (acc ++ [(seed * 69621 + j + 1) % 2147483629 / 5 % 1000003]) ((seed * 69621 + j + 1) % 2147483629) (some (.sh, .int j)) rfl (by simp; omega)
    refine ⟨acc', seed', y, ?_, by rw [el]; simp; omega, fy⟩
    rw [List.map_cons, forL_c]
    have h : acc.length < 16777216 := by omega
    simp [hx, h]
    simpa [IL] using e
theorem r8 : rngD 0 8 = ([0, 1, 2, 3, 4, 5, 6, 7] : List Int).map D.int := by rfl
theorem deck_turn (ns acc : List Int) (k : Nat) (seed : Int) (cells : D) (x6 x7 x8 : Option Bd) (f6 : frV (some x6) = true) (f7 : frV (some x7) = true) (f8 : frV (some x8) = true) (hl : acc.length + 8 ≤ 1000) :
    ∃ acc' seed' y6 y7 y8, s__law_deck_3 [some (.sh, .scr ns), some (.sh, cells), some (.sh, .int 8), some (.ow, IL acc), some (.sh, .int seed), some (.sh, .int k), x6, x7, x8] = .nx [some (.sh, .scr ns), some (.sh, cells), some (.sh, .int 8), some (.ow, IL acc'), some (.sh, .int seed'), some (.sh, .int k), y6, y7, y8] ∧ acc'.length = acc.length + 8 ∧ frV (some y6) = true ∧ frV (some y7) = true ∧ frV (some y8) = true := by
  obtain ⟨cell, hc⟩ : ∃ c : Int, c = if h : k < ns.length then ns[k] else 0 := ⟨_, rfl⟩
  generalize hr : (if cell < 0 then -cell else cell) = rest
  obtain ⟨a1, rest', y, e1, el1, fy1⟩ := deck_in1 (some (.sh, .scr ns)) (some (.sh, cells)) (some (.sh, .int 8)) (some (.sh, .int seed)) (some (.sh, .int k)) (some (.sh, .int cell)) [0, 1, 2, 3, 4, 5, 6, 7] acc rest x8 f8 (by simpa using hl)
  obtain ⟨a2, seed', y', e2, el2, fy2⟩ := deck_in2 (some (.sh, .scr ns)) (some (.sh, cells)) (some (.sh, .int 8)) (some (.sh, .int k)) (some (.sh, .int cell)) (some (.sh, .int rest)) [0, 1, 2, 3, 4, 5, 6, 7] acc (((seed * 48271 + 2 * rest + if cell < 0 then 1 else 0) + k) % 2147483647) x8 f8 (by simpa using hl)
  simp at e1 e2 el1 el2
  by_cases q : (1000000000000000000000000000000 : Int) ≤ rest
  · refine ⟨a1, seed, some (.sh, .int cell), some (.sh, .int rest'), y, ?_, el1, rfl, rfl, fy1⟩
    by_cases hk : k < ns.length
    · have h1 : (k : Int) < (ns.length : Int) := by omega
      rw [dif_pos hk] at hc
      subst hc
      simp [f6, f7, h1, hk, hr, q, r8, e1]
    · have h1 : ¬ (k : Int) < (ns.length : Int) := by omega
      rw [dif_neg hk] at hc
      subst hc
      simp at hr
      subst hr
      simp at q
  · refine ⟨a2, seed', some (.sh, .int cell), some (.sh, .int rest), y', ?_, el2, rfl, rfl, fy2⟩
    by_cases hk : k < ns.length
    · have h1 : (k : Int) < (ns.length : Int) := by omega
      rw [dif_pos hk] at hc
      subst hc
      simp [f6, f7, h1, hk, hr, q, r8, e2]
    · have h1 : ¬ (k : Int) < (ns.length : Int) := by omega
      rw [dif_neg hk] at hc
      subst hc
      simp at hr
      subst hr
      simp at e2
      simp [f6, f7, h1, hk, r8, e2]
theorem deck_loop (ns : List Int) (cells : D) : ∀ (ks : List Nat) (acc : List Int) (seed : Int) (x5 x6 x7 x8 : Option Bd), frV (some x5) = true → frV (some x6) = true → frV (some x7) = true → frV (some x8) = true → acc.length + 8 * ks.length ≤ 1000 →
    ∃ acc' z4 z5 z6 z7 z8, forL (gSlot 5) s__law_deck_3 (ks.map fun (k : Nat) => D.int (k : Int)) [some (.sh, .scr ns), some (.sh, cells), some (.sh, .int 8), some (.ow, IL acc), some (.sh, .int seed), x5, x6, x7, x8] = .nx [some (.sh, .scr ns), some (.sh, cells), some (.sh, .int 8), some (.ow, IL acc'), z4, z5, z6, z7, z8]
  | [], acc, seed, x5, x6, x7, x8, _, _, _, _, _ => ⟨acc, some (.sh, .int seed), x5, x6, x7, x8, by simp⟩
  | k :: ks, acc, seed, x5, x6, x7, x8, f5, f6, f7, f8, hl => by
    simp only [List.length_cons] at hl
    obtain ⟨a1, s1, y6, y7, y8, e, el, g6, g7, g8⟩ := deck_turn ns acc k seed cells x6 x7 x8 f6 f7 f8 (by omega)
    obtain ⟨a2, z4, z5, z6, z7, z8, e2⟩ := deck_loop ns cells ks a1 s1 (some (.sh, .int k)) y6 y7 y8 rfl g6 g7 g8 (by omega)
    refine ⟨a2, z4, z5, z6, z7, z8, ?_⟩
    rw [List.map_cons, forL_c]
    simp only [gSlot_e, free_e, List.getElem?_cons_succ, List.getElem?_cons_zero, f5, putV_t, List.set_cons_succ, List.set_cons_zero, fgV_e, e, lp_nx]
    exact e2
theorem F__law_deck_eq (ns : List Int) : ∃ deck : List Int, F__law_deck [(.sh, .scr ns), (.sh, .int 60), (.sh, .int 8)] = .ok (.o (IL deck)) [none, none, none] := by
  obtain ⟨a, z4, z5, z6, z7, z8, e⟩ := deck_loop ns (.int 60) (List.range 60) [] (7 + ns.length) none none none none rfl rfl rfl rfl (by simp)
  refine ⟨a.reverse, ?_⟩
  simp only [IL, List.map_nil] at e
  simp [F__law_deck, rngD_0, e]
/-- what is taken off the deck -/
def tk (dk : List Int) (m : Int) : Int := match dk.getLast? with
  | some x => x % m
  | none => 0
theorem F__law_take_eq (dk : List Int) (m : Int) (hm : 0 < m) : F__law_take [(.io, IL dk), (.sh, .int m)] = .ok (.s (.int (tk dk m))) [some (.io, IL dk.dropLast), none] := by
  by_cases h : dk = []
  · subst h
    simp [F__law_take, tk]
  · obtain ⟨l, a, rfl⟩ : ∃ l a, dk = l ++ [a] := ⟨dk.dropLast, dk.getLast h, (List.dropLast_concat_getLast h).symm⟩
    have h2 : ¬ ((l.length : Int) + 1 = 0) := by omega
    simp [F__law_take, tk, h2, hm]
theorem tk_lt (dk : List Int) {m : Int} (hm : 0 < m) : 0 ≤ tk dk m ∧ tk dk m < m := by
  unfold tk
  split
  · exact ⟨Int.emod_nonneg _ (by omega), Int.emod_lt_of_pos _ hm⟩
  · omega
def edges : List Int := [0, 1, 127, 128, 2047, 2048, 4095, 4096, 65535, 65536, 262143, 262144, 1114111]
def sizes : List Int := [128, 2048, 65536, 1114112]
theorem at_ints (L : List Int) {n : Nat} (h : n < L.length) : (L.map D.int)[n]? = some (.int L[n]) := by rw [List.getElem?_map, List.getElem?_eq_getElem h]; rfl
theorem F__law_any_sign_eq (dk : List Int) : ∃ s dk', F__law_any_sign [(.io, IL dk)] = .ok (.s (.int s)) [some (.io, IL dk')] ∧ isNum s 0 1114112 = true := by
  have t2 := tk_lt dk (m := 2) (by decide)
  have ft := fun (dk : List Int) (m : Int) (hm : 0 < m) => F__law_take_eq dk m hm
  by_cases q : tk dk 2 = 0
  · have t13 := tk_lt dk.dropLast (m := 13) (by decide)
    obtain ⟨n, hn⟩ : ∃ n : Nat, tk dk.dropLast 13 = n := ⟨(tk dk.dropLast 13).toNat, by omega⟩
    have hn13 : n < edges.length := by show n < 13; omega
    have e := at_ints edges hn13
    refine ⟨edges[n], dk.dropLast.dropLast, ?_, (by decide : ∀ x ∈ edges, isNum x 0 1114112 = true) _ (List.getElem_mem _)⟩
    generalize edges[n] = x at *
    simp only [edges, List.map_cons, List.map_nil] at e
    simp [F__law_any_sign, ft, q, hn, e]
  · have t4 := tk_lt dk.dropLast (m := 4) (by decide)
    obtain ⟨n, hn⟩ : ∃ n : Nat, tk dk.dropLast 4 = n := ⟨(tk dk.dropLast 4).toNat, by omega⟩
    have hn4 : n < sizes.length := by show n < 4; omega
    have e := at_ints sizes hn4
    have hp := (by decide : ∀ x ∈ sizes, 0 < x ∧ x ≤ 1114112) _ (List.getElem_mem hn4)
    generalize sizes[n] = x at *
    have t := tk_lt dk.dropLast.dropLast (m := x) hp.1
    refine ⟨tk dk.dropLast.dropLast x, dk.dropLast.dropLast.dropLast, ?_, ?_⟩
    · simp only [sizes, List.map_cons, List.map_nil] at e
      simp [F__law_any_sign, ft, q, hn, e, hp.1]
    · simp [isNum, t.1]; omega
end K16

namespace K16
open PySem PySem.Spec L2 DS
def fst' : List Int → Int → Int → Int → Option (Int × Int)
  | [], l, h, _ => some (l, h)
  | b :: r, l, h, sz => if ¬ (128 ≤ b ∧ b < 192) ∨ sz = 1 then none else
    if (if (if l / sz * sz + (b - 128) * (sz / 64) + sz / 64 - 1 < h then l / sz * sz + (b - 128) * (sz / 64) + sz / 64 - 1 else h) < (if l / sz * sz + (b - 128) * (sz / 64) > l then l / sz * sz + (b - 128) * (sz / 64) else l) then True else False) then none else
    fst' r (if l / sz * sz + (b - 128) * (sz / 64) > l then l / sz * sz + (b - 128) * (sz / 64) else l) (if l / sz * sz + (b - 128) * (sz / 64) + sz / 64 - 1 < h then l / sz * sz + (b - 128) * (sz / 64) + sz / 64 - 1 else h) (sz / 64)
def resE : Option (Int × Int) → Ev
  | none => .s .non
  | some (l, h) => .o (IL [l, h])
def SzOk (sz : Int) : Prop := sz = 1 ∨ sz = 64 ∨ sz = 4096 ∨ sz = 262144
theorem st_loop (T a : D) : ∀ (r : List Int) (l h sz : Int) (x5 x6 : Option Bd), SzOk sz → frV (some x5) = true → frV (some x6) = true →
    ∃ E, (forL (gSlot 5) s__law_starts_1 (r.map .int) [some (.sh, T), some (.sh, a), some (.sh, .int l), some (.sh, .int h), some (.sh, .int sz), x5, x6]).seq (sRet (xLst (xsC (xVar 2) (xsC (xVar 3) xs0)))) = .rt (resE (fst' r l h sz)) E
  | [], l, h, sz, x5, x6, _, _, _ => ⟨[some (.sh, T), some (.sh, a), some (.sh, .int l), some (.sh, .int h), some (.sh, .int sz), x5, x6], by simp [fst', resE]⟩
  | b :: r, l, h, sz, x5, x6, hs, f5, f6 => by
    rw [List.map_cons, forL_c]
    by_cases q1 : 128 ≤ b
    · by_cases q2 : b < 192
      · by_cases q3 : sz = 1
        · exact ⟨[some (.sh, T), some (.sh, a), some (.sh, .int l), some (.sh, .int h), some (.sh, .int sz), some (.sh, .int b), x6], by simp [f5, q1, q2, q3, fst', resE]⟩
        · have c1 : 0 < sz ∧ sz < 1073741824 := by unfold SzOk at hs; omega
          have c2 : -(2 ^ 64) < sz ∧ sz < 2 ^ 64 := by omega
          have c3 : -(2 ^ 64) < sz / 64 ∧ sz / 64 < 2 ^ 64 := by omega
          have hs' : SzOk (sz / 64) := by unfold SzOk at hs ⊢; omega
          simp at c2 c3
          generalize hl : (if l / sz * sz + (b - 128) * (sz / 64) > l then l / sz * sz + (b - 128) * (sz / 64) else l) = l'
          generalize hh : (if l / sz * sz + (b - 128) * (sz / 64) + sz / 64 - 1 < h then l / sz * sz + (b - 128) * (sz / 64) + sz / 64 - 1 else h) = h'
          by_cases q4 : h' < l'
          · refine ⟨[some (.sh, T), some (.sh, a), some (.sh, .int l'), some (.sh, .int h'), some (.sh, .int (sz / 64)), some (.sh, .int b), some (.sh, .int (l / sz * sz + (b - 128) * (sz / 64)))], ?_⟩
            have e : fst' (b :: r) l h sz = none := by simp only [fst', hl, hh]; simp [q1, q2, q3, q4]
            rw [e]
            simp at hl hh
            simp [f5, f6, q1, q2, q3, c1, c2, c3, hl, hh, q4, resE]
          · obtain ⟨E, e⟩ := st_loop T a r l' h' (sz / 64) (some (.sh, .int b)) (some (.sh, .int (l / sz * sz + (b - 128) * (sz / 64)))) hs' rfl rfl
            refine ⟨E, ?_⟩
            have e2 : fst' (b :: r) l h sz = fst' r l' h' (sz / 64) := by simp only [fst', hl, hh]; simp [q1, q2, q3, q4]
            rw [e2, ← e]
            simp at hl hh
            simp [f5, f6, q1, q2, q3, c1, c2, c3, hl, hh, q4]
      · exact ⟨[some (.sh, T), some (.sh, a), some (.sh, .int l), some (.sh, .int h), some (.sh, .int sz), some (.sh, .int b), x6], by simp [f5, q1, q2, fst', resE]⟩
    · exact ⟨[some (.sh, T), some (.sh, a), some (.sh, .int l), some (.sh, .int h), some (.sh, .int sz), some (.sh, .int b), x6], by simp [f5, q1, fst', resE]⟩
def mx (i j : Int) : Int := if j > i then j else i
def mn (i j : Int) : Int := if j < i then j else i
def starts : List Int → Option (Int × Int)
  | [] => none
  | a :: r => if a < 128 then (if r = [] then some (a, a) else none) else
    if 194 ≤ a ∧ a < 224 then fst' r ((a - 192) * 64) ((a - 192) * 64 + 63) 64 else
    if 224 ≤ a ∧ a < 240 then fst' r (mx 2048 ((a - 224) * 4096)) ((a - 224) * 4096 + 4095) 4096 else
    if 240 ≤ a ∧ a < 245 then fst' r (mx 65536 ((a - 240) * 262144)) (mn 1114111 ((a - 240) * 262144 + 262143)) 262144 else none
theorem fr_res (bs : List Bd) (o : Option (Int × Int)) (E : En) : Out.fr bs (.rt (resE o) E) = .ok (resE o) (keepIo bs E) := by cases o <;> rfl
theorem F__law_starts_eq (a : Int) (r : List Int) : F__law_starts [(.sh, IL (a :: r))] = .ok (resE (starts (a :: r))) [none] := by
  have lp := fun (l h sz : Int) (hs : SzOk sz) => st_loop (IL (a :: r)) (.int a) r l h sz none none hs rfl rfl
  by_cases q0 : a < 128
  · cases r with
    | nil => simp [F__law_starts, q0, starts, resE]
    | cons b r =>
      have h1 : ¬ ((r.length : Int) + 1 + 1 = 1) := by omega
      simp [F__law_starts, q0, starts, resE, h1]
  have e : starts (a :: r) = if 194 ≤ a ∧ a < 224 then fst' r ((a - 192) * 64) ((a - 192) * 64 + 63) 64 else
    if 224 ≤ a ∧ a < 240 then fst' r (mx 2048 ((a - 224) * 4096)) ((a - 224) * 4096 + 4095) 4096 else
    if 240 ≤ a ∧ a < 245 then fst' r (mx 65536 ((a - 240) * 262144)) (mn 1114111 ((a - 240) * 262144 + 262143)) 262144 else none := by rw [starts, if_neg q0]
  rw [e]
  by_cases q1 : 194 ≤ a
  · by_cases q2 : a < 224
    · obtain ⟨E, e⟩ := lp ((a - 192) * 64) ((a - 192) * 64 + 63) 64 (.inr (.inl rfl))
      simp [F__law_starts, q0, q1, q2, cutD_from1, e, fr_res]
    · have q3 : 224 ≤ a := by omega
      by_cases q4 : a < 240
      · obtain ⟨E, e⟩ := lp (mx 2048 ((a - 224) * 4096)) ((a - 224) * 4096 + 4095) 4096 (.inr (.inr (.inl rfl)))
        unfold mx at e ⊢
        simp at e
        simp [F__law_starts, q0, q1, q2, q3, q4, cutD_from1, e, fr_res]
      · have q5 : 240 ≤ a := by omega
        by_cases q6 : a < 245
        · obtain ⟨E, e⟩ := lp (mx 65536 ((a - 240) * 262144)) (mn 1114111 ((a - 240) * 262144 + 262143)) 262144 (.inr (.inr (.inr rfl)))
          unfold mx mn at e ⊢
          simp at e
          simp [F__law_starts, q0, q1, q2, q3, q4, q5, q6, cutD_from1, e, fr_res]
        · simp [F__law_starts, q0, q1, q2, q3, q4, q5, q6, resE]
  · have q3 : ¬ 224 ≤ a := by omega
    have q5 : ¬ 240 ≤ a := by omega
    simp [F__law_starts, q0, q1, q3, q5, resE]
end K16

namespace K16
open PySem PySem.Spec L2 DS
def stU (t : List Int) (k : Nat) (p : Nat × Option Int) : Option (Int × Int) → Nat × Option Int
  | none => p
  | some (l, _) => (k, if bytes [l] = t then some l else p.2)
def up1 (r : List Int) (p : Nat × Option Int) (k : Nat) : Nat × Option Int := if k ≤ r.length then stU (r.take k) k p (starts (r.take k)) else p
theorem piece_step (data : List Int) (F : Option Bd) (p k sz : Nat) (g : Option Int) (x6 : Option Bd) (hk : 1 ≤ k) (f6 : frV (some x6) = true) :
    ∃ y6, s__law_pieces_1 [some (.sh, IL data), F, some (.sh, .int p), some (.sh, .int k), some (.sh, .int sz), some (.sh, optD g), x6] = .nx [some (.sh, IL data), F, some (.sh, .int p), some (.sh, .int k), some (.sh, .int (up1 (data.drop p) (sz, g) k).1), some (.sh, optD (up1 (data.drop p) (sz, g) k).2), y6] ∧ frV (some y6) = true := by
  unfold up1
  by_cases q : k ≤ (data.drop p).length
  · rw [if_pos q]
    have q1 : p + k ≤ data.length := by rw [List.length_drop] at q; omega
    have q2 : (p : Int) + (k : Int) ≤ (data.length : Int) := by omega
    have e3 : cutD (data.map D.int) (some (p : Int)) (some ((p : Int) + (k : Int))) = ((data.drop p).take k).map D.int := by
      rw [← Int.natCast_add, cutD_mid, take_map_int, Nat.add_sub_cancel_left]
    have hne : (data.drop p).take k ≠ [] := by intro z; have := congrArg List.length z; simp at this; omega
    generalize (data.drop p).take k = t at *
    obtain ⟨a, r, rfl⟩ := List.exists_cons_of_ne_nil hne
    have es := F__law_starts_eq a r
    generalize starts (a :: r) = o at *
    generalize a :: r = t at *
    cases o with
    | none => exact ⟨some (.sh, .non), by simp [q2, e3, es, resE, stU, f6], rfl⟩
    | some lh =>
      obtain ⟨l, h⟩ := lh
      refine ⟨some (.ow, IL [l, h]), ?_, rfl⟩
      have eb : F__law_bytes [(.sh, .lst [.int l])] = .ok (.o (IL (bytes [l]))) [none] := F__law_bytes_eq [l] (by simp)
      simp only [resE] at es
      by_cases q4 : bytes [l] = t
      · simp [q2, e3, es, stU, f6, eb, gEq_il, q4, optD]
      · simp [q2, e3, es, stU, f6, eb, gEq_il, q4, optD]
  · rw [if_neg q]
    have q2 : ¬ (p : Int) + (k : Int) ≤ (data.length : Int) := by rw [List.length_drop] at q; omega
    exact ⟨x6, by simp [q2], f6⟩
theorem piece_inner (data : List Int) (F : Option Bd) (p : Nat) : ∀ (ks : List Nat) (sz : Nat) (g : Option Int) (x3 x6 : Option Bd), (∀ k ∈ ks, 1 ≤ k) → frV (some x3) = true → frV (some x6) = true →
    ∃ y3 y6, forL (gSlot 3) s__law_pieces_1 (ks.map fun (k : Nat) => D.int (k : Int)) [some (.sh, IL data), F, some (.sh, .int p), x3, some (.sh, .int sz), some (.sh, optD g), x6] = .nx [some (.sh, IL data), F, some (.sh, .int p), y3, some (.sh, .int (ks.foldl (up1 (data.drop p)) (sz, g)).1), some (.sh, optD (ks.foldl (up1 (data.drop p)) (sz, g)).2), y6] ∧ frV (some y3) = true ∧ frV (some y6) = true
  | [], sz, g, x3, x6, _, f3, f6 => ⟨x3, x6, by simp, f3, f6⟩
  | k :: ks, sz, g, x3, x6, hk, f3, f6 => by
    obtain ⟨z6, e, fz⟩ := piece_step data F p k sz g x6 (hk k (by simp)) f6
    obtain ⟨y3, y6, e2, g3, g6⟩ := piece_inner data F p ks (up1 (data.drop p) (sz, g) k).1 (up1 (data.drop p) (sz, g) k).2 (some (.sh, .int k)) z6 (fun j hj => hk j (by simp [hj])) rfl fz
    refine ⟨y3, y6, ?_, g3, g6⟩
    rw [List.map_cons, forL_c]
    simp only [gSlot_e, free_e, List.getElem?_cons_succ, List.getElem?_cons_zero, f3, putV_t, List.set_cons_succ, List.set_cons_zero, fgV_e, e, lp_nx]
    exact e2
/-- the piece that the law finds -/
def lpc (r : List Int) : Pc := let q := [1, 2, 3, 4].foldl (up1 r) (1, none); (q.2, q.1)
theorem r14 : rngD 1 4 = ([1, 2, 3, 4] : List Nat).map fun (k : Nat) => D.int (k : Int) := by rfl
theorem piece_turn (data : List Int) (p : Nat) (acc : List Pc) (x3 x4 x5 x6 : Option Bd) (ha : acc.length < 16777216) (f3 : frV (some x3) = true) (f4 : frV (some x4) = true) (f5 : frV (some x5) = true) (f6 : frV (some x6) = true) :
    ∃ y3 y4 y5 y6, s__law_pieces_2 [some (.sh, IL data), some (.ow, .lst (acc.map rowD)), some (.sh, .int p), x3, x4, x5, x6] = .nx [some (.sh, IL data), some (.ow, .lst ((acc ++ [lpc (data.drop p)]).map rowD)), some (.sh, .int ((p + (lpc (data.drop p)).2 : Nat) : Int)), y3, y4, y5, y6] ∧ frV (some y3) = true ∧ frV (some y4) = true ∧ frV (some y5) = true ∧ frV (some y6) = true := by
  obtain ⟨y3, y6, e, g3, g6⟩ := piece_inner data (some (.ow, .lst (acc.map rowD))) p [1, 2, 3, 4] 1 none x3 x6 (by decide) f3 f6
  have el : lpc (data.drop p) = (([1, 2, 3, 4].foldl (up1 (data.drop p)) (1, none)).2, ([1, 2, 3, 4].foldl (up1 (data.drop p)) (1, none)).1) := rfl
  rw [el]
  generalize [1, 2, 3, 4].foldl (up1 (data.drop p)) (1, none) = q at *
  obtain ⟨sz, g⟩ := q
  refine ⟨y3, some (.sh, .int sz), some (.sh, optD g), y6, ?_, g3, rfl, rfl, g6⟩
  simp [optD] at e
  cases g with
  | none => simp [f3, f4, f5, f6, r14, e, ha, rowD, optD, IL]
  | some v => simp [f3, f4, f5, f6, r14, e, ha, rowD, optD, IL]
end K16

namespace K16
open PySem PySem.Spec L2 DS
theorem fst_c (b : Int) (r : List Int) (l h sz l' h' sz' : Int) (h1 : 128 ≤ b) (h2 : b < 192) (h3 : sz ≠ 1) (e1 : sz / 64 = sz')
    (e2 : (if l / sz * sz + (b - 128) * sz' > l then l / sz * sz + (b - 128) * sz' else l) = l') (e3 : (if l / sz * sz + (b - 128) * sz' + sz' - 1 < h then l / sz * sz + (b - 128) * sz' + sz' - 1 else h) = h') : fst' (b :: r) l h sz = if h' < l' then none else fst' r l' h' sz' := by
  subst e1
  rw [fst', e2, e3, if_neg (by simp [h1, h2, h3])]
  by_cases q : h' < l' <;> simp [q]
theorem fst_n (b : Int) (r : List Int) (l h sz : Int) (hn : ¬ (128 ≤ b ∧ b < 192)) : fst' (b :: r) l h sz = none := by
  unfold fst'
  rw [if_pos (.inl hn)]
theorem f1 (b : Int) (r : List Int) (l h : Int) : fst' (b :: r) l h 1 = none := by
  unfold fst'
  rw [if_pos (.inr rfl)]
theorem f64 (x b : Int) (r : List Int) : fst' (b :: r) (64 * x) (64 * x + 63) 64 = if 128 ≤ b ∧ b < 192 then fst' r (64 * x + b - 128) (64 * x + b - 128) 1 else none := by
  by_cases h : 128 ≤ b ∧ b < 192
  · rw [if_pos h, fst_c b r _ _ 64 (64 * x + b - 128) (64 * x + b - 128) 1 h.1 h.2 (by decide) (by decide) (by split <;> omega) (by split <;> omega), if_neg (by omega)]
  · rw [if_neg h, fst_n _ _ _ _ _ h]
theorem f4096 (x b : Int) (r : List Int) : fst' (b :: r) (4096 * x) (4096 * x + 4095) 4096 = if 128 ≤ b ∧ b < 192 then fst' r (64 * (64 * x + b - 128)) (64 * (64 * x + b - 128) + 63) 64 else none := by
  by_cases h : 128 ≤ b ∧ b < 192
  · rw [if_pos h, fst_c b r _ _ 4096 (64 * (64 * x + b - 128)) (64 * (64 * x + b - 128) + 63) 64 h.1 h.2 (by decide) (by decide) (by split <;> omega) (by split <;> omega), if_neg (by omega)]
  · rw [if_neg h, fst_n _ _ _ _ _ h]
theorem f4096a (x b : Int) (r : List Int) (hx : 0 ≤ x) : fst' (b :: r) (mx 2048 (x * 4096)) (x * 4096 + 4095) 4096 = if (if x = 0 then 160 else 128) ≤ b ∧ b < 192 then fst' r (64 * (64 * x + b - 128)) (64 * (64 * x + b - 128) + 63) 64 else none := by
  by_cases q : x = 0
  · subst q
    by_cases h : 128 ≤ b ∧ b < 192
    · by_cases h2 : 160 ≤ b
      · rw [if_pos (by simp; omega), fst_c b r _ _ 4096 (64 * (64 * 0 + b - 128)) (64 * (64 * 0 + b - 128) + 63) 64 h.1 h.2 (by decide) (by decide) (by simp only [mx, mn]; (repeat' split) <;> omega) (by simp only [mx, mn]; (repeat' split) <;> omega), if_neg (by omega)]
      · rw [if_neg (by simp; omega), fst_c b r _ _ 4096 2048 (64 * (64 * 0 + b - 128) + 63) 64 h.1 h.2 (by decide) (by decide) (by simp only [mx, mn]; (repeat' split) <;> omega) (by simp only [mx, mn]; (repeat' split) <;> omega), if_pos (by omega)]
    · rw [if_neg (by simp; omega), fst_n _ _ _ _ _ h]
  · rw [if_neg q, show mx 2048 (x * 4096) = 4096 * x by unfold mx; split <;> omega, Int.mul_comm x 4096, f4096]
theorem f262144a (x b : Int) (r : List Int) (hx : 0 ≤ x) (h5 : x < 5) : fst' (b :: r) (mx 65536 (x * 262144)) (mn 1114111 (x * 262144 + 262143)) 262144 = if (if x = 0 then 144 else 128) ≤ b ∧ b < (if x = 4 then 144 else 192) then fst' r (4096 * (64 * x + b - 128)) (4096 * (64 * x + b - 128) + 4095) 4096 else none := by
  by_cases h : 128 ≤ b ∧ b < 192
  · by_cases q : x = 0
    · subst q
      by_cases h2 : 144 ≤ b
      · rw [if_pos (by simp; omega), fst_c b r _ _ 262144 (4096 * (64 * 0 + b - 128)) (4096 * (64 * 0 + b - 128) + 4095) 4096 h.1 h.2 (by decide) (by decide) (by simp only [mx, mn]; (repeat' split) <;> omega) (by simp only [mx, mn]; (repeat' split) <;> omega), if_neg (by omega)]
      · rw [if_neg (by simp; omega), fst_c b r _ _ 262144 65536 (4096 * (64 * 0 + b - 128) + 4095) 4096 h.1 h.2 (by decide) (by decide) (by simp only [mx, mn]; (repeat' split) <;> omega) (by simp only [mx, mn]; (repeat' split) <;> omega), if_pos (by omega)]
    · have e1 : mx 65536 (x * 262144) = 262144 * x := by unfold mx; split <;> omega
      by_cases q4 : x = 4
      · subst q4
        by_cases h2 : b < 144
        · rw [if_pos (by simp; omega), fst_c b r _ _ 262144 (4096 * (64 * 4 + b - 128)) (4096 * (64 * 4 + b - 128) + 4095) 4096 h.1 h.2 (by decide) (by decide) (by simp only [mx, mn]; (repeat' split) <;> omega) (by simp only [mx, mn]; (repeat' split) <;> omega), if_neg (by omega)]
        · rw [if_neg (by simp; omega), fst_c b r _ _ 262144 (4096 * (64 * 4 + b - 128)) 1114111 4096 h.1 h.2 (by decide) (by decide) (by simp only [mx, mn]; (repeat' split) <;> omega) (by simp only [mx, mn]; (repeat' split) <;> omega), if_pos (by omega)]
      · have e2 : mn 1114111 (x * 262144 + 262143) = 262144 * x + 262143 := by unfold mn; split <;> omega
        rw [e1, e2, if_pos (by simp [q, q4]; omega), fst_c b r _ _ 262144 (4096 * (64 * x + b - 128)) (4096 * (64 * x + b - 128) + 4095) 4096 h.1 h.2 (by decide) (by decide) (by split <;> omega) (by split <;> omega), if_neg (by omega)]
  · rw [fst_n _ _ _ _ _ h, if_neg (by split <;> split <;> omega)]
/-! what the starts are -/
theorem code1 {a : Int} (h : a < 128) : code a = [a] := by unfold code; rw [if_pos h]
theorem code2 {a b : Int} (h1 : 194 ≤ a) (h2 : a < 224) (h3 : 128 ≤ b) (h4 : b < 192) : code (64 * (a - 192) + b - 128) = [a, b] := by
  unfold code
  rw [if_neg (by omega), if_pos (by omega)]
  congr 1
  · omega
  · congr 1; omega
theorem code3 {a b c : Int} (h1 : 224 ≤ a) (h2 : a < 240) (h3 : (if a = 224 then 160 else 128) ≤ b) (h4 : b < 192) (h5 : 128 ≤ c) (h6 : c < 192) : code (64 * (64 * (a - 224) + b - 128) + c - 128) = [a, b, c] := by
  have h7 : 2048 ≤ 64 * (64 * (a - 224) + b - 128) + c - 128 := by split at h3 <;> omega
  have h8 : 128 ≤ b := by split at h3 <;> omega
  unfold code
  rw [if_neg (by omega), if_neg (by omega), if_pos (by omega)]
  congr 1
  · omega
  · congr 1
    · omega
    · congr 1; omega
theorem code4 {a b c d : Int} (h1 : 240 ≤ a) (h2 : a < 245) (h3 : (if a = 240 then 144 else 128) ≤ b) (h4 : b < (if a = 244 then 144 else 192)) (h5 : 128 ≤ c) (h6 : c < 192) (h7 : 128 ≤ d) (h8 : d < 192) : code (64 * (64 * (64 * (a - 240) + b - 128) + c - 128) + d - 128) = [a, b, c, d] := by
  have h9 : 65536 ≤ 64 * (64 * (64 * (a - 240) + b - 128) + c - 128) + d - 128 := by split at h3 <;> omega
  have h10 : 128 ≤ b := by split at h3 <;> omega
  have h11 : b < 192 := by split at h4 <;> omega
  unfold code
  rw [if_neg (by omega), if_neg (by omega), if_neg (by omega)]
  congr 1
  · omega
  · congr 1
    · omega
    · congr 1
      · omega
      · congr 1; omega
theorem code_len2 {l : Int} (h : 128 ≤ l) : 2 ≤ (code l).length := by
  unfold code
  rw [if_neg (by omega)]
  split
  · simp
  split <;> simp
theorem code_len3 {l : Int} (h : 2048 ≤ l) : 3 ≤ (code l).length := by
  unfold code
  rw [if_neg (by omega), if_neg (by omega)]
  split <;> simp
theorem code_len4 {l : Int} (h : 65536 ≤ l) : 4 ≤ (code l).length := by
  unfold code
  rw [if_neg (by omega), if_neg (by omega), if_neg (by omega)]
  simp
theorem bytes1 (l : Int) : bytes [l] = code l := by simp [bytes]
end K16

namespace K16
open PySem PySem.Spec L2 DS
theorem up_short {r : List Int} {p : Nat × Option Int} {k : Nat} (h : r.length < k) : up1 r p k = p := by unfold up1; rw [if_neg (by omega)]
theorem up_none {r : List Int} {p : Nat × Option Int} {k : Nat} (h : starts (r.take k) = none) : up1 r p k = p := by unfold up1; rw [h]; split <;> rfl
theorem up_some {r : List Int} {p : Nat × Option Int} {k : Nat} {l h : Int} (hk : k ≤ r.length) (e : starts (r.take k) = some (l, h)) (hc : code l = r.take k) : up1 r p k = (k, some l) := by unfold up1; rw [if_pos hk, e]; simp [stU, bytes1, hc]
theorem up_part {r : List Int} {p : Nat × Option Int} {k : Nat} {l h : Int} (hk : k ≤ r.length) (e : starts (r.take k) = some (l, h)) (hc : k < (code l).length) : up1 r p k = (k, p.2) := by
  unfold up1
  rw [if_pos hk, e]
  have : ¬ code l = r.take k := fun z => by rw [z] at hc; simp at hc; omega
  simp [stU, bytes1, this]
theorem lpc_of {r : List Int} {p1 p2 p3 p4 : Nat × Option Int} (h1 : up1 r (1, none) 1 = p1) (h2 : up1 r p1 2 = p2) (h3 : up1 r p2 3 = p3) (h4 : up1 r p3 4 = p4) : lpc r = (p4.2, p4.1) := by
  unfold lpc
  simp only [List.foldl_cons, List.foldl_nil, h1, h2, h3, h4]
/-! one byte -/
theorem lpc1 {a : Int} (h : a < 128) (r : List Int) : lpc (a :: r) = (some a, 1) := by
  have s : ∀ b t, starts (a :: b :: t) = none := fun b t => by simp [starts, h]
  have h1 : up1 (a :: r) (1, none) 1 = (1, some a) := up_some (h := a) (by simp) (by simp [starts, h]) (by simp [code1 h])
  have hn : ∀ k p, 2 ≤ k → up1 (a :: r) p k = p := fun k p hk => by
    cases r with
    | nil => exact up_short (by simp; omega)
    | cons b t => exact up_none (by obtain ⟨j, rfl⟩ : ∃ j, k = j + 2 := ⟨k - 2, by omega⟩; simp [s])
  exact lpc_of h1 (hn _ _ (by decide)) (hn _ _ (by decide)) (hn _ _ (by decide))
theorem fb1 {a : Int} (h : a < 128) : fb a = (1, 0, 0) := by simp [fb, h]
theorem pce1 {a : Int} (h : a < 128) (r : List Int) : pce (a :: r) = (some a, 1) := by simp [pce, here, many, fb1 h, reachL, val]
/-! no sign begins so -/
theorem lpcx {a : Int} (h : ¬ a < 128) (h1 : ¬ (194 ≤ a ∧ a < 245)) (r : List Int) : lpc (a :: r) = (none, 1) := by
  have s : ∀ t, starts (a :: t) = none := fun t => by
    rw [starts, if_neg h, if_neg (by omega), if_neg (by omega), if_neg (by omega)]
  have hn : ∀ k p, 1 ≤ k → up1 (a :: r) p k = p := fun k p hk => up_none (by obtain ⟨j, rfl⟩ : ∃ j, k = j + 1 := ⟨k - 1, by omega⟩; simp [s])
  exact lpc_of (hn _ _ (by decide)) (hn _ _ (by decide)) (hn _ _ (by decide)) (hn _ _ (by decide))
theorem pcex {a : Int} (h : ¬ a < 128) (h1 : ¬ (194 ≤ a ∧ a < 245)) (r : List Int) : pce (a :: r) = (none, 1) := by
  have e : fb a = (0, 0, 0) := by unfold fb; rw [if_neg h, if_neg (by omega), if_neg (by omega), if_neg (by omega)]
  simp [pce, here, many, e, reachL]
/-! two bytes -/
section
variable {a : Int} (h1 : 194 ≤ a) (h2 : a < 224)
include h1 h2
theorem s2 (t : List Int) : starts (a :: t) = fst' t (64 * (a - 192)) (64 * (a - 192) + 63) 64 := by
  rw [starts, if_neg (by omega), if_pos ⟨h1, h2⟩, Int.mul_comm]
theorem lpc2n (r : List Int) (hr : ∀ b t, r = b :: t → ¬ (128 ≤ b ∧ b < 192)) : lpc (a :: r) = (none, 1) := by
  have q1 : up1 (a :: r) (1, none) 1 = (1, none) := up_part (l := 64 * (a - 192)) (h := 64 * (a - 192) + 63) (by simp) (by simp [s2 h1 h2, fst']) (code_len2 (by omega))
  have hn : ∀ k p, 2 ≤ k → up1 (a :: r) p k = p := fun k p hk => by
    cases r with
    | nil => exact up_short (by simp; omega)
    | cons b t => exact up_none (by obtain ⟨j, rfl⟩ : ∃ j, k = j + 2 := ⟨k - 2, by omega⟩; simp [s2 h1 h2, f64, hr b t rfl])
  exact lpc_of q1 (hn _ _ (by decide)) (hn _ _ (by decide)) (hn _ _ (by decide))
theorem lpc2 (b : Int) (t : List Int) (h3 : 128 ≤ b) (h4 : b < 192) : lpc (a :: b :: t) = (some (64 * (a - 192) + b - 128), 2) := by
  have q1 : up1 (a :: b :: t) (1, none) 1 = (1, none) := up_part (l := 64 * (a - 192)) (h := 64 * (a - 192) + 63) (by simp) (by simp [s2 h1 h2, fst']) (code_len2 (by omega))
  have q2 : up1 (a :: b :: t) (1, none) 2 = (2, some (64 * (a - 192) + b - 128)) := up_some (h := 64 * (a - 192) + b - 128) (by simp) (by simp only [List.take_succ_cons, List.take_zero]; rw [s2 h1 h2, f64, if_pos ⟨h3, h4⟩]; rfl) (by simp [code2 h1 h2 h3 h4])
  have hn : ∀ k p, 3 ≤ k → up1 (a :: b :: t) p k = p := fun k p hk => by
    cases t with
    | nil => exact up_short (by simp; omega)
    | cons c t => exact up_none (by obtain ⟨j, rfl⟩ : ∃ j, k = j + 3 := ⟨k - 3, by omega⟩; simp [s2 h1 h2, f64, h3, h4, f1])
  exact lpc_of q1 q2 (hn _ _ (by decide)) (hn _ _ (by decide))
theorem fb2 : fb a = (2, 128, 192) := by unfold fb; rw [if_neg (by omega), if_pos ⟨h1, h2⟩]
theorem pe2n (r : List Int) (hr : ∀ b t, r = b :: t → ¬ (128 ≤ b ∧ b < 192)) : pce (a :: r) = (none, 1) := by
  cases r with
  | nil => simp [pce, here, many, fb2 h1 h2, reachL]
  | cons b t => simp [pce, here, many, fb2 h1 h2, reachL, hr b t rfl]
theorem pe2 (b : Int) (t : List Int) (h3 : 128 ≤ b) (h4 : b < 192) : pce (a :: b :: t) = (some (64 * (a - 192) + b - 128), 2) := by
  simp [pce, here, many, fb2 h1 h2, reachL, h3, h4, val]
end
/-! three bytes -/
section
variable {a : Int} (h1 : 224 ≤ a) (h2 : a < 240)
include h1 h2
theorem s3 (t : List Int) : starts (a :: t) = fst' t (mx 2048 ((a - 224) * 4096)) ((a - 224) * 4096 + 4095) 4096 := by
  rw [starts, if_neg (by omega), if_neg (by omega), if_pos ⟨h1, h2⟩]
theorem fb3 : fb a = (3, if a = 224 then 160 else 128, 192) := by unfold fb; rw [if_neg (by omega), if_neg (by omega), if_pos ⟨h1, h2⟩]
theorem s3b (b : Int) (t : List Int) : starts (a :: b :: t) = if (if a = 224 then 160 else 128) ≤ b ∧ b < 192 then fst' t (64 * (64 * (a - 224) + b - 128)) (64 * (64 * (a - 224) + b - 128) + 63) 64 else none := by
  rw [s3 h1 h2, f4096a _ _ _ (by omega)]
  by_cases q : a = 224
  · rw [if_pos q, if_pos (show a - 224 = 0 by omega)]
  · rw [if_neg q, if_neg (show ¬ a - 224 = 0 by omega)]
theorem q31 (r : List Int) : up1 (a :: r) (1, none) 1 = (1, none) := up_part (l := mx 2048 ((a - 224) * 4096)) (h := (a - 224) * 4096 + 4095) (by simp) (by simp [s3 h1 h2, fst']) (Nat.lt_of_lt_of_le (by decide) (code_len3 (by unfold mx; split <;> omega)))
theorem lpc3n (r : List Int) (hr : ∀ b t, r = b :: t → ¬ ((if a = 224 then 160 else 128) ≤ b ∧ b < 192)) : lpc (a :: r) = (none, 1) := by
  have hn : ∀ k p, 2 ≤ k → up1 (a :: r) p k = p := fun k p hk => by
    cases r with
    | nil => exact up_short (by simp; omega)
    | cons b t => exact up_none (by obtain ⟨j, rfl⟩ : ∃ j, k = j + 2 := ⟨k - 2, by omega⟩; rw [List.take_succ_cons, List.take_succ_cons, s3b h1 h2, if_neg (hr b t rfl)])
  exact lpc_of (q31 h1 h2 r) (hn _ _ (by decide)) (hn _ _ (by decide)) (hn _ _ (by decide))
theorem pe3n (r : List Int) (hr : ∀ b t, r = b :: t → ¬ ((if a = 224 then 160 else 128) ≤ b ∧ b < 192)) : pce (a :: r) = (none, 1) := by
  cases r with
  | nil => simp [pce, here, many, fb3 h1 h2, reachL]
  | cons b t =>
    have : reachL 2 (if a = 224 then 160 else 128) 192 (b :: t) = 0 := by unfold reachL; rw [if_neg (hr b t rfl)]
    simp [pce, here, many, fb3 h1 h2, this]
variable (b : Int) (h3 : (if a = 224 then 160 else 128) ≤ b) (h4 : b < 192)
include h3 h4
theorem q32 (t : List Int) : up1 (a :: b :: t) (1, none) 2 = (2, none) :=
  up_part (l := 64 * (64 * (a - 224) + b - 128)) (h := 64 * (64 * (a - 224) + b - 128) + 63) (by simp) (by simp only [List.take_succ_cons, List.take_zero]; rw [s3b h1 h2, if_pos ⟨h3, h4⟩]; rfl) (Nat.lt_of_lt_of_le (by decide) (code_len3 (by split at h3 <;> omega)))
theorem lpc3m (t : List Int) (ht : ∀ c u, t = c :: u → ¬ (128 ≤ c ∧ c < 192)) : lpc (a :: b :: t) = (none, 2) := by
  have hn : ∀ k p, 3 ≤ k → up1 (a :: b :: t) p k = p := fun k p hk => by
    cases t with
    | nil => exact up_short (by simp; omega)
    | cons c u => exact up_none (by obtain ⟨j, rfl⟩ : ∃ j, k = j + 3 := ⟨k - 3, by omega⟩; simp only [List.take_succ_cons]; rw [s3b h1 h2, if_pos ⟨h3, h4⟩, f64, if_neg (ht c u rfl)])
  exact lpc_of (q31 h1 h2 _) (q32 h1 h2 b h3 h4 t) (hn _ _ (by decide)) (hn _ _ (by decide))
theorem pe3m (t : List Int) (ht : ∀ c u, t = c :: u → ¬ (128 ≤ c ∧ c < 192)) : pce (a :: b :: t) = (none, 2) := by
  have e : reachL 2 (if a = 224 then 160 else 128) 192 (b :: t) = 1 := by
    unfold reachL
    rw [if_pos ⟨h3, h4⟩]
    cases t with
    | nil => rfl
    | cons c u => unfold reachL; rw [if_neg (ht c u rfl)]
  simp [pce, here, many, fb3 h1 h2, e]
theorem lpc3 (c : Int) (t : List Int) (h5 : 128 ≤ c) (h6 : c < 192) : lpc (a :: b :: c :: t) = (some (64 * (64 * (a - 224) + b - 128) + c - 128), 3) := by
  have q3 : up1 (a :: b :: c :: t) (2, none) 3 = (3, some (64 * (64 * (a - 224) + b - 128) + c - 128)) := up_some (h := 64 * (64 * (a - 224) + b - 128) + c - 128) (by simp) (by simp only [List.take_succ_cons, List.take_zero]; rw [s3b h1 h2, if_pos ⟨h3, h4⟩, f64, if_pos ⟨h5, h6⟩]; rfl) (by simp [code3 h1 h2 h3 h4 h5 h6])
  have hn : ∀ k p, 4 ≤ k → up1 (a :: b :: c :: t) p k = p := fun k p hk => by
    cases t with
    | nil => exact up_short (by simp; omega)
    | cons d u => exact up_none (by obtain ⟨j, rfl⟩ : ∃ j, k = j + 4 := ⟨k - 4, by omega⟩; simp only [List.take_succ_cons]; rw [s3b h1 h2, if_pos ⟨h3, h4⟩, f64, if_pos ⟨h5, h6⟩, f1])
  exact lpc_of (q31 h1 h2 _) (q32 h1 h2 b h3 h4 _) q3 (hn _ _ (by decide))
theorem pe3 (c : Int) (t : List Int) (h5 : 128 ≤ c) (h6 : c < 192) : pce (a :: b :: c :: t) = (some (64 * (64 * (a - 224) + b - 128) + c - 128), 3) := by
  have e : reachL 2 (if a = 224 then 160 else 128) 192 (b :: c :: t) = 2 := by
    unfold reachL
    rw [if_pos ⟨h3, h4⟩]
    unfold reachL
    rw [if_pos ⟨h5, h6⟩]
    rfl
  simp [pce, here, many, fb3 h1 h2, e, val]
end
/-! four bytes -/
section
variable {a : Int} (h1 : 240 ≤ a) (h2 : a < 245)
include h1 h2
abbrev lo4 (a : Int) : Int := if a = 240 then 144 else 128
abbrev hi4 (a : Int) : Int := if a = 244 then 144 else 192
theorem s4 (t : List Int) : starts (a :: t) = fst' t (mx 65536 ((a - 240) * 262144)) (mn 1114111 ((a - 240) * 262144 + 262143)) 262144 := by
  rw [starts, if_neg (by omega), if_neg (by omega), if_neg (by omega), if_pos ⟨h1, h2⟩]
theorem fb4 : fb a = (4, lo4 a, hi4 a) := by unfold fb; rw [if_neg (by omega), if_neg (by omega), if_neg (by omega), if_pos ⟨h1, h2⟩]
theorem s4b (b : Int) (t : List Int) : starts (a :: b :: t) = if lo4 a ≤ b ∧ b < hi4 a then fst' t (4096 * (64 * (a - 240) + b - 128)) (4096 * (64 * (a - 240) + b - 128) + 4095) 4096 else none := by
  rw [s4 h1 h2, f262144a _ _ _ (by omega) (by omega)]
  have e1 : (if a - 240 = 0 then (144 : Int) else 128) = lo4 a := by unfold lo4; by_cases q : a = 240; (rw [if_pos q, if_pos (by omega)]); (rw [if_neg q, if_neg (by omega)])
  have e2 : (if a - 240 = 4 then (144 : Int) else 192) = hi4 a := by unfold hi4; by_cases q : a = 244; (rw [if_pos q, if_pos (by omega)]); (rw [if_neg q, if_neg (by omega)])
  rw [e1, e2]
theorem q41 (r : List Int) : up1 (a :: r) (1, none) 1 = (1, none) := up_part (l := mx 65536 ((a - 240) * 262144)) (h := mn 1114111 ((a - 240) * 262144 + 262143)) (by simp) (by simp [s4 h1 h2, fst']) (Nat.lt_of_lt_of_le (by decide) (code_len4 (by unfold mx; split <;> omega)))
theorem lpc4n (r : List Int) (hr : ∀ b t, r = b :: t → ¬ (lo4 a ≤ b ∧ b < hi4 a)) : lpc (a :: r) = (none, 1) := by
  have hn : ∀ k p, 2 ≤ k → up1 (a :: r) p k = p := fun k p hk => by
    cases r with
    | nil => exact up_short (by simp; omega)
    | cons b t => exact up_none (by obtain ⟨j, rfl⟩ : ∃ j, k = j + 2 := ⟨k - 2, by omega⟩; rw [List.take_succ_cons, List.take_succ_cons, s4b h1 h2, if_neg (hr b t rfl)])
  exact lpc_of (q41 h1 h2 r) (hn _ _ (by decide)) (hn _ _ (by decide)) (hn _ _ (by decide))
theorem pe4n (r : List Int) (hr : ∀ b t, r = b :: t → ¬ (lo4 a ≤ b ∧ b < hi4 a)) : pce (a :: r) = (none, 1) := by
  cases r with
  | nil => simp [pce, here, many, fb4 h1 h2, reachL]
  | cons b t =>
    have : reachL 3 (lo4 a) (hi4 a) (b :: t) = 0 := by unfold reachL; rw [if_neg (hr b t rfl)]
    simp only [pce, here, many, fb4 h1 h2]
    simp [this]
variable (b : Int) (h3 : lo4 a ≤ b) (h4 : b < hi4 a)
include h3 h4
theorem big4 : 65536 ≤ 4096 * (64 * (a - 240) + b - 128) := by unfold lo4 at h3; split at h3 <;> omega
theorem q42 (t : List Int) : up1 (a :: b :: t) (1, none) 2 = (2, none) :=
  up_part (l := 4096 * (64 * (a - 240) + b - 128)) (h := 4096 * (64 * (a - 240) + b - 128) + 4095) (by simp) (by simp only [List.take_succ_cons, List.take_zero]; rw [s4b h1 h2, if_pos ⟨h3, h4⟩]; rfl) (Nat.lt_of_lt_of_le (by decide) (code_len4 (big4 h1 h2 b h3 h4)))
theorem lpc4m (t : List Int) (ht : ∀ c u, t = c :: u → ¬ (128 ≤ c ∧ c < 192)) : lpc (a :: b :: t) = (none, 2) := by
  have hn : ∀ k p, 3 ≤ k → up1 (a :: b :: t) p k = p := fun k p hk => by
    cases t with
    | nil => exact up_short (by simp; omega)
    | cons c u => exact up_none (by obtain ⟨j, rfl⟩ : ∃ j, k = j + 3 := ⟨k - 3, by omega⟩; simp only [List.take_succ_cons]; rw [s4b h1 h2, if_pos ⟨h3, h4⟩, f4096, if_neg (ht c u rfl)])
  exact lpc_of (q41 h1 h2 _) (q42 h1 h2 b h3 h4 t) (hn _ _ (by decide)) (hn _ _ (by decide))
theorem pe4m (t : List Int) (ht : ∀ c u, t = c :: u → ¬ (128 ≤ c ∧ c < 192)) : pce (a :: b :: t) = (none, 2) := by
  have e : reachL 3 (lo4 a) (hi4 a) (b :: t) = 1 := by
    unfold reachL
    rw [if_pos ⟨h3, h4⟩]
    cases t with
    | nil => rfl
    | cons c u => unfold reachL; rw [if_neg (ht c u rfl)]
  simp only [pce, here, many, fb4 h1 h2]
  simp [e]
variable (c : Int) (h5 : 128 ≤ c) (h6 : c < 192)
include h5 h6
theorem q43 (t : List Int) : up1 (a :: b :: c :: t) (2, none) 3 = (3, none) :=
  up_part (l := 64 * (64 * (64 * (a - 240) + b - 128) + c - 128)) (h := 64 * (64 * (64 * (a - 240) + b - 128) + c - 128) + 63) (by simp) (by simp only [List.take_succ_cons, List.take_zero]; rw [s4b h1 h2, if_pos ⟨h3, h4⟩, f4096, if_pos ⟨h5, h6⟩]; rfl) (Nat.lt_of_lt_of_le (by decide) (code_len4 (by have := big4 h1 h2 b h3 h4; omega)))
theorem lpc4k (t : List Int) (ht : ∀ d u, t = d :: u → ¬ (128 ≤ d ∧ d < 192)) : lpc (a :: b :: c :: t) = (none, 3) := by
  have hn : ∀ k p, 4 ≤ k → up1 (a :: b :: c :: t) p k = p := fun k p hk => by
    cases t with
    | nil => exact up_short (by simp; omega)
    | cons d u => exact up_none (by obtain ⟨j, rfl⟩ : ∃ j, k = j + 4 := ⟨k - 4, by omega⟩; simp only [List.take_succ_cons]; rw [s4b h1 h2, if_pos ⟨h3, h4⟩, f4096, if_pos ⟨h5, h6⟩, f64, if_neg (ht d u rfl)])
  exact lpc_of (q41 h1 h2 _) (q42 h1 h2 b h3 h4 _) (q43 h1 h2 b h3 h4 c h5 h6 t) (hn _ _ (by decide))
theorem pe4k (t : List Int) (ht : ∀ d u, t = d :: u → ¬ (128 ≤ d ∧ d < 192)) : pce (a :: b :: c :: t) = (none, 3) := by
  have e : reachL 3 (lo4 a) (hi4 a) (b :: c :: t) = 2 := by
    unfold reachL
    rw [if_pos ⟨h3, h4⟩]
    unfold reachL
    rw [if_pos ⟨h5, h6⟩]
    cases t with
    | nil => rfl
    | cons d u => unfold reachL; rw [if_neg (ht d u rfl)]
  simp only [pce, here, many, fb4 h1 h2]
  simp [e]
theorem lpc4 (d : Int) (t : List Int) (h7 : 128 ≤ d) (h8 : d < 192) : lpc (a :: b :: c :: d :: t) = (some (64 * (64 * (64 * (a - 240) + b - 128) + c - 128) + d - 128), 4) := by
  have q4 : up1 (a :: b :: c :: d :: t) (3, none) 4 = (4, some (64 * (64 * (64 * (a - 240) + b - 128) + c - 128) + d - 128)) := up_some (h := 64 * (64 * (64 * (a - 240) + b - 128) + c - 128) + d - 128) (by simp) (by simp only [List.take_succ_cons, List.take_zero]; rw [s4b h1 h2, if_pos ⟨h3, h4⟩, f4096, if_pos ⟨h5, h6⟩, f64, if_pos ⟨h7, h8⟩]; rfl) (by simp [code4 h1 h2 h3 h4 h5 h6 h7 h8])
  exact lpc_of (q41 h1 h2 _) (q42 h1 h2 b h3 h4 _) (q43 h1 h2 b h3 h4 c h5 h6 _) q4
theorem pe4 (d : Int) (t : List Int) (h7 : 128 ≤ d) (h8 : d < 192) : pce (a :: b :: c :: d :: t) = (some (64 * (64 * (64 * (a - 240) + b - 128) + c - 128) + d - 128), 4) := by
  have e : reachL 3 (lo4 a) (hi4 a) (b :: c :: d :: t) = 3 := by
    unfold reachL
    rw [if_pos ⟨h3, h4⟩]
    unfold reachL
    rw [if_pos ⟨h5, h6⟩]
    unfold reachL
    rw [if_pos ⟨h7, h8⟩]
    rfl
  simp only [pce, here, many, fb4 h1 h2]
  simp [e, val]
end
theorem cons_not {P : Int → Prop} {b : Int} {t : List Int} (h : ¬ P b) : ∀ b' t', b :: t = b' :: t' → ¬ P b' := fun b' t' e => by cases e; exact h
theorem nil_not {P : Int → Prop} : ∀ b' t', ([] : List Int) = b' :: t' → ¬ P b' := fun b' t' e => by cases e
theorem lpc_eq (r : List Int) (hr : r ≠ []) : lpc r = pce r := by
  obtain ⟨a, r, rfl⟩ := List.exists_cons_of_ne_nil hr
  by_cases q1 : a < 128
  · rw [lpc1 q1, pce1 q1]
  by_cases qx : 194 ≤ a ∧ a < 245
  case neg => rw [lpcx q1 qx, pcex q1 qx]
  by_cases q2 : a < 224
  · cases r with
    | nil => rw [lpc2n qx.1 q2 _ nil_not, pe2n qx.1 q2 _ nil_not]
    | cons b t =>
      by_cases hb : 128 ≤ b ∧ b < 192
      · rw [lpc2 qx.1 q2 b t hb.1 hb.2, pe2 qx.1 q2 b t hb.1 hb.2]
      · rw [lpc2n qx.1 q2 _ (cons_not hb), pe2n qx.1 q2 _ (cons_not hb)]
  have q2' : 224 ≤ a := by omega
  by_cases q3 : a < 240
  · cases r with
    | nil => rw [lpc3n q2' q3 _ nil_not, pe3n q2' q3 _ nil_not]
    | cons b t =>
      by_cases hb : (if a = 224 then 160 else 128) ≤ b ∧ b < 192
      · cases t with
        | nil => rw [lpc3m q2' q3 b hb.1 hb.2 _ nil_not, pe3m q2' q3 b hb.1 hb.2 _ nil_not]
        | cons c u =>
          by_cases hc : 128 ≤ c ∧ c < 192
          · rw [lpc3 q2' q3 b hb.1 hb.2 c u hc.1 hc.2, pe3 q2' q3 b hb.1 hb.2 c u hc.1 hc.2]
          · rw [lpc3m q2' q3 b hb.1 hb.2 _ (cons_not hc), pe3m q2' q3 b hb.1 hb.2 _ (cons_not hc)]
      · rw [lpc3n q2' q3 _ (cons_not hb), pe3n q2' q3 _ (cons_not hb)]
  have q3' : 240 ≤ a := by omega
  have q4 := qx.2
  cases r with
  | nil => rw [lpc4n q3' q4 _ nil_not, pe4n q3' q4 _ nil_not]
  | cons b t =>
    by_cases hb : lo4 a ≤ b ∧ b < hi4 a
    case neg => rw [lpc4n q3' q4 _ (cons_not hb), pe4n q3' q4 _ (cons_not hb)]
    cases t with
    | nil => rw [lpc4m q3' q4 b hb.1 hb.2 _ nil_not, pe4m q3' q4 b hb.1 hb.2 _ nil_not]
    | cons c u =>
      by_cases hc : 128 ≤ c ∧ c < 192
      case neg => rw [lpc4m q3' q4 b hb.1 hb.2 _ (cons_not hc), pe4m q3' q4 b hb.1 hb.2 _ (cons_not hc)]
      cases u with
      | nil => rw [lpc4k q3' q4 b hb.1 hb.2 c hc.1 hc.2 _ nil_not, pe4k q3' q4 b hb.1 hb.2 c hc.1 hc.2 _ nil_not]
      | cons d u =>
        by_cases hd : 128 ≤ d ∧ d < 192
        · rw [lpc4 q3' q4 b hb.1 hb.2 c hc.1 hc.2 d u hd.1 hd.2, pe4 q3' q4 b hb.1 hb.2 c hc.1 hc.2 d u hd.1 hd.2]
        · rw [lpc4k q3' q4 b hb.1 hb.2 c hc.1 hc.2 _ (cons_not hd), pe4k q3' q4 b hb.1 hb.2 c hc.1 hc.2 _ (cons_not hd)]
end K16

namespace K16
open PySem PySem.Spec L2 DS
theorem lpieces_loop (data : List Int) (hd : data.length ≤ 1000000) : ∀ (k p : Nat) (acc : List Pc) (x3 x4 x5 x6 : Option Bd) (n : Nat), data.length - p = k → p ≤ data.length → acc.length ≤ p → k < n → frV (some x3) = true → frV (some x4) = true → frV (some x5) = true → frV (some x6) = true →
    ∃ y3 y4 y5 y6, whl w__law_pieces_2 s__law_pieces_2 n [some (.sh, IL data), some (.ow, .lst (acc.map rowD)), some (.sh, .int p), x3, x4, x5, x6] = .nx [some (.sh, IL data), some (.ow, .lst ((acc ++ pcs (data.drop p)).map rowD)), some (.sh, .int data.length), y3, y4, y5, y6] := by
  intro k
  induction k using Nat.strongRecOn with
  | ind k ih =>
    intro p acc x3 x4 x5 x6 n hk hp ha hn f3 f4 f5 f6
    obtain ⟨n, rfl⟩ : ∃ m, n = m + 1 := ⟨n - 1, by omega⟩
    rw [whl_c]
    by_cases q : p < data.length
    · have hne : data.drop p ≠ [] := by intro z; have := congrArg List.length z; simp at this; omega
      have h1 := here_pos hne
      have h2 := here_le (data.drop p)
      rw [List.length_drop] at h2
      obtain ⟨z3, z4, z5, z6, st, g3, g4, g5, g6⟩ := piece_turn data p acc x3 x4 x5 x6 (by omega) f3 f4 f5 f6
      rw [lpc_eq _ hne] at st
      have e2 : (pce (data.drop p)).2 = here (data.drop p) := rfl
      rw [e2] at st
      obtain ⟨y3, y4, y5, y6, e⟩ := ih (data.length - (p + here (data.drop p))) (by omega) (p + here (data.drop p)) (acc ++ [pce (data.drop p)]) z3 z4 z5 z6 n rfl (by omega) (by simp; omega) (by omega) g3 g4 g5 g6
      refine ⟨y3, y4, y5, y6, ?_⟩
      have ew : w__law_pieces_2 [some (.sh, IL data), some (.ow, .lst (acc.map rowD)), some (.sh, .int p), x3, x4, x5, x6] = .ok (true, [some (.sh, IL data), some (.ow, .lst (acc.map rowD)), some (.sh, .int p), x3, x4, x5, x6]) := by
        have q1 : (p : Int) < (data.length : Int) := by omega
        simp [q1]
      rw [ew, rt_ok, kWh_e, if_pos rfl, st, lp_nx, e, pcs_cons hne, List.append_assoc, List.drop_drop]
      rfl
    · have e : p = data.length := by omega
      subst e
      refine ⟨x3, x4, x5, x6, ?_⟩
      simp [pcs_nil]
theorem F__law_pieces_eq (data : List Int) (hd : data.length ≤ 1000000) : F__law_pieces [(.sh, IL data)] = .ok (.o (.lst ((pcs data).map rowD))) [none] := by
  obtain ⟨y3, y4, y5, y6, e⟩ := lpieces_loop data hd data.length 0 [] none none none none fuel rfl (by omega) (by simp) (by unfold fuel; omega) rfl rfl rfl rfl
  simp only [List.map_nil, List.nil_append, List.drop_zero, Int.natCast_zero] at e
  simp [F__law_pieces, e]
/-! ### the pieces -/
theorem pce_code {s : Int} (h0 : 0 ≤ s) (h1 : s < 1114112) (r : List Int) : pce (code s ++ r) = (some s, (code s).length) := by
  unfold code
  split
  · exact pce1 (by assumption) r
  split
  · rw [List.cons_append, List.cons_append, List.nil_append, pe2 (by omega) (by omega) _ _ (by omega) (by omega)]
    congr 2
    omega
  split
  · rw [List.cons_append, List.cons_append, List.cons_append, List.nil_append, pe3 (by omega) (by omega) _ (by split <;> omega) (by omega) _ _ (by omega) (by omega)]
    congr 2
    omega
  · rw [List.cons_append, List.cons_append, List.cons_append, List.cons_append, List.nil_append, pe4 (by omega) (by omega) _ (by unfold lo4; split <;> omega) (by unfold hi4; split <;> omega) _ (by omega) (by omega) _ _ (by omega) (by omega)]
    congr 2
    omega
theorem num_iff {x lo hi : Int} : isNum x lo hi = true ↔ lo ≤ x ∧ x < hi := by simp [isNum]
theorem code_byt {s : Int} (h0 : 0 ≤ s) (h1 : s < 1114112) : Byt (code s) := by
  intro x hx
  rw [num_iff]
  unfold code at hx
  split at hx
  · simp at hx; omega
  split at hx
  · simp at hx; omega
  split at hx
  · simp at hx; omega
  · simp at hx; omega
theorem code_ne (s : Int) : code s ≠ [] := by
  unfold code
  split
  · simp
  split
  · simp
  split <;> simp
theorem Sgn.head {s : Int} {t : List Int} (h : Sgn (s :: t)) : 0 ≤ s ∧ s < 1114112 := num_iff.mp (h s (by simp))
theorem Sgn.tail {s : Int} {t : List Int} (h : Sgn (s :: t)) : Sgn t := fun x hx => h x (by simp [hx])
theorem bytes_byt : ∀ {t : List Int}, Sgn t → Byt (bytes t)
  | [], _ => fun x hx => by simp [bytes] at hx
  | s :: t, h => fun x hx => by
    rw [bytes, List.flatMap_cons, List.mem_append] at hx
    rcases hx with hx | hx
    · exact code_byt h.head.1 h.head.2 x hx
    · exact bytes_byt h.tail x hx
theorem here_code {s : Int} (h0 : 0 ≤ s) (h1 : s < 1114112) (r : List Int) : here (code s ++ r) = (code s).length := congrArg Prod.snd (pce_code h0 h1 r)
theorem pcs_bytes : ∀ {t : List Int}, Sgn t → pcs (bytes t) = t.map fun s => (some s, (code s).length)
  | [], _ => rfl
  | s :: t, h => by
    have e : bytes (s :: t) = code s ++ bytes t := List.flatMap_cons ..
    have hne : code s ++ bytes t ≠ [] := fun z => code_ne s (List.append_eq_nil_iff.mp z).1
    rw [e, pcs_cons hne, pce_code h.head.1 h.head.2, here_code h.head.1 h.head.2, List.drop_left, pcs_bytes h.tail]
    rfl
theorem bytes_len : ∀ (t : List Int), (bytes t).length ≤ 4 * t.length
  | [] => by simp [bytes]
  | s :: t => by
    have := code_len s
    have := bytes_len t
    rw [bytes, List.flatMap_cons, List.length_append]
    unfold bytes at this
    simp only [List.length_cons]
    omega
theorem bytes_app (t u : List Int) : bytes (t ++ u) = bytes t ++ bytes u := List.flatMap_append
/-! a shorter text -/
theorem reachL_take : ∀ (m : Nat) (lo hi : Int) (r : List Int) (k : Nat), reachL m lo hi r ≤ k → reachL m lo hi (r.take k) = reachL m lo hi r
  | 0, _, _, _, _, _ => rfl
  | m + 1, lo, hi, [], k, _ => by simp
  | m + 1, lo, hi, x :: r, k, h => by
    cases k with
    | zero =>
      rw [Nat.le_zero.mp h]
      rfl
    | succ k =>
      rw [List.take_succ_cons]
      unfold reachL at h ⊢
      split
      · rename_i q
        rw [if_pos q] at h
        rw [reachL_take m 128 192 r k (by omega)]
      · rfl
theorem pce_take {r : List Int} (hr : r ≠ []) {n : Nat} (h : here r ≤ n) : pce (r.take n) = pce r := by
  obtain ⟨a, r, rfl⟩ := List.exists_cons_of_ne_nil hr
  obtain ⟨n, rfl⟩ : ∃ k, n = k + 1 := ⟨n - 1, by have := here_pos hr; omega⟩
  rw [List.take_succ_cons]
  have e1 : reachL ((fb a).1 - 1).toNat (fb a).2.1 (fb a).2.2 (r.take n) = reachL ((fb a).1 - 1).toNat (fb a).2.1 (fb a).2.2 r := reachL_take _ _ _ _ _ (Nat.le_of_succ_le_succ h)
  have e2 : here (a :: r.take n) = here (a :: r) := congrArg (· + 1) e1
  have e3 : (a :: r.take n).take (here (a :: r)) = (a :: r).take (here (a :: r)) := by
    rw [← List.take_succ_cons, List.take_take, Nat.min_eq_left h]
  unfold pce
  rw [e2, e3]
  rfl
def szs (ps : List Pc) : Nat := (ps.map (·.2)).sum
@[simp] theorem szs_nil : szs [] = 0 := rfl
@[simp] theorem szs_cons (p : Pc) (ps : List Pc) : szs (p :: ps) = p.2 + szs ps := by simp [szs]
theorem szs_pcs : ∀ (n : Nat) (r : List Int), r.length = n → szs (pcs r) = n := by
  intro n
  induction n using Nat.strongRecOn with
  | ind n ih =>
    intro r hr
    by_cases h : r = []
    · subst h; simp at hr; subst hr; rfl
    · have h1 := here_pos h
      have h2 := here_le r
      rw [pcs_cons h, szs_cons, ih (r.length - here r) (by omega) (r.drop (here r)) (by simp)]
      show here r + _ = _
      omega
/-- cut between two pieces -/
theorem pcs_cut : ∀ (j : Nat) (r : List Int), j ≤ (pcs r).length → pcs (r.take (szs ((pcs r).take j))) = (pcs r).take j ∧ pcs (r.drop (szs ((pcs r).take j))) = (pcs r).drop j
  | 0, r, _ => by simp [pcs_nil]
  | j + 1, r, h => by
    by_cases hr : r = []
    · subst hr; simp [pcs_nil]
    · have h1 := here_pos hr
      have h2 := here_le r
      rw [pcs_cons hr] at h ⊢
      rw [List.take_succ_cons, szs_cons, List.drop_succ_cons]
      have ih := pcs_cut j (r.drop (here r)) (by simpa using h)
      have e : (pce r).2 = here r := rfl
      rw [e]
      generalize szs ((pcs (r.drop (here r))).take j) = c at *
      have hne : r.take (here r + c) ≠ [] := by
        intro z
        have z2 := congrArg List.length z
        have z3 := List.length_pos_iff.mpr hr
        rw [List.length_take, List.length_nil] at z2
        omega
      refine ⟨?_, ?_⟩
      · rw [pcs_cons hne, pce_take hr (by omega)]
        have e2 : here (r.take (here r + c)) = here r := congrArg Prod.snd (pce_take hr (n := here r + c) (by omega))
        rw [e2, ← ih.1]
        congr 2
        rw [List.drop_take, Nat.add_sub_cancel_left]
      · rw [← List.drop_drop, ih.2]
end K16

namespace K16
open PySem PySem.Spec L2 DS
/-! ### the order -/
theorem lex_ne {a b : Int} (h : a ≠ b) (X Y : List Int) : lexI (a :: X) (b :: Y) = decide (a < b) := by rw [lexI, if_neg h]
theorem lex_eq {a b : Int} (h : a = b) (X Y : List Int) : lexI (a :: X) (b :: Y) = lexI X Y := by rw [lexI, if_pos h]
theorem code_lt {s t : Int} (h0 : 0 ≤ s) (h1 : s < 1114112) (g0 : 0 ≤ t) (g1 : t < 1114112) (h : s < t) (X Y : List Int) : lexI (code s ++ X) (code t ++ Y) = true ∧ lexI (code t ++ Y) (code s ++ X) = false := by
  unfold code
  split
  · split
    · simp only [List.cons_append, List.nil_append]
      rw [lex_ne (by omega), lex_ne (by omega)]; constructor <;> simp <;> omega
    split
    · simp only [List.cons_append, List.nil_append]
      rw [lex_ne (by omega), lex_ne (by omega)]; constructor <;> simp <;> omega
    split <;>
    · simp only [List.cons_append, List.nil_append]
      rw [lex_ne (by omega), lex_ne (by omega)]; constructor <;> simp <;> omega
  split
  · rw [if_neg (show ¬ t < 128 by omega)]
    split
    · simp only [List.cons_append, List.nil_append]
      by_cases q : s / 64 = t / 64
      · rw [lex_eq (by omega), lex_ne (by omega), lex_eq (by omega), lex_ne (by omega)]; constructor <;> simp <;> omega
      · rw [lex_ne (by omega), lex_ne (by omega)]; constructor <;> simp <;> omega
    split <;>
    · simp only [List.cons_append, List.nil_append]
      rw [lex_ne (by omega), lex_ne (by omega)]; constructor <;> simp <;> omega
  split
  · rw [if_neg (show ¬ t < 128 by omega), if_neg (show ¬ t < 2048 by omega)]
    split
    · simp only [List.cons_append, List.nil_append]
      by_cases q : s / 4096 = t / 4096
      · rw [lex_eq (by omega), lex_eq (show 224 + t / 4096 = 224 + s / 4096 by omega)]
        by_cases q2 : s / 64 % 64 = t / 64 % 64
        · rw [lex_eq (by omega), lex_ne (by omega), lex_eq (by omega), lex_ne (by omega)]; constructor <;> simp <;> omega
        · rw [lex_ne (by omega), lex_ne (by omega)]; constructor <;> simp <;> omega
      · rw [lex_ne (by omega), lex_ne (by omega)]; constructor <;> simp <;> omega
    · simp only [List.cons_append, List.nil_append]
      rw [lex_ne (by omega), lex_ne (by omega)]; constructor <;> simp <;> omega
  · rw [if_neg (show ¬ t < 128 by omega), if_neg (show ¬ t < 2048 by omega), if_neg (show ¬ t < 65536 by omega)]
    simp only [List.cons_append, List.nil_append]
    by_cases q : s / 262144 = t / 262144
    · rw [lex_eq (by omega), lex_eq (show 240 + t / 262144 = 240 + s / 262144 by omega)]
      by_cases q2 : s / 4096 % 64 = t / 4096 % 64
      · rw [lex_eq (by omega), lex_eq (show 128 + t / 4096 % 64 = 128 + s / 4096 % 64 by omega)]
        by_cases q3 : s / 64 % 64 = t / 64 % 64
        · rw [lex_eq (by omega), lex_ne (by omega), lex_eq (by omega), lex_ne (by omega)]; constructor <;> simp <;> omega
        · rw [lex_ne (by omega), lex_ne (by omega)]; constructor <;> simp <;> omega
      · rw [lex_ne (by omega), lex_ne (by omega)]; constructor <;> simp <;> omega
    · rw [lex_ne (by omega), lex_ne (by omega)]; constructor <;> simp <;> omega
theorem lex_same : ∀ (p X Y : List Int), lexI (p ++ X) (p ++ Y) = lexI X Y
  | [], _, _ => rfl
  | a :: p, X, Y => by rw [List.cons_append, List.cons_append, lex_eq rfl, lex_same p]
theorem lex_bytes : ∀ {t u : List Int}, Sgn t → Sgn u → lexI (bytes t) (bytes u) = lexI t u
  | [], [], _, _ => rfl
  | s :: t, [], _, _ => by simp [bytes, lexI]
  | [], s :: u, _, _ => by
    have e : bytes (s :: u) = code s ++ bytes u := List.flatMap_cons ..
    rw [e]
    obtain ⟨a, r, ec⟩ := List.exists_cons_of_ne_nil (code_ne s)
    rw [ec]
    rfl
  | s :: t, s' :: u, h, g => by
    have e : bytes (s :: t) = code s ++ bytes t := List.flatMap_cons ..
    have e' : bytes (s' :: u) = code s' ++ bytes u := List.flatMap_cons ..
    rw [e, e']
    by_cases q : s = s'
    · subst q
      rw [lex_same, lex_eq rfl, lex_bytes h.tail g.tail]
    · rw [lex_ne q]
      by_cases q2 : s < s'
      · rw [(code_lt h.head.1 h.head.2 g.head.1 g.head.2 q2 _ _).1, decide_eq_true q2]
      · rw [(code_lt g.head.1 g.head.2 h.head.1 h.head.2 (by omega) _ _).2, decide_eq_false q2]
/-! ### the wrong pieces -/
def noSign (ps : List Pc) (k : Nat) : Bool := match ps[k]? with
  | some (none, _) => true
  | _ => false
def wr (ps : List Pc) : List Nat := (List.range ps.length).filter (noSign ps)
theorem wr_cons (p : Pc) (ps : List Pc) : wr (p :: ps) = (if p.1.isNone then [0] else []) ++ (wr ps).map (· + 1) := by
  unfold wr
  rw [List.length_cons, List.range_succ_eq_map, List.filter_cons, List.filter_map]
  have e : (noSign (p :: ps)) ∘ Nat.succ = noSign ps := by funext k; simp [noSign]
  rw [e]
  obtain ⟨o, h⟩ := p
  cases o <;> simp [noSign]
theorem wr_any : ∀ ps : List Pc, ps.any (fun p => p.1.isNone) = !(wr ps).isEmpty
  | [] => rfl
  | p :: ps => by
    rw [wr_cons, List.any_cons, wr_any ps]
    cases h : p.1.isNone <;> simp [h]
def fwD (ps : List Pc) (h : Nat) : List Nat → D
  | [] => .non
  | k :: _ => .int ((h + szs (ps.take k) : Nat) : Int)
theorem fw_eq : ∀ (ps : List Pc) (h : Nat), fw ps h = fwD ps h (wr ps)
  | [], h => rfl
  | (none, m) :: ps, h => by rw [wr_cons]; simp [fw, fwD]
  | (some v, m) :: ps, h => by
    rw [wr_cons]
    simp only [Option.isNone_some]
    unfold fw
    rw [fw_eq ps (h + m)]
    cases wr ps with
    | nil => rfl
    | cons k ks => simp [fwD]; omega
/-! ### where the pieces begin -/
def bg (ps : List Pc) : List Nat := (List.range ps.length).map fun k => szs (ps.take k)
theorem bg_cons (p : Pc) (ps : List Pc) : bg (p :: ps) = 0 :: (bg ps).map (p.2 + ·) := by
  unfold bg
  rw [List.length_cons, List.range_succ_eq_map, List.map_cons, List.map_map, List.map_map]
  congr 1
theorem ba_ge (a : Nat) : ∀ (ps : List Pc) (h : Nat), h ≤ ba a ps h
  | [], h => Nat.le_refl _
  | (_, m) :: ps, h => by
    unfold ba
    split
    · exact Nat.le_refl _
    · exact Nat.le_trans (Nat.le_add_right _ _) (ba_ge a ps (h + m))
theorem max_ba (a : Nat) : ∀ (ps : List Pc) (h : Nat), h ≤ a → a < h + szs ps → ((((bg ps).map (h + ·)).filter fun b => decide (b ≤ a)).map fun (n : Nat) => (n : Int)).max? = some (ba a ps h : Int)
  | [], h, h1, h2 => by simp at h2; omega
  | (o, m) :: ps, h, h1, h2 => by
    rw [szs_cons] at h2
    simp only at h2
    rw [bg_cons, List.map_cons, List.map_map, Nat.add_zero, List.filter_cons, if_pos (decide_eq_true h1)]
    unfold ba
    by_cases q : a < h + m
    · rw [if_pos q]
      have e : (((bg ps).map ((h + ·) ∘ (m + ·))).filter fun b => decide (b ≤ a)) = [] := by
        rw [List.filter_eq_nil_iff]
        intro b hb
        obtain ⟨c, _, rfl⟩ := List.mem_map.mp hb
        simp; omega
      rw [e]
      rfl
    · rw [if_neg q]
      have ih := max_ba a ps (h + m) (by omega) (by omega)
      have e : ((h + ·) ∘ (m + ·) : Nat → Nat) = (h + m + ·) := by funext c; simp; omega
      rw [e, List.map_cons, List.max?_cons, ih]
      have := ba_ge a ps (h + m)
      simp; omega
theorem intsOf_szs (ps : List Pc) : intsOf (ps.map fun p => D.int (p.2 : Int)) = some (ps.map fun p => (p.2 : Int)) := by
  rw [show (ps.map fun p => D.int (p.2 : Int)) = (ps.map fun p => (p.2 : Int)).map D.int by simp, intsOf_map]
theorem sum_szs (ps : List Pc) : (ps.map fun p => (p.2 : Int)).sum = (szs ps : Int) := by
  induction ps with
  | nil => rfl
  | cons p ps ih => simp [ih]
end K16

namespace K16
open PySem PySem.Spec L2 DS
/-- where things stand in a turn -/
abbrev Tn (S : D) (dk : List Int) (x2 x3 x4 x5 x6 x7 x8 x9 x10 x11 x12 x13 x14 x15 x17 : Option Bd) : En :=
  [some (.sh, S), some (.ow, IL dk), x2, x3, x4, x5, x6, x7, x8, x9, x10, x11, x12, x13, x14, x15, none, x17, none, none, none, none]
section
variable (S : D) (x2 x3 x4 x5 x6 x7 x8 x9 x10 x11 x12 x13 x14 x15 x17 : Option Bd)
theorem signs_lc : ∀ (items : List D) (dk acc : List Int), acc.length + items.length < 1000 → Sgn acc →
    ∃ t dk', lcL (gSlot 16) xYes e_law_1 [16] items (Tn S dk x2 x3 x4 x5 x6 x7 x8 x9 x10 x11 x12 x13 x14 x15 x17) (acc.map .int) = .ok (t.map .int, Tn S dk' x2 x3 x4 x5 x6 x7 x8 x9 x10 x11 x12 x13 x14 x15 x17) ∧ Sgn t ∧ t.length = acc.length + items.length
  | [], dk, acc, _, ha => ⟨acc, dk, rfl, ha, by simp⟩
  | d :: items, dk, acc, hl, ha => by
    simp only [List.length_cons] at hl
    obtain ⟨s, dk', e, hs⟩ := F__law_any_sign_eq dk
    obtain ⟨t, dk2, e2, ht, el⟩ := signs_lc items dk' (acc ++ [s]) (by simp; omega) (fun x hx => by
      rcases List.mem_append.mp hx with h | h
      · exact ha x h
      · rw [List.mem_singleton.mp h]; exact hs)
    refine ⟨t, dk2, ?_, ht, by rw [el]; simp; omega⟩
    rw [lcL_c]
    have h : acc.length < 16777216 := by omega
    simp [e, h]
    simpa [IL] using e2
theorem u14 (dk : List Int) (f3 : frV (some x3) = true) : ∃ t dk', u_law_14 (Tn S dk x2 x3 x4 x5 x6 x7 x8 x9 x10 x11 x12 x13 x14 x15 x17) = .nx (Tn S dk' x2 (some (.ow, IL t)) x4 x5 x6 x7 x8 x9 x10 x11 x12 x13 x14 x15 x17) ∧ Sgn t ∧ t.length ≤ 6 := by
  have t6 := tk_lt dk (m := 6) (by decide)
  obtain ⟨t, dk', e, ht, el⟩ := signs_lc S x2 x3 x4 x5 x6 x7 x8 x9 x10 x11 x12 x13 x14 x15 x17 (rngD 0 (tk dk 6).toNat) dk.dropLast [] (by simp [rngD_len]; omega) (fun x hx => by simp at hx)
  refine ⟨t, dk', ?_, ht, by rw [el]; simp [rngD_len]; omega⟩
  rw [u_law_14_e]
  have r1 : -4611686018427387904 ≤ tk dk 6 := by omega
  have r2 : tk dk 6 < 4611686018427387904 := by omega
  simp at e
  simp [F__law_take_eq, r1, r2, e, f3]
theorem u17 (dk : List Int) (f5 : frV (some x5) = true) : ∃ t dk', u_law_17 (Tn S dk x2 x3 x4 x5 x6 x7 x8 x9 x10 x11 x12 x13 x14 x15 x17) = .nx (Tn S dk' x2 x3 x4 (some (.ow, IL t)) x6 x7 x8 x9 x10 x11 x12 x13 x14 x15 x17) ∧ Sgn t ∧ t.length ≤ 6 := by
  have t6 := tk_lt dk (m := 6) (by decide)
  obtain ⟨t, dk', e, ht, el⟩ := signs_lc S x2 x3 x4 x5 x6 x7 x8 x9 x10 x11 x12 x13 x14 x15 x17 (rngD 0 (tk dk 6).toNat) dk.dropLast [] (by simp [rngD_len]; omega) (fun x hx => by simp at hx)
  refine ⟨t, dk', ?_, ht, by rw [el]; simp [rngD_len]; omega⟩
  rw [u_law_17_e, show e_law_3 = e_law_1 from rfl]
  have r1 : -4611686018427387904 ≤ tk dk 6 := by omega
  have r2 : tk dk 6 < 4611686018427387904 := by omega
  simp at e
  simp [F__law_take_eq, r1, r2, e, f5]
theorem u15 (dk t : List Int) (hl : t.length ≤ 6) (f4 : frV (some x4) = true) : u_law_15 (Tn S dk x2 (some (.ow, IL t)) x4 x5 x6 x7 x8 x9 x10 x11 x12 x13 x14 x15 x17) = .nx (Tn S dk x2 (some (.sh, IL t)) (some (.ow, IL (bytes t))) x5 x6 x7 x8 x9 x10 x11 x12 x13 x14 x15 x17) := by
  rw [u_law_15_e]
  simp [F__law_bytes_eq t (by omega), f4]
theorem u26 (dk : List Int) (f11 : frV (some x11) = true) : ∃ s dk', u_law_26 (Tn S dk x2 x3 x4 x5 x6 x7 x8 x9 x10 x11 x12 x13 x14 x15 x17) = .nx (Tn S dk' x2 x3 x4 x5 x6 x7 x8 x9 x10 (some (.sh, .int s)) x12 x13 x14 x15 x17) ∧ isNum s 0 1114112 = true := by
  obtain ⟨s, dk', e, hs⟩ := F__law_any_sign_eq dk
  refine ⟨s, dk', ?_, hs⟩
  rw [u_law_26_e]
  simp [e, f11]
end
end K16

namespace K16
open PySem PySem.Spec L2 DS
section
variable (S : D) (x2 x3 x4 x5 x6 x7 x8 x9 x10 x11 x12 x13 x14 x15 x17 : Option Bd)
theorem read_bytes_bytes {t : List Int} (h : Sgn t) (hl : t.length ≤ 6) : F_read_bytes [(.sh, IL (bytes t))] = .ok (.o (IL t)) [none] := by
  have h1 := bytes_len t
  rw [F_read_bytes_eq _ (bytes_byt h) (by omega), pcs_bytes h]
  have e : (t.map fun s => ((some s, (code s).length) : Pc)).any (fun p => p.1.isNone) = false := by simp
  rw [e, List.map_map]
  rfl
theorem first_wrong_bytes {t : List Int} (h : Sgn t) (hl : t.length ≤ 6) : F_first_wrong [(.sh, IL (bytes t))] = .ok (.s .non) [none] := by
  have h1 := bytes_len t
  rw [F_first_wrong_eq _ (bytes_byt h) (by omega), pcs_bytes h]
  have e : ∀ (t : List Int) (n : Nat), fw (t.map fun s => ((some s, (code s).length) : Pc)) n = .non := by
    intro t
    induction t with
    | nil => intro n; rfl
    | cons s t ih => intro n; simp [fw, ih]
  rw [e]
def rowS (s : Int) : D := .tup [IL [s], .int (code s).length]
theorem pieces_bytes {t : List Int} (h : Sgn t) (hl : t.length ≤ 6) : F_pieces_of [(.sh, IL (bytes t))] = .ok (.o (.lst (t.map rowS))) [none] := by
  have h1 := bytes_len t
  rw [F_pieces_of_eq _ (bytes_byt h) (by omega), pcs_bytes h, List.map_map]
  rfl
theorem Pl_rowD (p : Pc) : Pl 2 (rowD p) := Pl.tup fun d hd => by
  simp at hd
  rcases hd with rfl | rfl
  · exact Pl.il
  · exact .int
theorem Pl_rows (ps : List Pc) : Pl 3 (.lst (ps.map rowD)) := Pl.lst fun d hd => by
  obtain ⟨p, _, rfl⟩ := List.mem_map.mp hd
  exact Pl_rowD p
theorem Pl_rowS (t : List Int) : Pl 3 (.lst (t.map rowS)) := Pl.lst fun d hd => by
  obtain ⟨p, _, rfl⟩ := List.mem_map.mp hd
  exact Pl.tup fun d hd => by
    simp at hd
    rcases hd with rfl | rfl
    · exact Pl.il
    · exact .int
theorem u16 (dk t : List Int) (h : Sgn t) (hl : t.length ≤ 6) : u_law_16 (Tn S dk x2 (some (.sh, IL t)) (some (.ow, IL (bytes t))) x5 x6 x7 x8 x9 x10 x11 x12 x13 x14 x15 x17) = .nx (Tn S dk x2 (some (.sh, IL t)) (some (.sh, IL (bytes t))) x5 x6 x7 x8 x9 x10 x11 x12 x13 x14 x15 x17) := by
  rw [u_law_16_e]
  have e1 : gEq true (IL (bytes t)) (IL (bytes t)) = some (.s (.bl false)) := gEq_eq (n := 1) true .il
  have e2 : gEq true (IL t) (IL t) = some (.s (.bl false)) := gEq_eq (n := 1) true .il
  have e3 : gEq true (.lst (t.map rowS)) (.lst (t.map rowS)) = some (.s (.bl false)) := gEq_eq (n := 3) true (Pl_rowS t)
  have el := lc_map (g := gSlot 18) (t := xYes) (f := e_law_2) (vs := [18]) (E := Tn S dk x2 (some (.sh, IL t)) (some (.sh, IL (bytes t))) x5 x6 x7 x8 x9 x10 x11 x12 x13 x14 x15 x17) (φ := D.int) (ψ := rowS) (xs := t) (acc := []) (fun x hx rest acc ha => by
    have eb : F__law_bytes [(.sh, .lst [.int x])] = .ok (.o (IL (code x))) [none] := by rw [← bytes1]; exact F__law_bytes_eq [x] (by simp)
    rw [lcL_c]
    simp [eb, ha, rowS, IL]) (by simp; omega)
  rw [List.nil_append] at el
  simp [F_bytes_of_eq t h (by omega), e1, read_bytes_bytes h hl, e2, first_wrong_bytes h hl, pieces_bytes h hl, el, e3]
theorem u18 (dk t u : List Int) (h : Sgn t) (hl : t.length ≤ 6) (g : Sgn u) (gl : u.length ≤ 6) : u_law_18 (Tn S dk x2 (some (.sh, IL t)) (some (.sh, IL (bytes t))) (some (.ow, IL u)) x6 x7 x8 x9 x10 x11 x12 x13 x14 x15 x17) = .nx (Tn S dk x2 (some (.sh, IL t)) (some (.sh, IL (bytes t))) (some (.sh, IL u)) x6 x7 x8 x9 x10 x11 x12 x13 x14 x15 x17) := by
  rw [u_law_18_e]
  have b1 := bytes_len t
  have b2 := bytes_len u
  have e1 : F_bytes_of [(.sh, .lst (t.map .int ++ u.map .int))] = .ok (.o (.lst ((bytes t).map .int ++ (bytes u).map .int))) [none] := by
    have := F_bytes_of_eq (t ++ u) (fun x hx => (List.mem_append.mp hx).elim (h x) (g x)) (by simp; omega)
    rw [bytes_app] at this
    simpa [IL] using this
  have e2 : gEq true (.lst ((bytes t).map .int ++ (bytes u).map .int)) (.lst ((bytes t).map .int ++ (bytes u).map .int)) = some (.s (.bl false)) := by
    rw [← List.map_append]
    exact gEq_eq (n := 1) true .il
  have l1 : t.length + u.length ≤ 16777216 := by omega
  have l2 : (bytes t).length + (bytes u).length ≤ 16777216 := by omega
  simp [F_bytes_of_eq t h (by omega), F_bytes_of_eq u g (by omega), gLtD_il, lex_bytes h g, e1, e2, l1, l2]
theorem u19 (dk data : List Int) (f6 : frV (some x6) = true) : u_law_19 (Tn S dk x2 x3 (some (.sh, IL data)) x5 x6 x7 x8 x9 x10 x11 x12 x13 x14 x15 x17) = .nx (Tn S dk x2 x3 (some (.sh, IL data)) x5 (some (.ow, IL data)) x7 x8 x9 x10 x11 x12 x13 x14 x15 x17) := by
  rw [u_law_19_e]
  simp [f6]
def byts : List Int := [0, 65, 128, 191, 192, 193, 194, 224, 237, 240, 244, 245, 255, 160]
theorem s4_step (dk b : List Int) (hb : Byt b) (hl : b.length ≤ 100) (f13 : frV (some x13) = true) (f14 : frV (some x14) = true) (f17 : frV (some x17) = true) :
    ∃ b' dk' y13 y14 y17, s_law_4 (Tn S dk x2 x3 x4 x5 (some (.ow, IL b)) x7 x8 x9 x10 x11 x12 x13 x14 x15 x17) = .nx (Tn S dk' x2 x3 x4 x5 (some (.ow, IL b')) x7 x8 x9 x10 x11 x12 y13 y14 x15 y17) ∧ Byt b' ∧ b'.length ≤ b.length + 1 ∧ frV (some y13) = true ∧ frV (some y14) = true ∧ frV (some y17) = true := by
  have t1 := tk_lt dk (m := (b.length : Int) + 1) (by omega)
  obtain ⟨n, hn⟩ : ∃ n : Nat, tk dk ((b.length : Int) + 1) = n := ⟨(tk dk ((b.length : Int) + 1)).toNat, by omega⟩
  have t2 := tk_lt dk.dropLast (m := 3) (by decide)
  have t3 := tk_lt dk.dropLast.dropLast (m := 14) (by decide)
  obtain ⟨j, hj⟩ : ∃ j : Nat, tk dk.dropLast.dropLast 14 = j := ⟨(tk dk.dropLast.dropLast 14).toNat, by omega⟩
  have hj14 : j < byts.length := by show j < 14; omega
  have eb := at_ints byts hj14
  have gb := (by decide : ∀ x ∈ byts, isNum x 0 256 = true) _ (List.getElem_mem hj14)
  generalize byts[j] = y at *
  simp only [byts, List.map_cons, List.map_nil] at eb
  have p0 : (0 : Int) < (b.length : Int) + 1 := by omega
  have w1 := F__law_take_eq dk ((b.length : Int) + 1) p0
  have w2 := F__law_take_eq dk.dropLast 3 (by decide)
  have w3 := F__law_take_eq dk.dropLast.dropLast 14 (by decide)
  rw [hn] at w1
  rw [hj] at w3
  generalize tk dk.dropLast 3 = kd at *
  generalize dk.dropLast.dropLast.dropLast = d3 at *
  generalize dk.dropLast.dropLast = d2 at *
  generalize dk.dropLast = d1 at *
  have c1 : cutD (b.map .int) none (some (n : Int)) = (b.take n).map .int := by rw [cutD_to]; simp
  have c2 : cutD (b.map .int) (some (n : Int)) none = (b.drop n).map .int := by rw [cutD_from]; simp
  have c3 : cutD (b.map .int) (some ((n : Int) + 1)) none = (b.drop (n + 1)).map .int := by
    have := cutD_from (b.map .int) (n + 1)
    rw [Int.natCast_add, Int.natCast_one] at this
    rw [this]; simp
  have bt : Byt (b.take n) := fun x hx => hb x (List.mem_of_mem_take hx)
  have bd : ∀ m, Byt (b.drop m) := fun m x hx => hb x (List.mem_of_mem_drop hx)
  have bd1 := bd n
  have bd2 := bd (n + 1)
  have l1 : (b.take n).length + (b.drop n).length = b.length := by simp; omega
  have l2 : (b.drop (n + 1)).length ≤ (b.drop n).length := by simp; omega
  generalize b.take n = p at *
  generalize b.drop n = q at *
  generalize b.drop (n + 1) = q' at *
  have app : ∀ {u v : List Int}, Byt u → Byt v → Byt (u ++ v) := fun hu hv x hx => (List.mem_append.mp hx).elim (hu x) (hv x)
  have by1 : Byt [y] := fun x hx => by rw [List.mem_singleton.mp hx]; exact gb
  rcases (by omega : kd = 0 ∨ kd = 1 ∨ kd = 2) with rfl | rfl | rfl
  · refine ⟨p ++ [y] ++ q, d3, some (.sh, .int n), some (.sh, .int y), some (.sh, .int 0), ?_, app (app bt by1) bd1, by simp; omega, rfl, rfl, rfl⟩
    have m1 : p.length + 1 ≤ 16777216 := by omega
    have m2 : p.length + 1 + q.length ≤ 16777216 := by omega
    simp [w1, w2, w3, eb, f13, f14, f17, c1, c2, m1, m2, IL]
  · refine ⟨p ++ q', d3, some (.sh, .int n), some (.sh, .int y), some (.sh, .int 1), ?_, app bt bd2, by simp; omega, rfl, rfl, rfl⟩
    have m1 : p.length ≤ 16777216 := by omega
    have m2 : p.length + q'.length ≤ 16777216 := by omega
    simp [w1, w2, w3, eb, f13, f14, f17, c1, c3, m1, m2, IL]
  · refine ⟨p ++ [y] ++ q', d3, some (.sh, .int n), some (.sh, .int y), some (.sh, .int 2), ?_, app (app bt by1) bd2, by simp; omega, rfl, rfl, rfl⟩
    have m1 : p.length + 1 ≤ 16777216 := by omega
    have m2 : p.length + 1 + q'.length ≤ 16777216 := by omega
    simp [w1, w2, w3, eb, f13, f14, f17, c1, c3, m1, m2, IL]
end
end K16

namespace K16
open PySem PySem.Spec L2 DS
section
variable (S : D) (x2 x3 x4 x5 x6 x7 x8 x9 x10 x11 x12 x13 x14 x15 x17 : Option Bd)
theorem s4_loop (x2 x3 x4 x5 x8 x9 x10 x11 x12 x15 : Option Bd) : ∀ (items : List D) (dk b : List Int) (x7 x13 x14 x17 : Option Bd), Byt b → b.length + items.length ≤ 100 → frV (some x7) = true → frV (some x13) = true → frV (some x14) = true → frV (some x17) = true →
    ∃ b' dk' y7 y13 y14 y17, forL (gSlot 7) s_law_4 items (Tn S dk x2 x3 x4 x5 (some (.ow, IL b)) x7 x8 x9 x10 x11 x12 x13 x14 x15 x17) = .nx (Tn S dk' x2 x3 x4 x5 (some (.ow, IL b')) y7 x8 x9 x10 x11 x12 y13 y14 x15 y17) ∧ Byt b' ∧ b'.length ≤ b.length + items.length ∧ frV (some y7) = true ∧ frV (some y13) = true ∧ frV (some y14) = true ∧ frV (some y17) = true
  | [], dk, b, x7, x13, x14, x17, hb, hl, f7, f13, f14, f17 => ⟨b, dk, x7, x13, x14, x17, rfl, hb, by simp, f7, f13, f14, f17⟩
  | d :: items, dk, b, x7, x13, x14, x17, hb, hl, f7, f13, f14, f17 => by
    simp only [List.length_cons] at hl
    obtain ⟨b1, d1, z13, z14, z17, e, hb1, l1, g13, g14, g17⟩ := s4_step S x2 x3 x4 x5 (some (.sh, d)) x8 x9 x10 x11 x12 x13 x14 x15 x17 dk b hb (by omega) f13 f14 f17
    obtain ⟨b2, d2, y7, y13, y14, y17, e2, hb2, l2, k7, k13, k14, k17⟩ := s4_loop x2 x3 x4 x5 x8 x9 x10 x11 x12 x15 items d1 b1 (some (.sh, d)) z13 z14 z17 hb1 (by omega) rfl g13 g14 g17
    refine ⟨b2, d2, y7, y13, y14, y17, ?_, hb2, by simp; omega, k7, k13, k14, k17⟩
    rw [forL_c]
    simp only [gSlot_e, free_e, List.getElem?_cons_succ, List.getElem?_cons_zero, f7, putV_t, List.set_cons_succ, List.set_cons_zero, fgV_e, e, lp_nx]
    exact e2
theorem u20 (dk b : List Int) (hb : Byt b) (hl : b.length ≤ 50) (f7 : frV (some x7) = true) (f13 : frV (some x13) = true) (f14 : frV (some x14) = true) (f17 : frV (some x17) = true) :
    ∃ b' dk' y7 y13 y14 y17, u_law_20 (Tn S dk x2 x3 x4 x5 (some (.ow, IL b)) x7 x8 x9 x10 x11 x12 x13 x14 x15 x17) = .nx (Tn S dk' x2 x3 x4 x5 (some (.ow, IL b')) y7 x8 x9 x10 x11 x12 y13 y14 x15 y17) ∧ Byt b' ∧ b'.length ≤ 100 ∧ frV (some y7) = true ∧ frV (some y13) = true ∧ frV (some y14) = true ∧ frV (some y17) = true := by
  have t4 := tk_lt dk (m := 4) (by decide)
  obtain ⟨b', dk', y7, y13, y14, y17, e, hb', l', k7, k13, k14, k17⟩ := s4_loop S x2 x3 x4 x5 x8 x9 x10 x11 x12 x15 (rngD 0 (tk dk 4).toNat) dk.dropLast b x7 x13 x14 x17 hb (by rw [rngD_len]; omega) f7 f13 f14 f17
  rw [rngD_len] at l'
  refine ⟨b', dk', y7, y13, y14, y17, ?_, hb', by omega, k7, k13, k14, k17⟩
  rw [u_law_20_e]
  have r1 : -4611686018427387904 ≤ tk dk 4 := by omega
  have r2 : tk dk 4 < 4611686018427387904 := by omega
  simp [F__law_take_eq, r1, r2, e]
theorem u21 (dk b : List Int) (hl : b.length ≤ 100) (f8 : frV (some x8) = true) : u_law_21 (Tn S dk x2 x3 x4 x5 (some (.ow, IL b)) x7 x8 x9 x10 x11 x12 x13 x14 x15 x17) = .nx (Tn S dk x2 x3 x4 x5 (some (.sh, IL b)) x7 (some (.ow, .lst ((pcs b).map rowD))) x9 x10 x11 x12 x13 x14 x15 x17) := by
  rw [u_law_21_e]
  simp [F__law_pieces_eq b (by omega), f8]
theorem lc_sizes (f : XE) (hf : f = xVar 20) (ps : List Pc) (hl : ps.length ≤ 100) (E : En) (he : E = Tn S dk x2 x3 x4 x5 x6 x7 x8 x9 x10 x11 x12 x13 x14 x15 x17) : lcL (gTupD 2 (gConsD (gSlot 19) (gConsD (gSlot 20) gNilD))) xYes f [19, 20] (ps.map rowD) E [] = .ok (ps.map (fun p => D.int (p.2 : Int)), E) := by
  subst hf he
  have el := lc_map (g := gTupD 2 (gConsD (gSlot 19) (gConsD (gSlot 20) gNilD))) (t := xYes) (f := xVar 20) (vs := [19, 20]) (E := Tn S dk x2 x3 x4 x5 x6 x7 x8 x9 x10 x11 x12 x13 x14 x15 x17) (φ := rowD) (ψ := fun p => D.int (p.2 : Int)) (xs := ps) (acc := []) (fun x hx rest acc ha => by
    rw [lcL_c]
    simp [ha, rowD]) (by simp; omega)
  rwa [List.nil_append] at el
theorem u22 (dk b : List Int) (hb : Byt b) (hl : b.length ≤ 100) : u_law_22 (Tn S dk x2 x3 x4 x5 (some (.sh, IL b)) x7 (some (.ow, .lst ((pcs b).map rowD))) x9 x10 x11 x12 x13 x14 x15 x17) = .nx (Tn S dk x2 x3 x4 x5 (some (.sh, IL b)) x7 (some (.sh, .lst ((pcs b).map rowD))) x9 x10 x11 x12 x13 x14 x15 x17) := by
  rw [u_law_22_e]
  have e1 : gEq true (.lst ((pcs b).map rowD)) (.lst ((pcs b).map rowD)) = some (.s (.bl false)) := gEq_eq (n := 3) true (Pl_rows _)
  have pl := pcs_len _ b rfl
  have el := lc_sizes S x2 x3 x4 x5 (some (.sh, IL b)) x7 (some (.sh, .lst ((pcs b).map rowD))) x9 x10 x11 x12 x13 x14 x15 x17 (dk := dk) e_law_5 rfl (pcs b) (by omega) _ rfl
  have e2 := szs_pcs _ b rfl
  simp [F_pieces_of_eq b hb (by omega), e1, el, intsOf_szs, sum_szs, e2]
theorem rnV_len (E : En) (n : Nat) (h : n ≤ 1000000) : rnV E (some [.int (n : Int)]) = .ok ((List.range n).map fun (i : Nat) => D.int (i : Int), E) := by
  rw [rnV_i, if_pos ⟨by omega, by omega⟩, Int.toNat_natCast, rngD_0]
theorem q0 : gEq false (.lst []) (.lst []) = some (.s (.bl true)) := gEq_eq (n := 1) false (Pl.il (xs := []))
theorem q1 (v : Int) : gEq false (.lst [.int v]) (.lst []) = some (.s (.bl false)) := gEq_ne (n := 1) false (Pl.il (xs := [v])) (Pl.il (xs := [])) (by simp)
theorem noSign_eq {ps : List Pc} {k : Nat} (hk' : k < ps.length) : noSign ps k = ps[k].1.isNone := by
  unfold noSign
  rw [List.getElem?_eq_getElem hk']
  generalize ps[k] = p
  obtain ⟨o, h⟩ := p
  cases o <;> rfl
theorem q6_turn (dk : List Int) (ps : List Pc) (k : Nat) (hk' : k < ps.length) : q_law_6 ((Tn S dk x2 x3 x4 x5 x6 x7 (some (.sh, .lst (ps.map rowD))) x9 x10 x11 x12 x13 x14 x15 x17).set 16 (some (.sh, .int k))) = .ok (noSign ps k, (Tn S dk x2 x3 x4 x5 x6 x7 (some (.sh, .lst (ps.map rowD))) x9 x10 x11 x12 x13 x14 x15 x17).set 16 (some (.sh, .int k))) := by
  rw [noSign_eq hk']
  have e1 : (ps.map rowD)[k]? = some (rowD ps[k]) := by rw [List.getElem?_map, List.getElem?_eq_getElem hk']; rfl
  generalize ps[k] = p at *
  generalize ps.map rowD = L at *
  obtain ⟨o, h⟩ := p
  cases o with
  | none => simp [e1, rowD, IL, q0]
  | some v => simp [e1, rowD, IL, q1]
theorem lc_wrong (dk : List Int) (ps : List Pc) (hl : ps.length ≤ 100) (E : En) (he : E = Tn S dk x2 x3 x4 x5 x6 x7 (some (.sh, .lst (ps.map rowD))) x9 x10 x11 x12 x13 x14 x15 x17) : lcL (gSlot 16) q_law_6 e_law_6 [16] ((List.range ps.length).map fun (k : Nat) => D.int (k : Int)) E [] = .ok ((wr ps).map (fun (k : Nat) => D.int (k : Int)), E) := by
  have el := lc_filter (g := gSlot 16) (t := q_law_6) (f := e_law_6) (vs := [16]) (E := E) (φ := fun (k : Nat) => D.int (k : Int)) (ψ := fun (k : Nat) => D.int (k : Int)) (p := noSign ps) (xs := List.range ps.length) (acc := []) (fun k hk rest acc ha => by
    have hk' : k < ps.length := List.mem_range.mp hk
    have q := q6_turn S x2 x3 x4 x5 x6 x7 x9 x10 x11 x12 x13 x14 x15 x17 dk ps k hk'
    subst he
    rw [lcL_c]
    simp only [gSlot_e, free_e, List.getElem?_cons_succ, List.getElem?_cons_zero, frV_none, putV_t, lcG_e]
    rw [q, rn_ok, rb_ok, lcC_e]
    cases noSign ps k with
    | true => simp [ha]
    | false => simp) (by rw [List.length_range]; simp; omega)
  exact el
theorem u23 (dk : List Int) (ps : List Pc) (hl : ps.length ≤ 100) (f9 : frV (some x9) = true) : u_law_23 (Tn S dk x2 x3 x4 x5 x6 x7 (some (.sh, .lst (ps.map rowD))) x9 x10 x11 x12 x13 x14 x15 x17) = .nx (Tn S dk x2 x3 x4 x5 x6 x7 (some (.sh, .lst (ps.map rowD))) (some (.ow, .lst ((wr ps).map fun (k : Nat) => D.int (k : Int)))) x10 x11 x12 x13 x14 x15 x17) := by
  rw [u_law_23_e]
  have el := lc_wrong S x2 x3 x4 x5 x6 x7 x9 x10 x11 x12 x13 x14 x15 x17 dk ps hl _ rfl
  have r1 := fun E => rnV_len E ps.length (by omega)
  rw [sSet_e, xLc_e, xiRng1_e]
  have q : xL gLen (xsC (xVar 8) xs0) (Tn S dk x2 x3 x4 x5 x6 x7 (some (.sh, .lst (ps.map rowD))) x9 x10 x11 x12 x13 x14 x15 x17) = .ok (.s (.int ps.length), Tn S dk x2 x3 x4 x5 x6 x7 (some (.sh, .lst (ps.map rowD))) x9 x10 x11 x12 x13 x14 x15 x17) := by
    simp
  rw [xsC_e, q, rb_ok, kCa_e, xs0_e, rb_ok, kCb_e, rb_ok, kRa_e]
  simp only [nm_s, dats_cons, dats_nil, dat_s, consO_some, r1, rb_ok, kLc_e]
  have z : noOwn (Tn S dk x2 x3 x4 x5 x6 x7 (some (.sh, .lst (ps.map rowD))) x9 x10 x11 x12 x13 x14 x15 x17) [16] = true := by simp
  have z2 : wipeE (Tn S dk x2 x3 x4 x5 x6 x7 (some (.sh, .lst (ps.map rowD))) x9 x10 x11 x12 x13 x14 x15 x17) [16] = Tn S dk x2 x3 x4 x5 x6 x7 (some (.sh, .lst (ps.map rowD))) x9 x10 x11 x12 x13 x14 x15 x17 := by simp
  rw [if_pos z, z2, el, rb_ok, lcE_e]
  simp [f9]
end
end K16

namespace K16
open PySem PySem.Spec L2 DS
section
variable (S : D) (x2 x3 x4 x5 x6 x7 x8 x9 x10 x11 x12 x13 x14 x15 x17 : Option Bd)
abbrev wrD (ps : List Pc) : D := .lst ((wr ps).map fun (k : Nat) => D.int (k : Int))
theorem wr_eq (ps : List Pc) : gEq true (wrD ps) (.lst []) = some (.s (.bl (!(wr ps).isEmpty))) := by
  have e : wrD ps = IL ((wr ps).map fun (k : Nat) => (k : Int)) := by simp [wrD, IL]
  rw [e]
  cases h : wr ps with
  | nil => exact gEq_eq (n := 1) true (Pl.il (xs := []))
  | cons k ks => exact gEq_ne (n := 1) true .il (Pl.il (xs := [])) (by simp)
theorem u24 (dk : List Int) (ps : List Pc) (hl : ps.length ≤ 100) (f10 : frV (some x10) = true) : u_law_24 (Tn S dk x2 x3 x4 x5 x6 x7 (some (.sh, .lst (ps.map rowD))) (some (.ow, wrD ps)) x10 x11 x12 x13 x14 x15 x17) = .nx (Tn S dk x2 x3 x4 x5 x6 x7 (some (.sh, .lst (ps.map rowD))) (some (.ow, wrD ps)) (some (.sh, fwD ps 0 (wr ps))) x11 x12 x13 x14 x15 x17) := by
  rw [u_law_24_e]
  have e1 := wr_eq ps
  unfold wrD at e1 ⊢
  cases h : wr ps with
  | nil =>
    rw [h] at e1
    simp at e1
    simp [e1, f10, fwD]
  | cons k ks =>
    rw [h] at e1
    simp only [List.map_cons, List.isEmpty_cons, Bool.not_false] at e1
    have c : cutD (ps.map rowD) none (some (k : Int)) = (ps.take k).map rowD := by rw [cutD_to]; simp
    have el := lc_sizes S x2 x3 x4 x5 x6 x7 (some (.sh, .lst (ps.map rowD))) (some (.ow, .lst ((k :: ks).map fun (k : Nat) => D.int (k : Int)))) x10 x11 x12 x13 x14 x15 x17 (dk := dk) e_law_7 rfl (ps.take k) (by simp; omega) _ rfl
    have e2 := intsOf_szs (ps.take k)
    have e3 := sum_szs (ps.take k)
    have e4 : fwD ps 0 (k :: ks) = .int (szs (ps.take k) : Int) := by simp [fwD]
    rw [e4]
    generalize ps.take k = pk at *
    simp only [List.map_cons] at el
    simp [e1, f10, c, el, e2, e3]
theorem rows_flat (ps : List Pc) : rowsOf (ps.map fun p => IL p.1.toList) = some (ps.map fun p => p.1.toList.map D.int) := by
  induction ps with
  | nil => rfl
  | cons p ps ih => simp [rowsOf, ih]
theorem flat_all (ps : List Pc) (h : ps.any (fun p => p.1.isNone) = false) : (ps.map fun p => p.1.toList.map D.int).flatten = ps.map fun p => optD p.1 := by
  induction ps with
  | nil => rfl
  | cons p ps ih =>
    rw [List.any_cons, Bool.or_eq_false_iff] at h
    rw [List.map_cons, List.flatten_cons, ih h.2, List.map_cons]
    obtain ⟨o, m⟩ := p
    cases o with
    | none => simp at h
    | some v => rfl
end
/-- a list summed up from [] -/
theorem xSumL_e {f st : XE} {E E1 E2 : En} {e1 : Ev} {rows : List D} {xss : List (List D)} (h1 : f E = .ok (e1, E1)) (h2 : st E1 = .ok (.o (.lst []), E2)) (h3 : dat E2 e1 = some (.lst rows)) (h4 : rowsOf rows = some xss) (h5 : xss.flatten.length ≤ 16777216) : xSumL f st E = .ok (.s (.lst xss.flatten), E2) := by
  unfold xSumL
  rw [h1, rb_ok, h2, rb_ok, h3]
  show (Res.of (rowsOf rows)).bind _ = _
  rw [h4]
  show (if xss.flatten.length ≤ sizeLine then _ else _) = _
  rw [if_pos (by rw [sizeLine_eq]; exact h5)]
section
variable (S : D) (x2 x3 x4 x5 x6 x7 x8 x9 x10 x11 x12 x13 x14 x15 x17 : Option Bd)
theorem fwD_pl (ps : List Pc) (w : List Nat) : Pl 0 (fwD ps 0 w) := by cases w; exact .non; exact .int
theorem u25 (dk b : List Int) (hb : Byt b) (hl : b.length ≤ 100) : u_law_25 (Tn S dk x2 x3 x4 x5 (some (.sh, IL b)) x7 (some (.sh, .lst ((pcs b).map rowD))) (some (.ow, wrD (pcs b))) (some (.sh, fwD (pcs b) 0 (wr (pcs b)))) x11 x12 x13 x14 x15 x17) = .nx (Tn S dk x2 x3 x4 x5 (some (.sh, IL b)) x7 (some (.sh, .lst ((pcs b).map rowD))) (some (.ow, wrD (pcs b))) (some (.sh, fwD (pcs b) 0 (wr (pcs b)))) x11 x12 x13 x14 x15 x17) := by
  rw [u_law_25_e]
  have pl := pcs_len _ b rfl
  have e1 := wr_eq (pcs b)
  have e2 : gEq true (fwD (pcs b) 0 (wr (pcs b))) (fwD (pcs b) 0 (wr (pcs b))) = some (.s (.bl false)) := gEq_eq true (fwD_pl _ _)
  have e3 := F_first_wrong_eq b hb (by omega)
  rw [fw_eq] at e3
  have e4 := F__law_read_eq b hb (by omega)
  have e5 := wr_any (pcs b)
  generalize fwD (pcs b) 0 (wr (pcs b)) = fd at *
  generalize (wr (pcs b)).isEmpty = we at *
  generalize wrD (pcs b) = wd at *
  cases we with
  | false =>
    rw [e5] at e4
    simp at e4 e1
    have e6 : gEq true (.str "piece") (.str "piece") = some (.s (.bl false)) := gEq_eq (n := 0) true (Pl.str (by decide +kernel))
    simp [e3, e2, e4, e1, e6]
  | true =>
    have h9 : (pcs b).any (fun p => p.1.isNone) = false := by rw [e5]; rfl
    rw [h9] at e4
    simp at e4 e1
    have e6 : gEq true (.lst ((pcs b).map fun p => optD p.1)) (.lst ((pcs b).map fun p => optD p.1)) = some (.s (.bl false)) := gEq_eq (n := 1) true (Pl.lst fun d hd => by
      obtain ⟨p, _, rfl⟩ := List.mem_map.mp hd
      exact Pl_opt _)
    have el := lc_map (g := gTupD 2 (gConsD (gSlot 19) (gConsD (gSlot 20) gNilD))) (t := xYes) (f := e_law_8) (vs := [19, 20]) (E := Tn S dk x2 x3 x4 x5 (some (.sh, IL b)) x7 (some (.sh, .lst ((pcs b).map rowD))) (some (.ow, wd)) (some (.sh, fd)) x11 x12 x13 x14 x15 x17) (φ := rowD) (ψ := fun p => IL p.1.toList) (xs := pcs b) (acc := []) (fun x hx rest acc ha => by
      rw [lcL_c]
      simp [ha, rowD]) (by simp; omega)
    rw [List.nil_append] at el
    have hf := flat_all (pcs b) h9
    have ex : xSumL (xLc (xiSeq (xVar 8)) (gTupD 2 (gConsD (gSlot 19) (gConsD (gSlot 20) gNilD))) xYes e_law_8 [19, 20]) (xLst xs0) (Tn S dk x2 x3 x4 x5 (some (.sh, IL b)) x7 (some (.sh, .lst ((pcs b).map rowD))) (some (.ow, wd)) (some (.sh, fd)) x11 x12 x13 x14 x15 x17) = .ok (.s (.lst ((pcs b).map fun p => optD p.1)), Tn S dk x2 x3 x4 x5 (some (.sh, IL b)) x7 (some (.sh, .lst ((pcs b).map rowD))) (some (.ow, wd)) (some (.sh, fd)) x11 x12 x13 x14 x15 x17) := by
      rw [← hf]
      generalize hE : Tn S dk x2 x3 x4 x5 (some (.sh, IL b)) x7 (some (.sh, .lst ((pcs b).map rowD))) (some (.ow, wd)) (some (.sh, fd)) x11 x12 x13 x14 x15 x17 = E at *
      exact xSumL_e (e1 := .o (.lst ((pcs b).map fun p => IL p.1.toList))) (E1 := E) (E2 := E) (by subst hE; simp [el]) (by simp) rfl (rows_flat _) (by rw [hf]; simp; omega)
    simp [e3, e2, e4, e1, e6, ex]
def rwS (s : Int) (p : Pc) : List D := match p.1 with
  | none => [.int s]
  | some v => [.int v]
theorem flat_with (ps : List Pc) (s : Int) : (ps.map (rwS s)).flatten = (ps.map fun p => p.1.getD s).map D.int := by
  induction ps with
  | nil => rfl
  | cons p ps ih =>
    rw [List.map_cons, List.flatten_cons, ih]
    obtain ⟨o, m⟩ := p
    cases o <;> rfl
theorem rows_with (ps : List Pc) (s : Int) : rowsOf (ps.map fun p => D.lst (rwS s p)) = some (ps.map (rwS s)) := by
  induction ps with
  | nil => rfl
  | cons p ps ih => simp [rowsOf, ih]
theorem q0' : gEq true (.lst []) (.lst []) = some (.s (.bl false)) := gEq_eq (n := 1) true (Pl.il (xs := []))
theorem q1' (v : Int) : gEq true (.lst [.int v]) (.lst []) = some (.s (.bl true)) := gEq_ne (n := 1) true (Pl.il (xs := [v])) (Pl.il (xs := [])) (by simp)
theorem u27 (dk b : List Int) (hb : Byt b) (hl : b.length ≤ 100) (s : Int) (hs : isNum s 0 1114112 = true) : u_law_27 (Tn S dk x2 x3 x4 x5 (some (.sh, IL b)) x7 (some (.sh, .lst ((pcs b).map rowD))) x9 x10 (some (.sh, .int s)) x12 x13 x14 x15 x17) = .nx (Tn S dk x2 x3 x4 x5 (some (.sh, IL b)) x7 (some (.sh, .lst ((pcs b).map rowD))) x9 x10 (some (.sh, .int s)) x12 x13 x14 x15 x17) := by
  rw [u_law_27_e]
  have pl := pcs_len _ b rfl
  have e4 := F_read_with_eq b hb (by omega) s hs
  have el := lc_map (g := gTupD 2 (gConsD (gSlot 19) (gConsD (gSlot 20) gNilD))) (t := xYes) (f := e_law_9) (vs := [19, 20]) (E := Tn S dk x2 x3 x4 x5 (some (.sh, IL b)) x7 (some (.sh, .lst ((pcs b).map rowD))) x9 x10 (some (.sh, .int s)) x12 x13 x14 x15 x17) (φ := rowD) (ψ := fun p => D.lst (rwS s p)) (xs := pcs b) (acc := []) (fun x hx rest acc ha => by
      rw [lcL_c]
      obtain ⟨o, m⟩ := x
      cases o with
      | none => simp [ha, rowD, IL, q0', rwS]
      | some v => simp [ha, rowD, IL, q1', rwS]) (by simp; omega)
  rw [List.nil_append] at el
  have hf := flat_with (pcs b) s
  have ex : xSumL (xLc (xiSeq (xVar 8)) (gTupD 2 (gConsD (gSlot 19) (gConsD (gSlot 20) gNilD))) xYes e_law_9 [19, 20]) (xLst xs0) (Tn S dk x2 x3 x4 x5 (some (.sh, IL b)) x7 (some (.sh, .lst ((pcs b).map rowD))) x9 x10 (some (.sh, .int s)) x12 x13 x14 x15 x17) = .ok (.s (.lst (((pcs b).map fun p => p.1.getD s).map .int)), Tn S dk x2 x3 x4 x5 (some (.sh, IL b)) x7 (some (.sh, .lst ((pcs b).map rowD))) x9 x10 (some (.sh, .int s)) x12 x13 x14 x15 x17) := by
    rw [← hf]
    generalize hE : Tn S dk x2 x3 x4 x5 (some (.sh, IL b)) x7 (some (.sh, .lst ((pcs b).map rowD))) x9 x10 (some (.sh, .int s)) x12 x13 x14 x15 x17 = E at *
    exact xSumL_e (e1 := .o (.lst ((pcs b).map fun p => D.lst (rwS s p)))) (E1 := E) (E2 := E) (by subst hE; simp [el]) (by simp) rfl (rows_with _ _) (by rw [hf]; simp; omega)
  generalize ((pcs b).map fun p => p.1.getD s) = L at *
  have e6 : gEq true (IL L) (IL L) = some (.s (.bl false)) := gEq_eq (n := 1) true .il
  simp [e4, ex, e6]
end
end K16

namespace K16
open PySem PySem.Spec L2 DS
section
variable (S : D) (x2 x3 x4 x5 x6 x7 x8 x9 x10 x11 x12 x13 x14 x15 x17 : Option Bd)
theorem lc_sizes16 (x16 : Option Bd) (f : XE) (hf : f = xVar 20) (ps : List Pc) (hl : ps.length ≤ 100) (E : En) (he : E = [some (.sh, S), some (.ow, IL dk), x2, x3, x4, x5, x6, x7, x8, x9, x10, x11, x12, x13, x14, x15, x16, x17, none, none, none, none]) : lcL (gTupD 2 (gConsD (gSlot 19) (gConsD (gSlot 20) gNilD))) xYes f [19, 20] (ps.map rowD) E [] = .ok (ps.map (fun p => D.int (p.2 : Int)), E) := by
  subst hf he
  have el := lc_map (g := gTupD 2 (gConsD (gSlot 19) (gConsD (gSlot 20) gNilD))) (t := xYes) (f := xVar 20) (vs := [19, 20]) (E := [some (.sh, S), some (.ow, IL dk), x2, x3, x4, x5, x6, x7, x8, x9, x10, x11, x12, x13, x14, x15, x16, x17, none, none, none, none]) (φ := rowD) (ψ := fun p => D.int (p.2 : Int)) (xs := ps) (acc := []) (fun x hx rest acc ha => by
    rw [lcL_c]
    simp [ha, rowD]) (by simp; omega)
  rwa [List.nil_append] at el
abbrev bgD (ps : List Pc) : D := .lst ((bg ps).map fun (k : Nat) => D.int (k : Int))
theorem lc_begins (dk : List Int) (ps : List Pc) (hl : ps.length ≤ 100) (E : En) (he : E = Tn S dk x2 x3 x4 x5 x6 x7 (some (.sh, .lst (ps.map rowD))) x9 x10 x11 x12 x13 x14 x15 x17) : lcL (gSlot 16) xYes e_law_11 [16] ((List.range ps.length).map fun (k : Nat) => D.int (k : Int)) E [] = .ok ((bg ps).map (fun (k : Nat) => D.int (k : Int)), E) := by
  have el := lc_map (g := gSlot 16) (t := xYes) (f := e_law_11) (vs := [16]) (E := E) (φ := fun (k : Nat) => D.int (k : Int)) (ψ := fun (k : Nat) => D.int (szs (ps.take k) : Int)) (xs := List.range ps.length) (acc := []) (fun k hk rest acc ha => by
    have c : cutD (ps.map rowD) none (some (k : Int)) = (ps.take k).map rowD := by rw [cutD_to]; simp
    have el := lc_sizes16 S x2 x3 x4 x5 x6 x7 (some (.sh, .lst (ps.map rowD))) x9 x10 x11 x12 x13 x14 x15 x17 (dk := dk) (some (.sh, .int k)) e_law_10 rfl (ps.take k) (by simp; omega) _ rfl
    have e2 := intsOf_szs (ps.take k)
    have e3 := sum_szs (ps.take k)
    subst he
    rw [lcL_c]
    generalize ps.take k = pk at *
    simp [c, el, e2, e3, ha]) (by rw [List.length_range]; simp; omega)
  rw [List.nil_append] at el
  rw [el, bg, List.map_map]
  rfl
theorem u28 (dk : List Int) (ps : List Pc) (hl : ps.length ≤ 100) (f12 : frV (some x12) = true) : u_law_28 (Tn S dk x2 x3 x4 x5 x6 x7 (some (.sh, .lst (ps.map rowD))) x9 x10 x11 x12 x13 x14 x15 x17) = .nx (Tn S dk x2 x3 x4 x5 x6 x7 (some (.sh, .lst (ps.map rowD))) x9 x10 x11 (some (.ow, bgD ps)) x13 x14 x15 x17) := by
  rw [u_law_28_e]
  have el := lc_begins S x2 x3 x4 x5 x6 x7 x9 x10 x11 x12 x13 x14 x15 x17 dk ps hl _ rfl
  have r1 := fun E => rnV_len E ps.length (by omega)
  rw [sSet_e, xLc_e, xiRng1_e]
  have q : xL gLen (xsC (xVar 8) xs0) (Tn S dk x2 x3 x4 x5 x6 x7 (some (.sh, .lst (ps.map rowD))) x9 x10 x11 x12 x13 x14 x15 x17) = .ok (.s (.int ps.length), Tn S dk x2 x3 x4 x5 x6 x7 (some (.sh, .lst (ps.map rowD))) x9 x10 x11 x12 x13 x14 x15 x17) := by
    simp
  rw [xsC_e, q, rb_ok, kCa_e, xs0_e, rb_ok, kCb_e, rb_ok, kRa_e]
  simp only [nm_s, dats_cons, dats_nil, dat_s, consO_some, r1, rb_ok, kLc_e]
  have z : noOwn (Tn S dk x2 x3 x4 x5 x6 x7 (some (.sh, .lst (ps.map rowD))) x9 x10 x11 x12 x13 x14 x15 x17) [16] = true := by simp
  have z2 : wipeE (Tn S dk x2 x3 x4 x5 x6 x7 (some (.sh, .lst (ps.map rowD))) x9 x10 x11 x12 x13 x14 x15 x17) [16] = Tn S dk x2 x3 x4 x5 x6 x7 (some (.sh, .lst (ps.map rowD))) x9 x10 x11 x12 x13 x14 x15 x17 := by simp
  rw [if_pos z, z2, el, rb_ok, lcE_e]
  simp [f12]
theorem pcs_ne {b : List Int} (h : b ≠ []) : pcs b ≠ [] := by rw [pcs_cons h]; simp
theorem bg_len (ps : List Pc) : (bg ps).length = ps.length := by simp [bg]
theorem s13_step (dk b : List Int) (hb : Byt b) (hl : b.length ≤ 100) (a : Nat) (ha : a < b.length) (k12 : Kd) (hk : k12 = .ow ∨ k12 = .sh) :
    s_law_13 (Tn S dk x2 x3 x4 x5 (some (.sh, IL b)) x7 x8 x9 x10 x11 (some (k12, bgD (pcs b))) (some (.sh, .int a)) x14 x15 x17) = .nx (Tn S dk x2 x3 x4 x5 (some (.sh, IL b)) x7 x8 x9 x10 x11 (some (.sh, bgD (pcs b))) (some (.sh, .int a)) x14 x15 x17) := by
  have pl := pcs_len _ b rfl
  have e3 := F_begin_at_eq b hb (by omega) a ha
  have el := lc_filter (g := gSlot 21) (t := q_law_12) (f := e_law_12) (vs := [21]) (E := Tn S dk x2 x3 x4 x5 (some (.sh, IL b)) x7 x8 x9 x10 x11 (some (.sh, bgD (pcs b))) (some (.sh, .int a)) x14 x15 x17) (φ := fun (k : Nat) => D.int (k : Int)) (ψ := fun (k : Nat) => D.int (k : Int)) (p := fun k => decide (k ≤ a)) (xs := bg (pcs b)) (acc := []) (fun k hk rest acc ha => by
    rw [lcL_c]
    by_cases q : k ≤ a
    · have q2 : (k : Int) ≤ (a : Int) := by omega
      simp [q, q2, ha]
    · have q2 : ¬ (k : Int) ≤ (a : Int) := by omega
      simp [q, q2]) (by simp [bg_len]; omega)
  rw [List.nil_append] at el
  have m := max_ba a (pcs b) 0 (Nat.zero_le _) (by rw [szs_pcs _ b rfl]; omega)
  have e0 : (bg (pcs b)).map (0 + ·) = bg (pcs b) := by simp
  rw [e0] at m
  have m2 : intsOf (((bg (pcs b)).filter fun k => decide (k ≤ a)).map fun (k : Nat) => D.int (k : Int)) = some (((bg (pcs b)).filter fun k => decide (k ≤ a)).map fun (k : Nat) => (k : Int)) := by
    rw [show (((bg (pcs b)).filter fun k => decide (k ≤ a)).map fun (k : Nat) => D.int (k : Int)) = (((bg (pcs b)).filter fun k => decide (k ≤ a)).map fun (k : Nat) => (k : Int)).map D.int by simp, intsOf_map]
  generalize (((bg (pcs b)).filter fun k => decide (k ≤ a)).map fun (k : Nat) => D.int (k : Int)) = L at *
  generalize (((bg (pcs b)).filter fun k => decide (k ≤ a)).map fun (k : Nat) => (k : Int)) = L2 at *
  rcases hk with rfl | rfl
  · simp [e3, el, m2, m]
  · simp [e3, el, m2, m]
end
end K16

namespace K16
open PySem PySem.Spec L2 DS
section
variable (S : D) (x2 x3 x4 x5 x6 x7 x8 x9 x10 x11 x12 x13 x14 x15 x17 : Option Bd)
theorem s13_loop (dk b : List Int) (hb : Byt b) (hl : b.length ≤ 100) (x2 x3 x4 x5 x7 x8 x9 x10 x11 x14 x15 x17 : Option Bd) : ∀ (as : List Nat) (k12 : Kd) (x13 : Option Bd), (∀ a ∈ as, a < b.length) → (k12 = .ow ∨ k12 = .sh) → frV (some x13) = true →
    ∃ k' y13, forL (gSlot 13) s_law_13 (as.map fun (a : Nat) => D.int (a : Int)) (Tn S dk x2 x3 x4 x5 (some (.sh, IL b)) x7 x8 x9 x10 x11 (some (k12, bgD (pcs b))) x13 x14 x15 x17) = .nx (Tn S dk x2 x3 x4 x5 (some (.sh, IL b)) x7 x8 x9 x10 x11 (some (k', bgD (pcs b))) y13 x14 x15 x17) ∧ (k' = .ow ∨ k' = .sh) ∧ frV (some y13) = true
  | [], k12, x13, _, hk, f13 => ⟨k12, x13, rfl, hk, f13⟩
  | a :: as, k12, x13, ha, hk, f13 => by
    have e := s13_step S x2 x3 x4 x5 x7 x8 x9 x10 x11 x14 x15 x17 dk b hb hl a (ha a (by simp)) k12 hk
    obtain ⟨k', y13, e2, hk', fy⟩ := s13_loop dk b hb hl x2 x3 x4 x5 x7 x8 x9 x10 x11 x14 x15 x17 as .sh (some (.sh, .int a)) (fun c hc => ha c (by simp [hc])) (.inr rfl) rfl
    refine ⟨k', y13, ?_, hk', fy⟩
    rw [List.map_cons, forL_c]
    simp only [gSlot_e, free_e, List.getElem?_cons_succ, List.getElem?_cons_zero, f13, putV_t, List.set_cons_succ, List.set_cons_zero, fgV_e, e, lp_nx]
    exact e2
theorem u29 (dk b : List Int) (hb : Byt b) (hl : b.length ≤ 100) (f13 : frV (some x13) = true) : ∃ k' y13, u_law_29 (Tn S dk x2 x3 x4 x5 (some (.sh, IL b)) x7 x8 x9 x10 x11 (some (.ow, bgD (pcs b))) x13 x14 x15 x17) = .nx (Tn S dk x2 x3 x4 x5 (some (.sh, IL b)) x7 x8 x9 x10 x11 (some (k', bgD (pcs b))) y13 x14 x15 x17) ∧ (k' = .ow ∨ k' = .sh) ∧ frV (some y13) = true := by
  obtain ⟨k', y13, e, hk, fy⟩ := s13_loop S dk b hb hl x2 x3 x4 x5 x7 x8 x9 x10 x11 x14 x15 x17 (List.range b.length) .ow x13 (fun a ha => List.mem_range.mp ha) (.inl rfl) f13
  refine ⟨k', y13, ?_, hk, fy⟩
  rw [u_law_29_e, sFor_e, xiRng1_e]
  have q : xL gLen (xsC (xVar 6) xs0) (Tn S dk x2 x3 x4 x5 (some (.sh, IL b)) x7 x8 x9 x10 x11 (some (.ow, bgD (pcs b))) x13 x14 x15 x17) = .ok (.s (.int b.length), Tn S dk x2 x3 x4 x5 (some (.sh, IL b)) x7 x8 x9 x10 x11 (some (.ow, bgD (pcs b))) x13 x14 x15 x17) := by simp
  have r1 := fun E => rnV_len E b.length (by omega)
  rw [xsC_e, q, rb_ok, kCa_e, xs0_e, rb_ok, kCb_e, rb_ok, kRa_e]
  simp only [nm_s, dats_cons, dats_nil, dat_s, consO_some, r1, rt_ok, kFor_e]
  exact e
theorem u30 (dk b : List Int) (hb : Byt b) (hl : b.length ≤ 100) (k12 : Kd) (hk : k12 = .ow ∨ k12 = .sh) (f15 : frV (some x15) = true) :
    ∃ dk' y15, u_law_30 (Tn S dk x2 x3 x4 x5 (some (.sh, IL b)) x7 (some (.sh, .lst ((pcs b).map rowD))) x9 x10 x11 (some (k12, bgD (pcs b))) x13 x14 x15 x17) = .nx (Tn S dk' x2 x3 x4 x5 (some (.sh, IL b)) x7 (some (.sh, .lst ((pcs b).map rowD))) x9 x10 x11 (some (k12, bgD (pcs b))) x13 x14 y15 x17) ∧ frV (some y15) = true := by
  rw [u_law_30_e]
  by_cases h : b = []
  · subst h
    refine ⟨dk, x15, ?_, f15⟩
    have z : gEq true (IL []) (.lst []) = some (.s (.bl false)) := q0'
    simp [z]
  · have e1 : gEq true (IL b) (.lst []) = some (.s (.bl true)) := gEq_ne (n := 1) true .il (Pl.il (xs := [])) (by simp [IL, h])
    have pl := pcs_len _ b rfl
    have hp : 0 < (pcs b).length := List.length_pos_iff.mpr (pcs_ne h)
    have t := tk_lt dk (m := ((pcs b).length : Int)) (by omega)
    obtain ⟨j, hj⟩ : ∃ j : Nat, tk dk ((pcs b).length : Int) = j := ⟨(tk dk ((pcs b).length : Int)).toNat, by omega⟩
    have hj2 : j < (pcs b).length := by omega
    have w1 := F__law_take_eq dk ((pcs b).length : Int) (by omega)
    rw [hj] at w1
    have e2 : ((bg (pcs b)).map fun (k : Nat) => D.int (k : Int))[j]? = some (.int (szs ((pcs b).take j) : Int)) := by
      rw [List.getElem?_map, bg, List.getElem?_map, List.getElem?_range hj2]; rfl
    have hc := pcs_cut j b (by omega)
    have c1 : cutD (b.map .int) none (some (szs ((pcs b).take j) : Int)) = (b.take (szs ((pcs b).take j))).map .int := by rw [cutD_to]; simp
    have c2 : cutD (b.map .int) (some (szs ((pcs b).take j) : Int)) none = (b.drop (szs ((pcs b).take j))).map .int := by rw [cutD_from]; simp
    have p1 := F_pieces_of_eq (b.take (szs ((pcs b).take j))) (fun x hx => hb x (List.mem_of_mem_take hx)) (by simp; omega)
    have p2 := F_pieces_of_eq (b.drop (szs ((pcs b).take j))) (fun x hx => hb x (List.mem_of_mem_drop hx)) (by simp; omega)
    rw [hc.1] at p1
    rw [hc.2] at p2
    have e3 : gEq true (.lst (((pcs b).take j).map rowD ++ ((pcs b).drop j).map rowD)) (.lst ((pcs b).map rowD)) = some (.s (.bl false)) := by
      rw [← List.map_append, List.take_append_drop]
      exact gEq_eq (n := 3) true (Pl_rows _)
    have l1 : (((pcs b).take j).map rowD).length + (((pcs b).drop j).map rowD).length ≤ 16777216 := by simp; omega
    have bl := bg_len (pcs b)
    have e4 : gLen [bgD (pcs b)] = some (.s (.int ((pcs b).length : Int))) := by simp [bgD, bl]
    refine ⟨dk.dropLast, some (.sh, .int (szs ((pcs b).take j) : Int)), ?_, rfl⟩
    generalize dk.dropLast = d1 at *
    generalize ((pcs b).take j).map rowD = L1 at *
    generalize ((pcs b).drop j).map rowD = L2 at *
    generalize (pcs b).map rowD = L at *
    generalize szs ((pcs b).take j) = c at *
    generalize b.take c = bt at *
    generalize b.drop c = bd at *
    rcases hk with rfl | rfl
    · simp [e1, bl, w1, e2, f15, c1, c2, p1, p2, l1, e3]
    · simp [e1, bl, w1, e2, f15, c1, c2, p1, p2, l1, e3]
theorem turn (dk : List Int) (f3 : frV (some x3) = true) (f4 : frV (some x4) = true) (f5 : frV (some x5) = true) (f6 : frV (some x6) = true) (f7 : frV (some x7) = true) (f8 : frV (some x8) = true) (f9 : frV (some x9) = true) (f10 : frV (some x10) = true) (f11 : frV (some x11) = true) (f12 : frV (some x12) = true) (f13 : frV (some x13) = true) (f14 : frV (some x14) = true) (f15 : frV (some x15) = true) (f17 : frV (some x17) = true) :
    ∃ dk' y3 y4 y5 y6 y7 y8 y9 y10 y11 y12 y13 y14 y15 y17, s_law_31 (Tn S dk x2 x3 x4 x5 x6 x7 x8 x9 x10 x11 x12 x13 x14 x15 x17) = .nx (Tn S dk' x2 y3 y4 y5 y6 y7 y8 y9 y10 y11 y12 y13 y14 y15 y17) ∧ frV (some y3) = true ∧ frV (some y4) = true ∧ frV (some y5) = true ∧ frV (some y6) = true ∧ frV (some y7) = true ∧ frV (some y8) = true ∧ frV (some y9) = true ∧ frV (some y10) = true ∧ frV (some y11) = true ∧ frV (some y12) = true ∧ frV (some y13) = true ∧ frV (some y14) = true ∧ frV (some y15) = true ∧ frV (some y17) = true := by
  obtain ⟨t, d1, e14, ht, tl⟩ := u14 S x2 x3 x4 x5 x6 x7 x8 x9 x10 x11 x12 x13 x14 x15 x17 dk f3
  have e15 := u15 S x2 x4 x5 x6 x7 x8 x9 x10 x11 x12 x13 x14 x15 x17 d1 t tl f4
  have e16 := u16 S x2 x5 x6 x7 x8 x9 x10 x11 x12 x13 x14 x15 x17 d1 t ht tl
  obtain ⟨u, d2, e17, hu, ul⟩ := u17 S x2 (some (.sh, IL t)) (some (.sh, IL (bytes t))) x5 x6 x7 x8 x9 x10 x11 x12 x13 x14 x15 x17 d1 f5
  have e18 := u18 S x2 x6 x7 x8 x9 x10 x11 x12 x13 x14 x15 x17 d2 t u ht tl hu ul
  have e19 := u19 S x2 (some (.sh, IL t)) (some (.sh, IL u)) x6 x7 x8 x9 x10 x11 x12 x13 x14 x15 x17 d2 (bytes t) f6
  have bl := bytes_len t
  obtain ⟨b, d3, y7, y13, y14, y17, e20, hb, hl, g7, g13, g14, g17⟩ := u20 S x2 (some (.sh, IL t)) (some (.sh, IL (bytes t))) (some (.sh, IL u)) x7 x8 x9 x10 x11 x12 x13 x14 x15 x17 d2 (bytes t) (bytes_byt ht) (by omega) f7 f13 f14 f17
  have pl := pcs_len _ b rfl
  have e21 := u21 S x2 (some (.sh, IL t)) (some (.sh, IL (bytes t))) (some (.sh, IL u)) y7 x8 x9 x10 x11 x12 y13 y14 x15 y17 d3 b hl f8
  have e22 := u22 S x2 (some (.sh, IL t)) (some (.sh, IL (bytes t))) (some (.sh, IL u)) y7 x9 x10 x11 x12 y13 y14 x15 y17 d3 b hb hl
  have e23 := u23 S x2 (some (.sh, IL t)) (some (.sh, IL (bytes t))) (some (.sh, IL u)) (some (.sh, IL b)) y7 x9 x10 x11 x12 y13 y14 x15 y17 d3 (pcs b) (by omega) f9
  have e24 := u24 S x2 (some (.sh, IL t)) (some (.sh, IL (bytes t))) (some (.sh, IL u)) (some (.sh, IL b)) y7 x10 x11 x12 y13 y14 x15 y17 d3 (pcs b) (by omega) f10
  have e25 := u25 S x2 (some (.sh, IL t)) (some (.sh, IL (bytes t))) (some (.sh, IL u)) y7 x11 x12 y13 y14 x15 y17 d3 b hb hl
  obtain ⟨s, d4, e26, hs⟩ := u26 S x2 (some (.sh, IL t)) (some (.sh, IL (bytes t))) (some (.sh, IL u)) (some (.sh, IL b)) y7 (some (.sh, .lst ((pcs b).map rowD))) (some (.ow, wrD (pcs b))) (some (.sh, fwD (pcs b) 0 (wr (pcs b)))) x11 x12 y13 y14 x15 y17 d3 f11
  have e27 := u27 S x2 (some (.sh, IL t)) (some (.sh, IL (bytes t))) (some (.sh, IL u)) y7 (some (.ow, wrD (pcs b))) (some (.sh, fwD (pcs b) 0 (wr (pcs b)))) x12 y13 y14 x15 y17 d4 b hb hl s hs
  have e28 := u28 S x2 (some (.sh, IL t)) (some (.sh, IL (bytes t))) (some (.sh, IL u)) (some (.sh, IL b)) y7 (some (.ow, wrD (pcs b))) (some (.sh, fwD (pcs b) 0 (wr (pcs b)))) (some (.sh, .int s)) x12 y13 y14 x15 y17 d4 (pcs b) (by omega) f12
  obtain ⟨k12, z13, e29, hk, h13⟩ := u29 S x2 (some (.sh, IL t)) (some (.sh, IL (bytes t))) (some (.sh, IL u)) y7 (some (.sh, .lst ((pcs b).map rowD))) (some (.ow, wrD (pcs b))) (some (.sh, fwD (pcs b) 0 (wr (pcs b)))) (some (.sh, .int s)) y13 y14 x15 y17 d4 b hb hl g13
  obtain ⟨d5, y15, e30, h15⟩ := u30 S x2 (some (.sh, IL t)) (some (.sh, IL (bytes t))) (some (.sh, IL u)) y7 (some (.ow, wrD (pcs b))) (some (.sh, fwD (pcs b) 0 (wr (pcs b)))) (some (.sh, .int s)) z13 y14 x15 y17 d4 b hb hl k12 hk f15
  refine ⟨d5, some (.sh, IL t), some (.sh, IL (bytes t)), some (.sh, IL u), some (.sh, IL b), y7, some (.sh, .lst ((pcs b).map rowD)), some (.ow, wrD (pcs b)), some (.sh, fwD (pcs b) 0 (wr (pcs b))), some (.sh, .int s), some (k12, bgD (pcs b)), z13, y14, y15, y17, ?_, rfl, rfl, rfl, rfl, g7, rfl, rfl, rfl, rfl, ?_, h13, g14, h15, g17⟩
  · unfold s_law_31
    rw [sSeq_e, e14, seq_nx, sSeq_e, e15, seq_nx, sSeq_e, e16, seq_nx, sSeq_e, e17, seq_nx, sSeq_e, e18, seq_nx, sSeq_e, e19, seq_nx, sSeq_e, e20, seq_nx, sSeq_e, e21, seq_nx, sSeq_e, e22, seq_nx, sSeq_e, e23, seq_nx, sSeq_e, e24, seq_nx, sSeq_e, e25, seq_nx, sSeq_e, e26, seq_nx, sSeq_e, e27, seq_nx, sSeq_e, e28, seq_nx, sSeq_e, e29, seq_nx, e30]
  · rcases hk with rfl | rfl <;> rfl
theorem turns : ∀ (items : List D) (dk : List Int) (x2 x3 x4 x5 x6 x7 x8 x9 x10 x11 x12 x13 x14 x15 x17 : Option Bd), frV (some x2) = true → frV (some x3) = true → frV (some x4) = true → frV (some x5) = true → frV (some x6) = true → frV (some x7) = true → frV (some x8) = true → frV (some x9) = true → frV (some x10) = true → frV (some x11) = true → frV (some x12) = true → frV (some x13) = true → frV (some x14) = true → frV (some x15) = true → frV (some x17) = true →
    ∃ E, forL (gSlot 2) s_law_31 items (Tn S dk x2 x3 x4 x5 x6 x7 x8 x9 x10 x11 x12 x13 x14 x15 x17) = .nx E
  | [], _, _, _, _, _, _, _, _, _, _, _, _, _, _, _, _, _, _, _, _, _, _, _, _, _, _, _, _, _, _, _ => ⟨_, rfl⟩
  | d :: items, dk, x2, x3, x4, x5, x6, x7, x8, x9, x10, x11, x12, x13, x14, x15, x17, f2, f3, f4, f5, f6, f7, f8, f9, f10, f11, f12, f13, f14, f15, f17 => by
    obtain ⟨dk', y3, y4, y5, y6, y7, y8, y9, y10, y11, y12, y13, y14, y15, y17, e, g3, g4, g5, g6, g7, g8, g9, g10, g11, g12, g13, g14, g15, g17⟩ := turn S (some (.sh, d)) x3 x4 x5 x6 x7 x8 x9 x10 x11 x12 x13 x14 x15 x17 dk f3 f4 f5 f6 f7 f8 f9 f10 f11 f12 f13 f14 f15 f17
    obtain ⟨E, e2⟩ := turns items dk' (some (.sh, d)) y3 y4 y5 y6 y7 y8 y9 y10 y11 y12 y13 y14 y15 y17 rfl g3 g4 g5 g6 g7 g8 g9 g10 g11 g12 g13 g14 g15 g17
    refine ⟨E, ?_⟩
    rw [forL_c]
    simp only [gSlot_e, free_e, List.getElem?_cons_succ, List.getElem?_cons_zero, f2, putV_t, List.set_cons_succ, List.set_cons_zero, fgV_e, e, lp_nx]
    exact e2
end
end K16

namespace K16
open PySem PySem.Spec L2 DS
theorem last_val (E : En) : (sRet (xAndV (x2 (gEq false) (xCallN 1 F__law_read (xsC (xLst (xsC (xD (.int 192)) (xsC (xD (.int 128)) xs0))) xs0)) (xD (.str "piece"))) (xAndV (x2 (gEq false) (xCallN 1 F__law_read (xsC (xLst (xsC (xD (.int 256)) xs0)) xs0)) (xD (.str "byte"))) (xAndV (x2 (gEq false) (xCallN 1 F_pieces_of (xsC (xLst (xsC (xD (.int 240)) (xsC (xD (.int 144)) (xsC (xD (.int 65)) xs0)))) xs0)) (xLst (xsC (xTup (xsC (xLst xs0) (xsC (xD (.int 2)) xs0))) (xsC (xTup (xsC (xLst (xsC (xD (.int 65)) xs0)) (xsC (xD (.int 1)) xs0))) xs0)))) (x2 (gEq false) (xCallN 1 F_bytes_of (xsC (xLst (xsC (xD (.int 233)) xs0)) xs0)) (xLst (xsC (xD (.int 195)) (xsC (xD (.int 169)) xs0)))))))) E = .rt (.s (.bl true)) E := by
  have r1 : F__law_read [(.sh, .lst [.int 192, .int 128])] = .ok (.s (.str "piece")) [none] := by
    have h := F__law_read_eq [192, 128] (by unfold Byt; decide) (by decide)
    rw [show (pcs [192, 128]).any (fun p => p.1.isNone) = true by decide] at h
    exact h
  have r2 := F__law_read_256
  have r3 : F_pieces_of [(.sh, .lst [.int 240, .int 144, .int 65])] = .ok (.o (.lst [.tup [.lst [], .int 2], .tup [.lst [.int 65], .int 1]])) [none] := by
    have h := F_pieces_of_eq [240, 144, 65] (by unfold Byt; decide) (by decide)
    rw [show pcs [240, 144, 65] = [(none, 2), (some 65, 1)] by decide] at h
    exact h
  have r4 : F_bytes_of [(.sh, .lst [.int 233])] = .ok (.o (.lst [.int 195, .int 169])) [none] := by
    have h := F_bytes_of_eq [233] (by unfold Sgn; decide) (by decide)
    rw [show bytes [233] = [195, 169] by decide] at h
    exact h
  have g1 : gEq false (.str "piece") (.str "piece") = some (.s (.bl true)) := gEq_eq (n := 0) false (Pl.str (by decide +kernel))
  have g2 : gEq false (.str "byte") (.str "byte") = some (.s (.bl true)) := gEq_eq (n := 0) false (Pl.str (by decide +kernel))
  have g3 : gEq false (.lst [.tup [.lst [], .int 2], .tup [.lst [.int 65], .int 1]]) (.lst [.tup [.lst [], .int 2], .tup [.lst [.int 65], .int 1]]) = some (.s (.bl true)) := gEq_eq (n := 3) false (Pl_rows [(none, 2), (some 65, 1)])
  have g4 : gEq false (.lst [.int 195, .int 169]) (.lst [.int 195, .int 169]) = some (.s (.bl true)) := gEq_eq (n := 1) false (Pl.il (xs := [195, 169]))
  simp [r1, r2, r3, r4, g1, g2, g3, g4]
theorem law_true (ns : List Int) (hn : ns.length ≤ 63) : F_law [(.sh, .scr ns)] = .ok (.s (.bl true)) [none] := by
  obtain ⟨dk, e⟩ := F__law_deck_eq ns
  obtain ⟨E, et⟩ := turns (.scr ns) (rngD 0 4) dk none none none none none none none none none none none none none none none rfl rfl rfl rfl rfl rfl rfl rfl rfl rfl rfl rfl rfl rfl rfl
  unfold F_law
  rw [fnOf_e, b_law_e, sSeq_e]
  have e1 : sSet 1 (xCallN 3 F__law_deck (xsC (xShr (xVar 0)) (xsC (xD (.int 60)) (xsC (xD (.int 8)) xs0)))) ([(Kd.sh, D.scr ns)].map some ++ List.replicate 21 none) = .nx (Tn (.scr ns) dk none none none none none none none none none none none none none none none) := by
    simp [e]
  rw [e1, seq_nx, sSeq_e]
  have e2 : sFor (xiRng1 (xsC (xD (.int 4)) xs0)) (gSlot 2) s_law_31 (Tn (.scr ns) dk none none none none none none none none none none none none none none none) = .nx E := by
    simp [et]
  rw [e2, seq_nx, last_val]
  rfl
end K16


namespace K16
open PySem PySem.Spec L2 DS
theorem all_mk {l : PySem.W.OpenLaw} {w : World} {K : PySem.W.Frag} {h : Heap} {mg : Str → Option Value} {fa : Addr} (X : K.In h) (G : h.Ns mainGlobals mg) (hfa : mg "law" = some (.ref fa))
    {tk_MOST_SIGNS : Tok}
    {a_is_number : Addr} {od_is_number an_is_number : Option Addr} {sl_is_number : Array (Option Value)} {oc_is_number kV_is_number dc_is_number pm_is_number cd_is_number ct_is_number : Value}
    {a_check_bytes : Addr} {od_check_bytes an_check_bytes : Option Addr} {sl_check_bytes : Array (Option Value)} {oc_check_bytes kV_check_bytes dc_check_bytes pm_check_bytes cd_check_bytes ct_check_bytes : Value}
    {a_check_signs : Addr} {od_check_signs an_check_signs : Option Addr} {sl_check_signs : Array (Option Value)} {oc_check_signs kV_check_signs dc_check_signs pm_check_signs cd_check_signs ct_check_signs : Value}
    {a_code_of : Addr} {od_code_of an_code_of : Option Addr} {sl_code_of : Array (Option Value)} {oc_code_of kV_code_of dc_code_of pm_code_of cd_code_of ct_code_of : Value}
    {a_written : Addr} {od_written an_written : Option Addr} {sl_written : Array (Option Value)} {oc_written kV_written dc_written pm_written cd_written ct_written : Value}
    {a_bytes_of : Addr} {od_bytes_of an_bytes_of : Option Addr} {sl_bytes_of : Array (Option Value)} {oc_bytes_of kV_bytes_of dc_bytes_of pm_bytes_of cd_bytes_of ct_bytes_of : Value}
    {a_first_byte : Addr} {od_first_byte an_first_byte : Option Addr} {sl_first_byte : Array (Option Value)} {oc_first_byte kV_first_byte dc_first_byte pm_first_byte cd_first_byte ct_first_byte : Value}
    {a_reach : Addr} {od_reach an_reach : Option Addr} {sl_reach : Array (Option Value)} {oc_reach kV_reach dc_reach pm_reach cd_reach ct_reach : Value}
    {a_value_of : Addr} {od_value_of an_value_of : Option Addr} {sl_value_of : Array (Option Value)} {oc_value_of kV_value_of dc_value_of pm_value_of cd_value_of ct_value_of : Value}
    {a_cut : Addr} {od_cut an_cut : Option Addr} {sl_cut : Array (Option Value)} {oc_cut kV_cut dc_cut pm_cut cd_cut ct_cut : Value}
    {a_read_bytes : Addr} {od_read_bytes an_read_bytes : Option Addr} {sl_read_bytes : Array (Option Value)} {oc_read_bytes kV_read_bytes dc_read_bytes pm_read_bytes cd_read_bytes ct_read_bytes : Value}
    {a_read_with : Addr} {od_read_with an_read_with : Option Addr} {sl_read_with : Array (Option Value)} {oc_read_with kV_read_with dc_read_with pm_read_with cd_read_with ct_read_with : Value}
    {a_pieces_of : Addr} {od_pieces_of an_pieces_of : Option Addr} {sl_pieces_of : Array (Option Value)} {oc_pieces_of kV_pieces_of dc_pieces_of pm_pieces_of cd_pieces_of ct_pieces_of : Value}
    {a_first_wrong : Addr} {od_first_wrong an_first_wrong : Option Addr} {sl_first_wrong : Array (Option Value)} {oc_first_wrong kV_first_wrong dc_first_wrong pm_first_wrong cd_first_wrong ct_first_wrong : Value}
    {a_begin_at : Addr} {od_begin_at an_begin_at : Option Addr} {sl_begin_at : Array (Option Value)} {oc_begin_at kV_begin_at dc_begin_at pm_begin_at cd_begin_at ct_begin_at : Value}
    {a__law_deck : Addr} {od__law_deck an__law_deck : Option Addr} {sl__law_deck : Array (Option Value)} {oc__law_deck kV__law_deck dc__law_deck pm__law_deck cd__law_deck ct__law_deck : Value}
    {a__law_take : Addr} {od__law_take an__law_take : Option Addr} {sl__law_take : Array (Option Value)} {oc__law_take kV__law_take dc__law_take pm__law_take cd__law_take ct__law_take : Value}
    {a__law_bytes : Addr} {od__law_bytes an__law_bytes : Option Addr} {sl__law_bytes : Array (Option Value)} {oc__law_bytes kV__law_bytes dc__law_bytes pm__law_bytes cd__law_bytes ct__law_bytes : Value}
    {a__law_starts : Addr} {od__law_starts an__law_starts : Option Addr} {sl__law_starts : Array (Option Value)} {oc__law_starts kV__law_starts dc__law_starts pm__law_starts cd__law_starts ct__law_starts : Value}
    {a__law_pieces : Addr} {od__law_pieces an__law_pieces : Option Addr} {sl__law_pieces : Array (Option Value)} {oc__law_pieces kV__law_pieces dc__law_pieces pm__law_pieces cd__law_pieces ct__law_pieces : Value}
    {a__law_any_sign : Addr} {od__law_any_sign an__law_any_sign : Option Addr} {sl__law_any_sign : Array (Option Value)} {oc__law_any_sign kV__law_any_sign dc__law_any_sign pm__law_any_sign cd__law_any_sign ct__law_any_sign : Value}
    {a__law_read : Addr} {od__law_read an__law_read : Option Addr} {sl__law_read : Array (Option Value)} {oc__law_read kV__law_read dc__law_read pm__law_read cd__law_read ct__law_read : Value}
    {a_law : Addr} {od_law an_law : Option Addr} {sl_law : Array (Option Value)} {oc_law kV_law dc_law pm_law cd_law ct_law : Value}
    {c_NormError : Addr}
    {c_InvalidText : Addr} {nm_InvalidText q_InvalidText : Str} {N_InvalidText : Addr} {bs_InvalidText bm_InvalidText : List Value} {sn_InvalidText : List Str} {sub_InvalidText : List Value} {ab_InvalidText : Bool} {col_InvalidText : Option Bool} {dd_InvalidText : Option Addr} {m0_InvalidText m1_InvalidText m2_InvalidText m3_InvalidText m5_InvalidText : Option Value}
    {a_InvalidText : Addr} {od_InvalidText an_InvalidText : Option Addr} {sl_InvalidText : Array (Option Value)} {oc_InvalidText kV_InvalidText dc_InvalidText pm_InvalidText cd_InvalidText ct_InvalidText : Value}
    {c_InvalidBytes : Addr} {nm_InvalidBytes q_InvalidBytes : Str} {N_InvalidBytes : Addr} {bs_InvalidBytes bm_InvalidBytes : List Value} {sn_InvalidBytes : List Str} {sub_InvalidBytes : List Value} {ab_InvalidBytes : Bool} {col_InvalidBytes : Option Bool} {dd_InvalidBytes : Option Addr} {m0_InvalidBytes m1_InvalidBytes m2_InvalidBytes m3_InvalidBytes m5_InvalidBytes : Option Value}
    {a_InvalidBytes : Addr} {od_InvalidBytes an_InvalidBytes : Option Addr} {sl_InvalidBytes : Array (Option Value)} {oc_InvalidBytes kV_InvalidBytes dc_InvalidBytes pm_InvalidBytes cd_InvalidBytes ct_InvalidBytes : Value}
    (zg_abs : PySem.W.nsIn K mainGlobals "abs" = some none)
    (zg_bool : PySem.W.nsIn K mainGlobals "bool" = some none)
    (zg_int : PySem.W.nsIn K mainGlobals "int" = some none)
    (zg_isinstance : PySem.W.nsIn K mainGlobals "isinstance" = some none)
    (zg_len : PySem.W.nsIn K mainGlobals "len" = some none)
    (zg_list : PySem.W.nsIn K mainGlobals "list" = some none)
    (zg_max : PySem.W.nsIn K mainGlobals "max" = some none)
    (zg_min : PySem.W.nsIn K mainGlobals "min" = some none)
    (zg_range : PySem.W.nsIn K mainGlobals "range" = some none)
    (zg_sum : PySem.W.nsIn K mainGlobals "sum" = some none)
    (zc_MOST_SIGNS : PySem.W.nsIn K mainGlobals "MOST_SIGNS" = some (some (.int 1114112 tk_MOST_SIGNS)))
    (zm_is_number : PySem.W.nsIn K mainGlobals "is_number" = some (some (.ref a_is_number)))
    (zl_is_number : K.lookup a_is_number = some ⟨oc_is_number, od_is_number, .func (PySem.W.fnOf "is_number" "is_number" (defArgs st_is_number) (defBody st_is_number) (defScope st_is_number) .none kV_is_number dc_is_number pm_is_number an_is_number cd_is_number ct_is_number), sl_is_number⟩)
    (zk_is_number : PySem.W.codeIn K cd_is_number "is_number" = true)
    (zp_is_number : PySem.W.keepIn K (.ref a_is_number) = true)
    (zm_check_bytes : PySem.W.nsIn K mainGlobals "check_bytes" = some (some (.ref a_check_bytes)))
    (zl_check_bytes : K.lookup a_check_bytes = some ⟨oc_check_bytes, od_check_bytes, .func (PySem.W.fnOf "check_bytes" "check_bytes" (defArgs st_check_bytes) (defBody st_check_bytes) (defScope st_check_bytes) .none kV_check_bytes dc_check_bytes pm_check_bytes an_check_bytes cd_check_bytes ct_check_bytes), sl_check_bytes⟩)
    (zk_check_bytes : PySem.W.codeIn K cd_check_bytes "check_bytes" = true)
    (zp_check_bytes : PySem.W.keepIn K (.ref a_check_bytes) = true)
    (zm_check_signs : PySem.W.nsIn K mainGlobals "check_signs" = some (some (.ref a_check_signs)))
    (zl_check_signs : K.lookup a_check_signs = some ⟨oc_check_signs, od_check_signs, .func (PySem.W.fnOf "check_signs" "check_signs" (defArgs st_check_signs) (defBody st_check_signs) (defScope st_check_signs) .none kV_check_signs dc_check_signs pm_check_signs an_check_signs cd_check_signs ct_check_signs), sl_check_signs⟩)
    (zk_check_signs : PySem.W.codeIn K cd_check_signs "check_signs" = true)
    (zp_check_signs : PySem.W.keepIn K (.ref a_check_signs) = true)
    (zm_code_of : PySem.W.nsIn K mainGlobals "code_of" = some (some (.ref a_code_of)))
    (zl_code_of : K.lookup a_code_of = some ⟨oc_code_of, od_code_of, .func (PySem.W.fnOf "code_of" "code_of" (defArgs st_code_of) (defBody st_code_of) (defScope st_code_of) .none kV_code_of dc_code_of pm_code_of an_code_of cd_code_of ct_code_of), sl_code_of⟩)
    (zk_code_of : PySem.W.codeIn K cd_code_of "code_of" = true)
    (zp_code_of : PySem.W.keepIn K (.ref a_code_of) = true)
    (zm_written : PySem.W.nsIn K mainGlobals "written" = some (some (.ref a_written)))
    (zl_written : K.lookup a_written = some ⟨oc_written, od_written, .func (PySem.W.fnOf "written" "written" (defArgs st_written) (defBody st_written) (defScope st_written) .none kV_written dc_written pm_written an_written cd_written ct_written), sl_written⟩)
    (zk_written : PySem.W.codeIn K cd_written "written" = true)
    (zp_written : PySem.W.keepIn K (.ref a_written) = true)
    (zm_bytes_of : PySem.W.nsIn K mainGlobals "bytes_of" = some (some (.ref a_bytes_of)))
    (zl_bytes_of : K.lookup a_bytes_of = some ⟨oc_bytes_of, od_bytes_of, .func (PySem.W.fnOf "bytes_of" "bytes_of" (defArgs st_bytes_of) (defBody st_bytes_of) (defScope st_bytes_of) .none kV_bytes_of dc_bytes_of pm_bytes_of an_bytes_of cd_bytes_of ct_bytes_of), sl_bytes_of⟩)
    (zk_bytes_of : PySem.W.codeIn K cd_bytes_of "bytes_of" = true)
    (zp_bytes_of : PySem.W.keepIn K (.ref a_bytes_of) = true)
    (zm_first_byte : PySem.W.nsIn K mainGlobals "first_byte" = some (some (.ref a_first_byte)))
    (zl_first_byte : K.lookup a_first_byte = some ⟨oc_first_byte, od_first_byte, .func (PySem.W.fnOf "first_byte" "first_byte" (defArgs st_first_byte) (defBody st_first_byte) (defScope st_first_byte) .none kV_first_byte dc_first_byte pm_first_byte an_first_byte cd_first_byte ct_first_byte), sl_first_byte⟩)
    (zk_first_byte : PySem.W.codeIn K cd_first_byte "first_byte" = true)
    (zp_first_byte : PySem.W.keepIn K (.ref a_first_byte) = true)
    (zm_reach : PySem.W.nsIn K mainGlobals "reach" = some (some (.ref a_reach)))
    (zl_reach : K.lookup a_reach = some ⟨oc_reach, od_reach, .func (PySem.W.fnOf "reach" "reach" (defArgs st_reach) (defBody st_reach) (defScope st_reach) .none kV_reach dc_reach pm_reach an_reach cd_reach ct_reach), sl_reach⟩)
    (zk_reach : PySem.W.codeIn K cd_reach "reach" = true)
    (zp_reach : PySem.W.keepIn K (.ref a_reach) = true)
    (zm_value_of : PySem.W.nsIn K mainGlobals "value_of" = some (some (.ref a_value_of)))
    (zl_value_of : K.lookup a_value_of = some ⟨oc_value_of, od_value_of, .func (PySem.W.fnOf "value_of" "value_of" (defArgs st_value_of) (defBody st_value_of) (defScope st_value_of) .none kV_value_of dc_value_of pm_value_of an_value_of cd_value_of ct_value_of), sl_value_of⟩)
    (zk_value_of : PySem.W.codeIn K cd_value_of "value_of" = true)
    (zp_value_of : PySem.W.keepIn K (.ref a_value_of) = true)
    (zm_cut : PySem.W.nsIn K mainGlobals "cut" = some (some (.ref a_cut)))
    (zl_cut : K.lookup a_cut = some ⟨oc_cut, od_cut, .func (PySem.W.fnOf "cut" "cut" (defArgs st_cut) (defBody st_cut) (defScope st_cut) .none kV_cut dc_cut pm_cut an_cut cd_cut ct_cut), sl_cut⟩)
    (zk_cut : PySem.W.codeIn K cd_cut "cut" = true)
    (zp_cut : PySem.W.keepIn K (.ref a_cut) = true)
    (zm_read_bytes : PySem.W.nsIn K mainGlobals "read_bytes" = some (some (.ref a_read_bytes)))
    (zl_read_bytes : K.lookup a_read_bytes = some ⟨oc_read_bytes, od_read_bytes, .func (PySem.W.fnOf "read_bytes" "read_bytes" (defArgs st_read_bytes) (defBody st_read_bytes) (defScope st_read_bytes) .none kV_read_bytes dc_read_bytes pm_read_bytes an_read_bytes cd_read_bytes ct_read_bytes), sl_read_bytes⟩)
    (zk_read_bytes : PySem.W.codeIn K cd_read_bytes "read_bytes" = true)
    (zp_read_bytes : PySem.W.keepIn K (.ref a_read_bytes) = true)
    (zm_read_with : PySem.W.nsIn K mainGlobals "read_with" = some (some (.ref a_read_with)))
    (zl_read_with : K.lookup a_read_with = some ⟨oc_read_with, od_read_with, .func (PySem.W.fnOf "read_with" "read_with" (defArgs st_read_with) (defBody st_read_with) (defScope st_read_with) .none kV_read_with dc_read_with pm_read_with an_read_with cd_read_with ct_read_with), sl_read_with⟩)
    (zk_read_with : PySem.W.codeIn K cd_read_with "read_with" = true)
    (zp_read_with : PySem.W.keepIn K (.ref a_read_with) = true)
    (zm_pieces_of : PySem.W.nsIn K mainGlobals "pieces_of" = some (some (.ref a_pieces_of)))
    (zl_pieces_of : K.lookup a_pieces_of = some ⟨oc_pieces_of, od_pieces_of, .func (PySem.W.fnOf "pieces_of" "pieces_of" (defArgs st_pieces_of) (defBody st_pieces_of) (defScope st_pieces_of) .none kV_pieces_of dc_pieces_of pm_pieces_of an_pieces_of cd_pieces_of ct_pieces_of), sl_pieces_of⟩)
    (zk_pieces_of : PySem.W.codeIn K cd_pieces_of "pieces_of" = true)
    (zp_pieces_of : PySem.W.keepIn K (.ref a_pieces_of) = true)
    (zm_first_wrong : PySem.W.nsIn K mainGlobals "first_wrong" = some (some (.ref a_first_wrong)))
    (zl_first_wrong : K.lookup a_first_wrong = some ⟨oc_first_wrong, od_first_wrong, .func (PySem.W.fnOf "first_wrong" "first_wrong" (defArgs st_first_wrong) (defBody st_first_wrong) (defScope st_first_wrong) .none kV_first_wrong dc_first_wrong pm_first_wrong an_first_wrong cd_first_wrong ct_first_wrong), sl_first_wrong⟩)
    (zk_first_wrong : PySem.W.codeIn K cd_first_wrong "first_wrong" = true)
    (zp_first_wrong : PySem.W.keepIn K (.ref a_first_wrong) = true)
    (zm_begin_at : PySem.W.nsIn K mainGlobals "begin_at" = some (some (.ref a_begin_at)))
    (zl_begin_at : K.lookup a_begin_at = some ⟨oc_begin_at, od_begin_at, .func (PySem.W.fnOf "begin_at" "begin_at" (defArgs st_begin_at) (defBody st_begin_at) (defScope st_begin_at) .none kV_begin_at dc_begin_at pm_begin_at an_begin_at cd_begin_at ct_begin_at), sl_begin_at⟩)
    (zk_begin_at : PySem.W.codeIn K cd_begin_at "begin_at" = true)
    (zp_begin_at : PySem.W.keepIn K (.ref a_begin_at) = true)
    (zm__law_deck : PySem.W.nsIn K mainGlobals "_law_deck" = some (some (.ref a__law_deck)))
    (zl__law_deck : K.lookup a__law_deck = some ⟨oc__law_deck, od__law_deck, .func (PySem.W.fnOf "_law_deck" "_law_deck" (defArgs st__law_deck) (defBody st__law_deck) (defScope st__law_deck) .none kV__law_deck dc__law_deck pm__law_deck an__law_deck cd__law_deck ct__law_deck), sl__law_deck⟩)
    (zk__law_deck : PySem.W.codeIn K cd__law_deck "_law_deck" = true)
    (zp__law_deck : PySem.W.keepIn K (.ref a__law_deck) = true)
    (zm__law_take : PySem.W.nsIn K mainGlobals "_law_take" = some (some (.ref a__law_take)))
    (zl__law_take : K.lookup a__law_take = some ⟨oc__law_take, od__law_take, .func (PySem.W.fnOf "_law_take" "_law_take" (defArgs st__law_take) (defBody st__law_take) (defScope st__law_take) .none kV__law_take dc__law_take pm__law_take an__law_take cd__law_take ct__law_take), sl__law_take⟩)
    (zk__law_take : PySem.W.codeIn K cd__law_take "_law_take" = true)
    (zp__law_take : PySem.W.keepIn K (.ref a__law_take) = true)
    (zm__law_bytes : PySem.W.nsIn K mainGlobals "_law_bytes" = some (some (.ref a__law_bytes)))
    (zl__law_bytes : K.lookup a__law_bytes = some ⟨oc__law_bytes, od__law_bytes, .func (PySem.W.fnOf "_law_bytes" "_law_bytes" (defArgs st__law_bytes) (defBody st__law_bytes) (defScope st__law_bytes) .none kV__law_bytes dc__law_bytes pm__law_bytes an__law_bytes cd__law_bytes ct__law_bytes), sl__law_bytes⟩)
    (zk__law_bytes : PySem.W.codeIn K cd__law_bytes "_law_bytes" = true)
    (zp__law_bytes : PySem.W.keepIn K (.ref a__law_bytes) = true)
    (zm__law_starts : PySem.W.nsIn K mainGlobals "_law_starts" = some (some (.ref a__law_starts)))
    (zl__law_starts : K.lookup a__law_starts = some ⟨oc__law_starts, od__law_starts, .func (PySem.W.fnOf "_law_starts" "_law_starts" (defArgs st__law_starts) (defBody st__law_starts) (defScope st__law_starts) .none kV__law_starts dc__law_starts pm__law_starts an__law_starts cd__law_starts ct__law_starts), sl__law_starts⟩)
    (zk__law_starts : PySem.W.codeIn K cd__law_starts "_law_starts" = true)
    (zp__law_starts : PySem.W.keepIn K (.ref a__law_starts) = true)
    (zm__law_pieces : PySem.W.nsIn K mainGlobals "_law_pieces" = some (some (.ref a__law_pieces)))
    (zl__law_pieces : K.lookup a__law_pieces = some ⟨oc__law_pieces, od__law_pieces, .func (PySem.W.fnOf "_law_pieces" "_law_pieces" (defArgs st__law_pieces) (defBody st__law_pieces) (defScope st__law_pieces) .none kV__law_pieces dc__law_pieces pm__law_pieces an__law_pieces cd__law_pieces ct__law_pieces), sl__law_pieces⟩)
    (zk__law_pieces : PySem.W.codeIn K cd__law_pieces "_law_pieces" = true)
    (zp__law_pieces : PySem.W.keepIn K (.ref a__law_pieces) = true)
    (zm__law_any_sign : PySem.W.nsIn K mainGlobals "_law_any_sign" = some (some (.ref a__law_any_sign)))
    (zl__law_any_sign : K.lookup a__law_any_sign = some ⟨oc__law_any_sign, od__law_any_sign, .func (PySem.W.fnOf "_law_any_sign" "_law_any_sign" (defArgs st__law_any_sign) (defBody st__law_any_sign) (defScope st__law_any_sign) .none kV__law_any_sign dc__law_any_sign pm__law_any_sign an__law_any_sign cd__law_any_sign ct__law_any_sign), sl__law_any_sign⟩)
    (zk__law_any_sign : PySem.W.codeIn K cd__law_any_sign "_law_any_sign" = true)
    (zp__law_any_sign : PySem.W.keepIn K (.ref a__law_any_sign) = true)
    (zm__law_read : PySem.W.nsIn K mainGlobals "_law_read" = some (some (.ref a__law_read)))
    (zl__law_read : K.lookup a__law_read = some ⟨oc__law_read, od__law_read, .func (PySem.W.fnOf "_law_read" "_law_read" (defArgs st__law_read) (defBody st__law_read) (defScope st__law_read) .none kV__law_read dc__law_read pm__law_read an__law_read cd__law_read ct__law_read), sl__law_read⟩)
    (zk__law_read : PySem.W.codeIn K cd__law_read "_law_read" = true)
    (zp__law_read : PySem.W.keepIn K (.ref a__law_read) = true)
    (zm_law : PySem.W.nsIn K mainGlobals "law" = some (some (.ref a_law)))
    (zl_law : K.lookup a_law = some ⟨oc_law, od_law, .func (PySem.W.fnOf "law" "law" (defArgs st_law) (defBody st_law) (defScope st_law) .none kV_law dc_law pm_law an_law cd_law ct_law), sl_law⟩)
    (zk_law : PySem.W.codeIn K cd_law "law" = true)
    (zp_law : PySem.W.keepIn K (.ref a_law) = true)
    (zn_m : PySem.W.nsIn K mainGlobals "NormError" = some (some (.ref c_NormError)))
    (zn_sp : PySem.W.specialIn K (.ref c_NormError) "__getattribute__" = some (some (.builtin "type.__getattribute__")))
    (zn_rd : PySem.W.readsIn K c_NormError (.type "type") = true)
    (zn_v : PySem.W.findCls K (.ref c_NormError) (.type "type") "__init__" = some (.val (.builtin "ValueError.__init__")))
    (xm_InvalidText : PySem.W.nsIn K mainGlobals "InvalidText" = some (some (.ref c_InvalidText)))
    (xl_InvalidText : K.lookup c_InvalidText = some (excClassObj nm_InvalidText q_InvalidText c_InvalidText N_InvalidText bs_InvalidText bm_InvalidText true sn_InvalidText sub_InvalidText ab_InvalidText col_InvalidText dd_InvalidText m0_InvalidText m1_InvalidText m2_InvalidText m3_InvalidText m5_InvalidText "ValueError.__new__"))
    (xr_InvalidText : PySem.HandSPX.refsVE bm_InvalidText = true)
    (xs_InvalidText : PySem.W.findIn K (.ref c_InvalidText) "__setattr__" = some (some (.builtin "object.__setattr__")))
    (xa_InvalidText : PySem.W.findIn K (.ref c_InvalidText) "__getattribute__" = some (some (.builtin "BaseException.__getattribute__")))
    (xg_InvalidText : PySem.W.findIn K (.ref c_InvalidText) "__getattr__" = some none)
    (xw_InvalidText : PySem.W.findIn K (.ref c_InvalidText) "what" = some none)
    (xi_InvalidText : PySem.W.findIn K (.ref c_InvalidText) "__init__" = some (some (.ref a_InvalidText)))
    (xt_InvalidText : PySem.W.typeIn K (.ref a_InvalidText) = some (.type "function"))
    (xo_InvalidText : K.lookup a_InvalidText = some ⟨oc_InvalidText, od_InvalidText, .func (PySem.W.fnOf "__init__" "InvalidText.__init__" (defArgs st_InvalidText___init__) (defBody st_InvalidText___init__) (defScope st_InvalidText___init__) .none kV_InvalidText dc_InvalidText pm_InvalidText an_InvalidText cd_InvalidText ct_InvalidText), sl_InvalidText⟩)
    (xc_InvalidText : PySem.W.codeIn K cd_InvalidText "InvalidText.__init__" = true)
    (xp_InvalidText : PySem.W.keepIn K (.ref a_InvalidText) = true)
    (xk_InvalidText : PySem.W.keepIn K (.ref c_InvalidText) = true)
    (xe_InvalidText : PySem.W.subIn K (.ref c_InvalidText) (.type "BaseException") = some true)
    (xy_InvalidText : PySem.W.typeIn K (.ref c_InvalidText) = some (.type "type"))
    (xh_InvalidText : PySem.W.hasDictIn K c_InvalidText = true)
    (xz_InvalidText : PySem.W.isClsIn K c_InvalidText = true)
    (xb_InvalidText_InvalidText : PySem.W.subIn K (.ref c_InvalidText) (.ref c_InvalidText) = some true)
    (xb_InvalidText_InvalidBytes : PySem.W.subIn K (.ref c_InvalidBytes) (.ref c_InvalidText) = some false)
    (xm_InvalidBytes : PySem.W.nsIn K mainGlobals "InvalidBytes" = some (some (.ref c_InvalidBytes)))
    (xl_InvalidBytes : K.lookup c_InvalidBytes = some (excClassObj nm_InvalidBytes q_InvalidBytes c_InvalidBytes N_InvalidBytes bs_InvalidBytes bm_InvalidBytes true sn_InvalidBytes sub_InvalidBytes ab_InvalidBytes col_InvalidBytes dd_InvalidBytes m0_InvalidBytes m1_InvalidBytes m2_InvalidBytes m3_InvalidBytes m5_InvalidBytes "ValueError.__new__"))
    (xr_InvalidBytes : PySem.HandSPX.refsVE bm_InvalidBytes = true)
    (xs_InvalidBytes : PySem.W.findIn K (.ref c_InvalidBytes) "__setattr__" = some (some (.builtin "object.__setattr__")))
    (xa_InvalidBytes : PySem.W.findIn K (.ref c_InvalidBytes) "__getattribute__" = some (some (.builtin "BaseException.__getattribute__")))
    (xg_InvalidBytes : PySem.W.findIn K (.ref c_InvalidBytes) "__getattr__" = some none)
    (xw_InvalidBytes : PySem.W.findIn K (.ref c_InvalidBytes) "what" = some none)
    (xi_InvalidBytes : PySem.W.findIn K (.ref c_InvalidBytes) "__init__" = some (some (.ref a_InvalidBytes)))
    (xt_InvalidBytes : PySem.W.typeIn K (.ref a_InvalidBytes) = some (.type "function"))
    (xo_InvalidBytes : K.lookup a_InvalidBytes = some ⟨oc_InvalidBytes, od_InvalidBytes, .func (PySem.W.fnOf "__init__" "InvalidBytes.__init__" (defArgs st_InvalidBytes___init__) (defBody st_InvalidBytes___init__) (defScope st_InvalidBytes___init__) .none kV_InvalidBytes dc_InvalidBytes pm_InvalidBytes an_InvalidBytes cd_InvalidBytes ct_InvalidBytes), sl_InvalidBytes⟩)
    (xc_InvalidBytes : PySem.W.codeIn K cd_InvalidBytes "InvalidBytes.__init__" = true)
    (xp_InvalidBytes : PySem.W.keepIn K (.ref a_InvalidBytes) = true)
    (xk_InvalidBytes : PySem.W.keepIn K (.ref c_InvalidBytes) = true)
    (xe_InvalidBytes : PySem.W.subIn K (.ref c_InvalidBytes) (.type "BaseException") = some true)
    (xy_InvalidBytes : PySem.W.typeIn K (.ref c_InvalidBytes) = some (.type "type"))
    (xh_InvalidBytes : PySem.W.hasDictIn K c_InvalidBytes = true)
    (xz_InvalidBytes : PySem.W.isClsIn K c_InvalidBytes = true)
    (xb_InvalidBytes_InvalidText : PySem.W.subIn K (.ref c_InvalidText) (.ref c_InvalidBytes) = some false)
    (xb_InvalidBytes_InvalidBytes : PySem.W.subIn K (.ref c_InvalidBytes) (.ref c_InvalidBytes) = some true) :
    ∃ fd : FuncData, (∀ (s : Shared) (v : Value), BindsTo s fd ⟨[v], []⟩ [("script", v)]) ∧ ∀ base : Heap, K.In base → base.Ns mainGlobals mg → FnOk l.prog w K mg base (L2.CX l.prog w) 6 fa fd ["script"] (spLaw K) := by
  have e : a_law = fa := by
    have e := hfa.symm.trans (PySem.W.mg_of X G zm_law)
    cases e
    rfl
  subst e
  have T : Txt K mg { f_is_number := a_is_number, d_is_number := (PySem.W.fnOf "is_number" "is_number" (defArgs st_is_number) (defBody st_is_number) (defScope st_is_number) .none kV_is_number dc_is_number pm_is_number an_is_number cd_is_number ct_is_number), f_check_bytes := a_check_bytes, d_check_bytes := (PySem.W.fnOf "check_bytes" "check_bytes" (defArgs st_check_bytes) (defBody st_check_bytes) (defScope st_check_bytes) .none kV_check_bytes dc_check_bytes pm_check_bytes an_check_bytes cd_check_bytes ct_check_bytes), f_check_signs := a_check_signs, d_check_signs := (PySem.W.fnOf "check_signs" "check_signs" (defArgs st_check_signs) (defBody st_check_signs) (defScope st_check_signs) .none kV_check_signs dc_check_signs pm_check_signs an_check_signs cd_check_signs ct_check_signs), f_code_of := a_code_of, d_code_of := (PySem.W.fnOf "code_of" "code_of" (defArgs st_code_of) (defBody st_code_of) (defScope st_code_of) .none kV_code_of dc_code_of pm_code_of an_code_of cd_code_of ct_code_of), f_written := a_written, d_written := (PySem.W.fnOf "written" "written" (defArgs st_written) (defBody st_written) (defScope st_written) .none kV_written dc_written pm_written an_written cd_written ct_written), f_bytes_of := a_bytes_of, d_bytes_of := (PySem.W.fnOf "bytes_of" "bytes_of" (defArgs st_bytes_of) (defBody st_bytes_of) (defScope st_bytes_of) .none kV_bytes_of dc_bytes_of pm_bytes_of an_bytes_of cd_bytes_of ct_bytes_of), f_first_byte := a_first_byte, d_first_byte := (PySem.W.fnOf "first_byte" "first_byte" (defArgs st_first_byte) (defBody st_first_byte) (defScope st_first_byte) .none kV_first_byte dc_first_byte pm_first_byte an_first_byte cd_first_byte ct_first_byte), f_reach := a_reach, d_reach := (PySem.W.fnOf "reach" "reach" (defArgs st_reach) (defBody st_reach) (defScope st_reach) .none kV_reach dc_reach pm_reach an_reach cd_reach ct_reach), f_value_of := a_value_of, d_value_of := (PySem.W.fnOf "value_of" "value_of" (defArgs st_value_of) (defBody st_value_of) (defScope st_value_of) .none kV_value_of dc_value_of pm_value_of an_value_of cd_value_of ct_value_of), f_cut := a_cut, d_cut := (PySem.W.fnOf "cut" "cut" (defArgs st_cut) (defBody st_cut) (defScope st_cut) .none kV_cut dc_cut pm_cut an_cut cd_cut ct_cut), f_read_bytes := a_read_bytes, d_read_bytes := (PySem.W.fnOf "read_bytes" "read_bytes" (defArgs st_read_bytes) (defBody st_read_bytes) (defScope st_read_bytes) .none kV_read_bytes dc_read_bytes pm_read_bytes an_read_bytes cd_read_bytes ct_read_bytes), f_read_with := a_read_with, d_read_with := (PySem.W.fnOf "read_with" "read_with" (defArgs st_read_with) (defBody st_read_with) (defScope st_read_with) .none kV_read_with dc_read_with pm_read_with an_read_with cd_read_with ct_read_with), f_pieces_of := a_pieces_of, d_pieces_of := (PySem.W.fnOf "pieces_of" "pieces_of" (defArgs st_pieces_of) (defBody st_pieces_of) (defScope st_pieces_of) .none kV_pieces_of dc_pieces_of pm_pieces_of an_pieces_of cd_pieces_of ct_pieces_of), f_first_wrong := a_first_wrong, d_first_wrong := (PySem.W.fnOf "first_wrong" "first_wrong" (defArgs st_first_wrong) (defBody st_first_wrong) (defScope st_first_wrong) .none kV_first_wrong dc_first_wrong pm_first_wrong an_first_wrong cd_first_wrong ct_first_wrong), f_begin_at := a_begin_at, d_begin_at := (PySem.W.fnOf "begin_at" "begin_at" (defArgs st_begin_at) (defBody st_begin_at) (defScope st_begin_at) .none kV_begin_at dc_begin_at pm_begin_at an_begin_at cd_begin_at ct_begin_at), f__law_deck := a__law_deck, d__law_deck := (PySem.W.fnOf "_law_deck" "_law_deck" (defArgs st__law_deck) (defBody st__law_deck) (defScope st__law_deck) .none kV__law_deck dc__law_deck pm__law_deck an__law_deck cd__law_deck ct__law_deck), f__law_take := a__law_take, d__law_take := (PySem.W.fnOf "_law_take" "_law_take" (defArgs st__law_take) (defBody st__law_take) (defScope st__law_take) .none kV__law_take dc__law_take pm__law_take an__law_take cd__law_take ct__law_take), f__law_bytes := a__law_bytes, d__law_bytes := (PySem.W.fnOf "_law_bytes" "_law_bytes" (defArgs st__law_bytes) (defBody st__law_bytes) (defScope st__law_bytes) .none kV__law_bytes dc__law_bytes pm__law_bytes an__law_bytes cd__law_bytes ct__law_bytes), f__law_starts := a__law_starts, d__law_starts := (PySem.W.fnOf "_law_starts" "_law_starts" (defArgs st__law_starts) (defBody st__law_starts) (defScope st__law_starts) .none kV__law_starts dc__law_starts pm__law_starts an__law_starts cd__law_starts ct__law_starts), f__law_pieces := a__law_pieces, d__law_pieces := (PySem.W.fnOf "_law_pieces" "_law_pieces" (defArgs st__law_pieces) (defBody st__law_pieces) (defScope st__law_pieces) .none kV__law_pieces dc__law_pieces pm__law_pieces an__law_pieces cd__law_pieces ct__law_pieces), f__law_any_sign := a__law_any_sign, d__law_any_sign := (PySem.W.fnOf "_law_any_sign" "_law_any_sign" (defArgs st__law_any_sign) (defBody st__law_any_sign) (defScope st__law_any_sign) .none kV__law_any_sign dc__law_any_sign pm__law_any_sign an__law_any_sign cd__law_any_sign ct__law_any_sign), f__law_read := a__law_read, d__law_read := (PySem.W.fnOf "_law_read" "_law_read" (defArgs st__law_read) (defBody st__law_read) (defScope st__law_read) .none kV__law_read dc__law_read pm__law_read an__law_read cd__law_read ct__law_read), f_law := a_law, d_law := (PySem.W.fnOf "law" "law" (defArgs st_law) (defBody st_law) (defScope st_law) .none kV_law dc_law pm_law an_law cd_law ct_law), c_NormError := c_NormError, c_InvalidText := c_InvalidText, fi_InvalidText := a_InvalidText, di_InvalidText := (PySem.W.fnOf "__init__" "InvalidText.__init__" (defArgs st_InvalidText___init__) (defBody st_InvalidText___init__) (defScope st_InvalidText___init__) .none kV_InvalidText dc_InvalidText pm_InvalidText an_InvalidText cd_InvalidText ct_InvalidText), c_InvalidBytes := c_InvalidBytes, fi_InvalidBytes := a_InvalidBytes, di_InvalidBytes := (PySem.W.fnOf "__init__" "InvalidBytes.__init__" (defArgs st_InvalidBytes___init__) (defBody st_InvalidBytes___init__) (defScope st_InvalidBytes___init__) .none kV_InvalidBytes dc_InvalidBytes pm_InvalidBytes an_InvalidBytes cd_InvalidBytes ct_InvalidBytes) } := { g_abs := PySem.W.mg_none_of X G zg_abs, g_bool := PySem.W.mg_none_of X G zg_bool, g_int := PySem.W.mg_none_of X G zg_int, g_isinstance := PySem.W.mg_none_of X G zg_isinstance, g_len := PySem.W.mg_none_of X G zg_len, g_list := PySem.W.mg_none_of X G zg_list, g_max := PySem.W.mg_none_of X G zg_max, g_min := PySem.W.mg_none_of X G zg_min, g_range := PySem.W.mg_none_of X G zg_range, g_sum := PySem.W.mg_none_of X G zg_sum, c_MOST_SIGNS := ⟨_, PySem.W.mg_of X G zc_MOST_SIGNS⟩, m_is_number := PySem.W.mg_of X G zm_is_number, F_is_number := fun_mk zl_is_number zk_is_number zp_is_number, b_is_number := (fun_mk (st := st_is_number) zl_is_number zk_is_number zp_is_number).binds (ps := ["value", "least", "bound"]) fun _ _ _ _ _ _ us hl => match us, hl with | [_, _, _], _ => rfl, m_check_bytes := PySem.W.mg_of X G zm_check_bytes, F_check_bytes := fun_mk zl_check_bytes zk_check_bytes zp_check_bytes, b_check_bytes := (fun_mk (st := st_check_bytes) zl_check_bytes zk_check_bytes zp_check_bytes).binds (ps := ["data"]) fun _ _ _ _ _ _ us hl => match us, hl with | [_], _ => rfl, m_check_signs := PySem.W.mg_of X G zm_check_signs, F_check_signs := fun_mk zl_check_signs zk_check_signs zp_check_signs, b_check_signs := (fun_mk (st := st_check_signs) zl_check_signs zk_check_signs zp_check_signs).binds (ps := ["text"]) fun _ _ _ _ _ _ us hl => match us, hl with | [_], _ => rfl, m_code_of := PySem.W.mg_of X G zm_code_of, F_code_of := fun_mk zl_code_of zk_code_of zp_code_of, b_code_of := (fun_mk (st := st_code_of) zl_code_of zk_code_of zp_code_of).binds (ps := ["sign"]) fun _ _ _ _ _ _ us hl => match us, hl with | [_], _ => rfl, m_written := PySem.W.mg_of X G zm_written, F_written := fun_mk zl_written zk_written zp_written, b_written := (fun_mk (st := st_written) zl_written zk_written zp_written).binds (ps := ["text"]) fun _ _ _ _ _ _ us hl => match us, hl with | [_], _ => rfl, m_bytes_of := PySem.W.mg_of X G zm_bytes_of, F_bytes_of := fun_mk zl_bytes_of zk_bytes_of zp_bytes_of, b_bytes_of := (fun_mk (st := st_bytes_of) zl_bytes_of zk_bytes_of zp_bytes_of).binds (ps := ["text"]) fun _ _ _ _ _ _ us hl => match us, hl with | [_], _ => rfl, m_first_byte := PySem.W.mg_of X G zm_first_byte, F_first_byte := fun_mk zl_first_byte zk_first_byte zp_first_byte, b_first_byte := (fun_mk (st := st_first_byte) zl_first_byte zk_first_byte zp_first_byte).binds (ps := ["byte"]) fun _ _ _ _ _ _ us hl => match us, hl with | [_], _ => rfl, m_reach := PySem.W.mg_of X G zm_reach, F_reach := fun_mk zl_reach zk_reach zp_reach, b_reach := (fun_mk (st := st_reach) zl_reach zk_reach zp_reach).binds (ps := ["data", "place"]) fun _ _ _ _ _ _ us hl => match us, hl with | [_, _], _ => rfl, m_value_of := PySem.W.mg_of X G zm_value_of, F_value_of := fun_mk zl_value_of zk_value_of zp_value_of, b_value_of := (fun_mk (st := st_value_of) zl_value_of zk_value_of zp_value_of).binds (ps := ["data"]) fun _ _ _ _ _ _ us hl => match us, hl with | [_], _ => rfl, m_cut := PySem.W.mg_of X G zm_cut, F_cut := fun_mk zl_cut zk_cut zp_cut, b_cut := (fun_mk (st := st_cut) zl_cut zk_cut zp_cut).binds (ps := ["data"]) fun _ _ _ _ _ _ us hl => match us, hl with | [_], _ => rfl, m_read_bytes := PySem.W.mg_of X G zm_read_bytes, F_read_bytes := fun_mk zl_read_bytes zk_read_bytes zp_read_bytes, b_read_bytes := (fun_mk (st := st_read_bytes) zl_read_bytes zk_read_bytes zp_read_bytes).binds (ps := ["data"]) fun _ _ _ _ _ _ us hl => match us, hl with | [_], _ => rfl, m_read_with := PySem.W.mg_of X G zm_read_with, F_read_with := fun_mk zl_read_with zk_read_with zp_read_with, b_read_with := (fun_mk (st := st_read_with) zl_read_with zk_read_with zp_read_with).binds (ps := ["data", "sign"]) fun _ _ _ _ _ _ us hl => match us, hl with | [_, _], _ => rfl, m_pieces_of := PySem.W.mg_of X G zm_pieces_of, F_pieces_of := fun_mk zl_pieces_of zk_pieces_of zp_pieces_of, b_pieces_of := (fun_mk (st := st_pieces_of) zl_pieces_of zk_pieces_of zp_pieces_of).binds (ps := ["data"]) fun _ _ _ _ _ _ us hl => match us, hl with | [_], _ => rfl, m_first_wrong := PySem.W.mg_of X G zm_first_wrong, F_first_wrong := fun_mk zl_first_wrong zk_first_wrong zp_first_wrong, b_first_wrong := (fun_mk (st := st_first_wrong) zl_first_wrong zk_first_wrong zp_first_wrong).binds (ps := ["data"]) fun _ _ _ _ _ _ us hl => match us, hl with | [_], _ => rfl, m_begin_at := PySem.W.mg_of X G zm_begin_at, F_begin_at := fun_mk zl_begin_at zk_begin_at zp_begin_at, b_begin_at := (fun_mk (st := st_begin_at) zl_begin_at zk_begin_at zp_begin_at).binds (ps := ["data", "place"]) fun _ _ _ _ _ _ us hl => match us, hl with | [_, _], _ => rfl, m__law_deck := PySem.W.mg_of X G zm__law_deck, F__law_deck := fun_mk zl__law_deck zk__law_deck zp__law_deck, b__law_deck := (fun_mk (st := st__law_deck) zl__law_deck zk__law_deck zp__law_deck).binds (ps := ["script", "cells", "each"]) fun _ _ _ _ _ _ us hl => match us, hl with | [_, _, _], _ => rfl, m__law_take := PySem.W.mg_of X G zm__law_take, F__law_take := fun_mk zl__law_take zk__law_take zp__law_take, b__law_take := (fun_mk (st := st__law_take) zl__law_take zk__law_take zp__law_take).binds (ps := ["deck", "many"]) fun _ _ _ _ _ _ us hl => match us, hl with | [_, _], _ => rfl, m__law_bytes := PySem.W.mg_of X G zm__law_bytes, F__law_bytes := fun_mk zl__law_bytes zk__law_bytes zp__law_bytes, b__law_bytes := (fun_mk (st := st__law_bytes) zl__law_bytes zk__law_bytes zp__law_bytes).binds (ps := ["text"]) fun _ _ _ _ _ _ us hl => match us, hl with | [_], _ => rfl, m__law_starts := PySem.W.mg_of X G zm__law_starts, F__law_starts := fun_mk zl__law_starts zk__law_starts zp__law_starts, b__law_starts := (fun_mk (st := st__law_starts) zl__law_starts zk__law_starts zp__law_starts).binds (ps := ["data"]) fun _ _ _ _ _ _ us hl => match us, hl with | [_], _ => rfl, m__law_pieces := PySem.W.mg_of X G zm__law_pieces, F__law_pieces := fun_mk zl__law_pieces zk__law_pieces zp__law_pieces, b__law_pieces := (fun_mk (st := st__law_pieces) zl__law_pieces zk__law_pieces zp__law_pieces).binds (ps := ["data"]) fun _ _ _ _ _ _ us hl => match us, hl with | [_], _ => rfl, m__law_any_sign := PySem.W.mg_of X G zm__law_any_sign, F__law_any_sign := fun_mk zl__law_any_sign zk__law_any_sign zp__law_any_sign, b__law_any_sign := (fun_mk (st := st__law_any_sign) zl__law_any_sign zk__law_any_sign zp__law_any_sign).binds (ps := ["deck"]) fun _ _ _ _ _ _ us hl => match us, hl with | [_], _ => rfl, m__law_read := PySem.W.mg_of X G zm__law_read, F__law_read := fun_mk zl__law_read zk__law_read zp__law_read, b__law_read := (fun_mk (st := st__law_read) zl__law_read zk__law_read zp__law_read).binds (ps := ["data"]) fun _ _ _ _ _ _ us hl => match us, hl with | [_], _ => rfl, m_law := PySem.W.mg_of X G zm_law, F_law := fun_mk zl_law zk_law zp_law, b_law := (fun_mk (st := st_law) zl_law zk_law zp_law).binds (ps := ["script"]) fun _ _ _ _ _ _ us hl => match us, hl with | [_], _ => rfl, nm := PySem.W.mg_of X G zn_m, nsp := zn_sp, nrd := zn_rd, nv := zn_v, m_InvalidText := PySem.W.mg_of X G xm_InvalidText, e_InvalidText := ⟨⟨⟨_, _, _, _, _, _, _, _, _, _, _, _, _, _, _, xl_InvalidText, xr_InvalidText⟩, xs_InvalidText, xe_InvalidText, xy_InvalidText, xk_InvalidText⟩, ⟨xa_InvalidText, xg_InvalidText, xe_InvalidText, xh_InvalidText⟩, xw_InvalidText⟩, i_InvalidText := xi_InvalidText, t_InvalidText := xt_InvalidText, F_InvalidText___init__ := fun_mk xo_InvalidText xc_InvalidText xp_InvalidText, b_InvalidText___init__ := (fun_mk (st := st_InvalidText___init__) xo_InvalidText xc_InvalidText xp_InvalidText).binds (ps := ["self", "what"]) fun _ _ _ _ _ _ us hl => match us, hl with | [_, _], _ => rfl, x_InvalidText := (fun k h => match k, h with | 0, _ => exm_of xe_InvalidText xz_InvalidText xy_InvalidText xb_InvalidText_InvalidText | 1, _ => exm_of xe_InvalidText xz_InvalidText xy_InvalidText xb_InvalidText_InvalidBytes), m_InvalidBytes := PySem.W.mg_of X G xm_InvalidBytes, e_InvalidBytes := ⟨⟨⟨_, _, _, _, _, _, _, _, _, _, _, _, _, _, _, xl_InvalidBytes, xr_InvalidBytes⟩, xs_InvalidBytes, xe_InvalidBytes, xy_InvalidBytes, xk_InvalidBytes⟩, ⟨xa_InvalidBytes, xg_InvalidBytes, xe_InvalidBytes, xh_InvalidBytes⟩, xw_InvalidBytes⟩, i_InvalidBytes := xi_InvalidBytes, t_InvalidBytes := xt_InvalidBytes, F_InvalidBytes___init__ := fun_mk xo_InvalidBytes xc_InvalidBytes xp_InvalidBytes, b_InvalidBytes___init__ := (fun_mk (st := st_InvalidBytes___init__) xo_InvalidBytes xc_InvalidBytes xp_InvalidBytes).binds (ps := ["self", "what"]) fun _ _ _ _ _ _ us hl => match us, hl with | [_, _], _ => rfl, x_InvalidBytes := (fun k h => match k, h with | 0, _ => exm_of xe_InvalidBytes xz_InvalidBytes xy_InvalidBytes xb_InvalidBytes_InvalidText | 1, _ => exm_of xe_InvalidBytes xz_InvalidBytes xy_InvalidBytes xb_InvalidBytes_InvalidBytes) }
  exact ⟨_, fun s v => .of_eq rfl, fun base _ _ => (ok_law (P := l.prog) (w := w) (base := base) T).imp fun vs H Q E hs => law_imp law_true hs⟩
theorem walk {l : PySem.W.OpenLaw} {q : Program} {loose : List Str} {XP : (Str → Option Value) → Heap → Prop} {YP : World → Heap → Prop} {d : DefRec} {K : Params → PySem.W.Frag} (hn : l.most = some 63) (hdf : d.params.defaults = [])
    (hY : ∀ (w : World) (h : Heap), YP w h → (K w.params).In h)
    (F : ∀ (w : World) (mg : Str → Option Value) (fa : Addr) (h : Heap), (K w.params).In h → h.Ns mainGlobals mg → mg d.name = some (.ref fa) →
      ∃ fd : FuncData, (∀ (s : Shared) (u : Value), BindsTo s fd ⟨[u], []⟩ [("script", u)]) ∧ ∀ base : Heap, (K w.params).In base → base.Ns mainGlobals mg → FnOk l.prog w (K w.params) mg base (L2.CX l.prog w) 6 fa fd ["script"] (spLaw (K w.params))) :
    PySem.W.WalkO q loose XP YP l.row.toRowW d [] (fun f vs => PySem.call f vs) :=
  L2.walk_of (n := 63) (k := 6) (x := "script") (CX := fun w => L2.CX l.prog w) (sp := fun w => spLaw (K w.params)) hn (by decide) hdf ⟨rfl, by decide, by decide⟩ hY F (fun _ _ a ns hl _ hS => ⟨a, ns, rfl, hS, hl, fun _ => rfl⟩) fun _ _ _ _ _ z => by
    obtain ⟨_, _, _, _, _, _, _, _, _, _, _, _, q⟩ := z
    exact q
end K16
open PySem PySem.W PyProof.Rows in
set_option maxRecDepth 100000 in
set_option maxHeartbeats 0 in
theorem PySem.Challenge.cw_normwork_k16_whole_bytes_of_signs_holds : PySem.Challenge.rw_normwork_k16_whole_bytes_of_signs.Holds := by
  w_on; o_law; k_head; (case hw => w_witness2)
  k_fill
  refine K16.walk (l := PySem.Challenge.rw_normwork_k16_whole_bytes_of_signs) rfl rfl (fun w h Y => PySem.W.kIn_of Y) ?F
  case F =>
    intro w mg fa h KX G hmg
    refine' K16.all_mk KX G hmg ?zg_abs ?zg_bool ?zg_int ?zg_isinstance ?zg_len ?zg_list ?zg_max ?zg_min ?zg_range ?zg_sum ?zc_MOST_SIGNS ?zm_is_number ?zl_is_number ?zk_is_number ?zp_is_number ?zm_check_bytes ?zl_check_bytes ?zk_check_bytes ?zp_check_bytes ?zm_check_signs ?zl_check_signs ?zk_check_signs ?zp_check_signs ?zm_code_of ?zl_code_of ?zk_code_of ?zp_code_of ?zm_written ?zl_written ?zk_written ?zp_written ?zm_bytes_of ?zl_bytes_of ?zk_bytes_of ?zp_bytes_of ?zm_first_byte ?zl_first_byte ?zk_first_byte ?zp_first_byte ?zm_reach ?zl_reach ?zk_reach ?zp_reach ?zm_value_of ?zl_value_of ?zk_value_of ?zp_value_of ?zm_cut ?zl_cut ?zk_cut ?zp_cut ?zm_read_bytes ?zl_read_bytes ?zk_read_bytes ?zp_read_bytes ?zm_read_with ?zl_read_with ?zk_read_with ?zp_read_with ?zm_pieces_of ?zl_pieces_of ?zk_pieces_of ?zp_pieces_of ?zm_first_wrong ?zl_first_wrong ?zk_first_wrong ?zp_first_wrong ?zm_begin_at ?zl_begin_at ?zk_begin_at ?zp_begin_at ?zm__law_deck ?zl__law_deck ?zk__law_deck ?zp__law_deck ?zm__law_take ?zl__law_take ?zk__law_take ?zp__law_take ?zm__law_bytes ?zl__law_bytes ?zk__law_bytes ?zp__law_bytes ?zm__law_starts ?zl__law_starts ?zk__law_starts ?zp__law_starts ?zm__law_pieces ?zl__law_pieces ?zk__law_pieces ?zp__law_pieces ?zm__law_any_sign ?zl__law_any_sign ?zk__law_any_sign ?zp__law_any_sign ?zm__law_read ?zl__law_read ?zk__law_read ?zp__law_read ?zm_law ?zl_law ?zk_law ?zp_law ?zn_m ?zn_sp ?zn_rd ?zn_v ?xm_InvalidText ?xl_InvalidText ?xr_InvalidText ?xs_InvalidText ?xa_InvalidText ?xg_InvalidText ?xw_InvalidText ?xi_InvalidText ?xt_InvalidText ?xo_InvalidText ?xc_InvalidText ?xp_InvalidText ?xk_InvalidText ?xe_InvalidText ?xy_InvalidText ?xh_InvalidText ?xz_InvalidText ?xb_InvalidText_InvalidText ?xb_InvalidText_InvalidBytes ?xm_InvalidBytes ?xl_InvalidBytes ?xr_InvalidBytes ?xs_InvalidBytes ?xa_InvalidBytes ?xg_InvalidBytes ?xw_InvalidBytes ?xi_InvalidBytes ?xt_InvalidBytes ?xo_InvalidBytes ?xc_InvalidBytes ?xp_InvalidBytes ?xk_InvalidBytes ?xe_InvalidBytes ?xy_InvalidBytes ?xh_InvalidBytes ?xz_InvalidBytes ?xb_InvalidBytes_InvalidText ?xb_InvalidBytes_InvalidBytes
    (case zg_abs => k_is)
    (case zg_bool => k_is)
    (case zg_int => k_is)
    (case zg_isinstance => k_is)
    (case zg_len => k_is)
    (case zg_list => k_is)
    (case zg_max => k_is)
    (case zg_min => k_is)
    (case zg_range => k_is)
    (case zg_sum => k_is)
    (case zc_MOST_SIGNS => k_is)
    (case zm_is_number => k_is)
    (case zl_is_number => k_is)
    (case zk_is_number => k_is)
    (case zp_is_number => k_is)
    (case zm_check_bytes => k_is)
    (case zl_check_bytes => k_is)
    (case zk_check_bytes => k_is)
    (case zp_check_bytes => k_is)
    (case zm_check_signs => k_is)
    (case zl_check_signs => k_is)
    (case zk_check_signs => k_is)
    (case zp_check_signs => k_is)
    (case zm_code_of => k_is)
    (case zl_code_of => k_is)
    (case zk_code_of => k_is)
    (case zp_code_of => k_is)
    (case zm_written => k_is)
    (case zl_written => k_is)
    (case zk_written => k_is)
    (case zp_written => k_is)
    (case zm_bytes_of => k_is)
    (case zl_bytes_of => k_is)
    (case zk_bytes_of => k_is)
    (case zp_bytes_of => k_is)
    (case zm_first_byte => k_is)
    (case zl_first_byte => k_is)
    (case zk_first_byte => k_is)
    (case zp_first_byte => k_is)
    (case zm_reach => k_is)
    (case zl_reach => k_is)
    (case zk_reach => k_is)
    (case zp_reach => k_is)
    (case zm_value_of => k_is)
    (case zl_value_of => k_is)
    (case zk_value_of => k_is)
    (case zp_value_of => k_is)
    (case zm_cut => k_is)
    (case zl_cut => k_is)
    (case zk_cut => k_is)
    (case zp_cut => k_is)
    (case zm_read_bytes => k_is)
    (case zl_read_bytes => k_is)
    (case zk_read_bytes => k_is)
    (case zp_read_bytes => k_is)
    (case zm_read_with => k_is)
    (case zl_read_with => k_is)
    (case zk_read_with => k_is)
    (case zp_read_with => k_is)
    (case zm_pieces_of => k_is)
    (case zl_pieces_of => k_is)
    (case zk_pieces_of => k_is)
    (case zp_pieces_of => k_is)
    (case zm_first_wrong => k_is)
    (case zl_first_wrong => k_is)
    (case zk_first_wrong => k_is)
    (case zp_first_wrong => k_is)
    (case zm_begin_at => k_is)
    (case zl_begin_at => k_is)
    (case zk_begin_at => k_is)
    (case zp_begin_at => k_is)
    (case zm__law_deck => k_is)
    (case zl__law_deck => k_is)
    (case zk__law_deck => k_is)
    (case zp__law_deck => k_is)
    (case zm__law_take => k_is)
    (case zl__law_take => k_is)
    (case zk__law_take => k_is)
    (case zp__law_take => k_is)
    (case zm__law_bytes => k_is)
    (case zl__law_bytes => k_is)
    (case zk__law_bytes => k_is)
    (case zp__law_bytes => k_is)
    (case zm__law_starts => k_is)
    (case zl__law_starts => k_is)
    (case zk__law_starts => k_is)
    (case zp__law_starts => k_is)
    (case zm__law_pieces => k_is)
    (case zl__law_pieces => k_is)
    (case zk__law_pieces => k_is)
    (case zp__law_pieces => k_is)
    (case zm__law_any_sign => k_is)
    (case zl__law_any_sign => k_is)
    (case zk__law_any_sign => k_is)
    (case zp__law_any_sign => k_is)
    (case zm__law_read => k_is)
    (case zl__law_read => k_is)
    (case zk__law_read => k_is)
    (case zp__law_read => k_is)
    (case zm_law => k_is)
    (case zl_law => k_is)
    (case zk_law => k_is)
    (case zp_law => k_is)
    (case zn_m => k_is)
    (case zn_sp => k_is)
    (case zn_rd => k_is)
    (case zn_v => k_is)
    (case xm_InvalidText => k_is)
    (case xl_InvalidText => k_is)
    (case xr_InvalidText => decide +kernel)
    (case xs_InvalidText => k_is)
    (case xa_InvalidText => k_is)
    (case xg_InvalidText => k_is)
    (case xw_InvalidText => k_is)
    (case xi_InvalidText => k_is)
    (case xt_InvalidText => k_is)
    (case xo_InvalidText => k_is)
    (case xc_InvalidText => k_is)
    (case xp_InvalidText => k_is)
    (case xk_InvalidText => k_is)
    (case xe_InvalidText => k_is)
    (case xy_InvalidText => k_is)
    (case xh_InvalidText => k_is)
    (case xz_InvalidText => k_is)
    (case xm_InvalidBytes => k_is)
    (case xl_InvalidBytes => k_is)
    (case xr_InvalidBytes => decide +kernel)
    (case xs_InvalidBytes => k_is)
    (case xa_InvalidBytes => k_is)
    (case xg_InvalidBytes => k_is)
    (case xw_InvalidBytes => k_is)
    (case xi_InvalidBytes => k_is)
    (case xt_InvalidBytes => k_is)
    (case xo_InvalidBytes => k_is)
    (case xc_InvalidBytes => k_is)
    (case xp_InvalidBytes => k_is)
    (case xk_InvalidBytes => k_is)
    (case xe_InvalidBytes => k_is)
    (case xy_InvalidBytes => k_is)
    (case xh_InvalidBytes => k_is)
    (case xz_InvalidBytes => k_is)
    (case xb_InvalidText_InvalidText => k_is)
    (case xb_InvalidText_InvalidBytes => k_is)
    (case xb_InvalidBytes_InvalidText => k_is)
    (case xb_InvalidBytes_InvalidBytes => k_is)
#print axioms PySem.Challenge.cw_normwork_k16_whole_bytes_of_signs_holds
