import PyProof.Rows.All
import Wide.All
import OpenK.AllK
import Wide.FinOn
import HandS.ForMost
import HandS.Exc
import HandS.TryOnly
import HandS.ExcOwn
import HandS.WordsExc
import HandS.Walk
import HandS.Zip
import HandS.Style
import HandS.TupAny
import HandS.TupMul
import HandS.Conv
import HandS.Deep
import HandS.IsInst
import HandS.Wide
import HandS.SortInts
import PySem.Challenge.RW_restsmapped_k63_whole_constant_polynomia
set_option Elab.async false
set_option linter.all false
set_option maxRecDepth 100000
/-! # A pure reading of the programs' language (values as data, lists that change owned by one slot), and that the hand layer's readings follow from it -/
namespace Sm
open PySem PySem.Spec PyProof.Rows L2

/-! ## 1. data, slots, results -/
inductive D where
  | non
  | bl (b : Bool)
  | int (i : Int)
  | str (s : Str)
  | tup (l : List D)
  | lst (l : List D)
  | dic (ks : List Key) (vs : List D)
  | scr (l : List Int)
  deriving Inhabited
/-- a slot of the frame: nothing yet, a value that never changes, an object that this slot alone holds -/
inductive Sl where
  | no
  | fro (d : D)
  | own (d : D)
/-- an expression's end: a value, an exception (its class's number, what it carries), nothing that is known -/
inductive R (α : Type) where
  | ok (a : α)
  | ex (c : Nat) (pl : D) (ρ : List Sl)
  | no
def R.bnd {α β : Type} (r : R (α × List Sl)) (k : α → List Sl → R β) : R β := match r with
  | .ok (a, ρ) => k a ρ
  | .ex c pl ρ => .ex c pl ρ
  | .no => .no
/-- a statement's end -/
inductive Fl where
  | nx (ρ : List Sl)
  | bk (ρ : List Sl)
  | ct (ρ : List Sl)
  | rt (d : D) (ρ : List Sl)
  /-- a new object handed back, held by nobody -/
  | rn (d : D) (ρ : List Sl)
  | ex (c : Nat) (pl : D) (ρ : List Sl)
  | no
def R.bndS {α : Type} (r : R (α × List Sl)) (k : α → List Sl → Fl) : Fl := match r with
  | .ok (a, ρ) => k a ρ
  | .ex c pl ρ => .ex c pl ρ
  | .no => .no
abbrev Ev := List Sl → R (D × List Sl)
abbrev Tv := List Sl → R (Bool × List Sl)
abbrev Av := List Sl → R (List D × List Sl)
abbrev Sv := List Sl → Fl
@[simp] theorem bnd_ok {α β : Type} (a : α) (ρ : List Sl) (k : α → List Sl → R β) : (R.ok (a, ρ)).bnd k = k a ρ := rfl
@[simp] theorem bnd_no {α β : Type} (k : α → List Sl → R β) : (R.no : R (α × List Sl)).bnd k = .no := rfl
@[simp] theorem bnd_ex {α β : Type} (c : Nat) (pl : D) (ρ : List Sl) (k : α → List Sl → R β) : (R.ex c pl ρ : R (α × List Sl)).bnd k = .ex c pl ρ := rfl
@[simp] theorem bndS_ok {α : Type} (a : α) (ρ : List Sl) (k : α → List Sl → Fl) : (R.ok (a, ρ)).bndS k = k a ρ := rfl
@[simp] theorem bndS_no {α : Type} (k : α → List Sl → Fl) : (R.no : R (α × List Sl)).bndS k = .no := rfl
@[simp] theorem bndS_ex {α : Type} (c : Nat) (pl : D) (ρ : List Sl) (k : α → List Sl → Fl) : (R.ex c pl ρ : R (α × List Sl)).bndS k = .ex c pl ρ := rfl

/-! ## 2. values that stand for data -/
inductive Rep (K : PySem.W.Frag) (M : Hp) : V → D → Prop where
  | non : Rep K M .non .non
  | bl (b : Bool) : Rep K M (.bl b) (.bl b)
  | int (i : Int) : Rep K M (.int i) (.int i)
  | str (s : Str) : Rep K M (.str s) (.str s)
  | tup {a : Addr} {vs : List V} {ds : List D} (h : M a = some (.tup vs)) (l : vs.length = ds.length) (r : ∀ (i : Nat) v d, vs[i]? = some v → ds[i]? = some d → Rep K M v d) : Rep K M (.ref a) (.tup ds)
  | lst {a : Addr} {vs : List V} {ds : List D} (h : M a = some (.lst vs)) (l : vs.length = ds.length) (r : ∀ (i : Nat) v d, vs[i]? = some v → ds[i]? = some d → Rep K M v d) : Rep K M (.ref a) (.lst ds)
  | dic {a : Addr} {kvs : List (Key × V)} {ds : List D} (h : M a = some (.dK kvs)) (l : kvs.length = ds.length) (r : ∀ (i : Nat) v d, (kvs.map Prod.snd)[i]? = some v → ds[i]? = some d → Rep K M v d) : Rep K M (.ref a) (.dic (kvs.map Prod.fst) ds)
  | scr {a : Addr} {ns : List Int} (h : SqL K M a (ns.map V.int)) : Rep K M (.ref a) (.scr ns)
def Reps (K : PySem.W.Frag) (M : Hp) (vs : List V) (ds : List D) : Prop := vs.length = ds.length ∧ ∀ (i : Nat) v d, vs[i]? = some v → ds[i]? = some d → Rep K M v d
/-- an object that stands for data, its parts frozen -/
inductive RepO (K : PySem.W.Frag) (M : Hp) : HO → D → Prop where
  | lst {vs : List V} {ds : List D} (r : Reps K M vs ds) : RepO K M (.lst vs) (.lst ds)
  | dic {kvs : List (Key × V)} {ds : List D} (r : Reps K M (kvs.map Prod.snd) ds) : RepO K M (.dK kvs) (.dic (kvs.map Prod.fst) ds)
section
variable {K : PySem.W.Frag} {M M' : Hp}
theorem Rep.mono {v : V} {d : D} (r : Rep K M v d) (s : Same M M') : Rep K M' v d := by
  induction r with
  | non => exact .non
  | bl b => exact .bl b
  | int i => exact .int i
  | str x => exact .str x
  | tup h l _ ih => exact .tup (s _ _ h) l ih
  | lst h l _ ih => exact .lst (s _ _ h) l ih
  | dic h l _ ih => exact .dic (s _ _ h) l ih
  | scr h => exact .scr (s.seq h)
theorem Reps.mono {vs : List V} {ds : List D} (r : Reps K M vs ds) (s : Same M M') : Reps K M' vs ds := ⟨r.1, fun i v d h1 h2 => (r.2 i v d h1 h2).mono s⟩
theorem RepO.mono {o : HO} {d : D} (r : RepO K M o d) (s : Same M M') : RepO K M' o d := by
  cases r with
  | lst r => exact .lst (r.mono s)
  | dic r => exact .dic (r.mono s)
theorem RepO.rep {o : HO} {d : D} {p : Addr} (r : RepO K M o d) (h : M p = some o) : Rep K M (.ref p) d := by
  cases r with
  | lst r => exact .lst h r.1 r.2
  | dic r => exact .dic h (by simpa using r.1) r.2
theorem Reps.nil : Reps K M [] [] := ⟨rfl, fun i v d h => by simp at h⟩
theorem Reps.cons {v : V} {d : D} {vs : List V} {ds : List D} (r : Rep K M v d) (rs : Reps K M vs ds) : Reps K M (v :: vs) (d :: ds) := by
  refine ⟨by simp [rs.1], fun i x e h1 h2 => ?_⟩
  cases i with
  | zero => simp at h1 h2; rw [← h1, ← h2]; exact r
  | succ i => simp at h1 h2; exact rs.2 i x e h1 h2
theorem Reps.tail {v : V} {d : D} {vs : List V} {ds : List D} (rs : Reps K M (v :: vs) (d :: ds)) : Rep K M v d ∧ Reps K M vs ds := by
  refine ⟨rs.2 0 v d rfl rfl, by simpa using rs.1, fun i x e h1 h2 => rs.2 (i + 1) x e (by simpa using h1) (by simpa using h2)⟩
theorem Reps.get {vs : List V} {ds : List D} {i : Nat} {d : D} (r : Reps K M vs ds) (h : ds[i]? = some d) : ∃ v, vs[i]? = some v ∧ Rep K M v d := by
  obtain ⟨hi, _⟩ := List.getElem?_eq_some_iff.mp h
  have hv : i < vs.length := by rw [r.1]; exact hi
  exact ⟨vs[i], List.getElem?_eq_getElem hv, r.2 i _ _ (List.getElem?_eq_getElem hv) h⟩
theorem Reps.get' {vs : List V} {ds : List D} {i : Nat} {v : V} (r : Reps K M vs ds) (h : vs[i]? = some v) : ∃ d, ds[i]? = some d ∧ Rep K M v d := by
  obtain ⟨hi, _⟩ := List.getElem?_eq_some_iff.mp h
  have hv : i < ds.length := by rw [← r.1]; exact hi
  exact ⟨ds[i], List.getElem?_eq_getElem hv, r.2 i _ _ h (List.getElem?_eq_getElem hv)⟩
theorem Reps.append {vs ws : List V} {ds es : List D} (a : Reps K M vs ds) (b : Reps K M ws es) : Reps K M (vs ++ ws) (ds ++ es) := by
  refine ⟨by simp [a.1, b.1], fun i v d h1 h2 => ?_⟩
  by_cases hi : i < vs.length
  · rw [List.getElem?_append_left hi] at h1
    rw [List.getElem?_append_left (by rw [← a.1]; exact hi)] at h2
    exact a.2 i v d h1 h2
  · rw [List.getElem?_append_right (by omega)] at h1
    rw [List.getElem?_append_right (by rw [← a.1]; omega), ← a.1] at h2
    exact b.2 _ v d h1 h2
theorem Reps.one {v : V} {d : D} (r : Rep K M v d) : Reps K M [v] [d] := .cons r .nil
theorem Reps.drop {vs : List V} {ds : List D} (r : Reps K M vs ds) (n : Nat) : Reps K M (vs.drop n) (ds.drop n) :=
  ⟨by simp [r.1], fun i v d h1 h2 => r.2 (n + i) v d (by simpa using h1) (by simpa using h2)⟩
theorem Reps.take {vs : List V} {ds : List D} (r : Reps K M vs ds) (n : Nat) : Reps K M (vs.take n) (ds.take n) := by
  refine ⟨by simp [r.1], fun i v d h1 h2 => ?_⟩
  rw [List.getElem?_take] at h1 h2
  split at h1
  · rw [if_pos ‹_›] at h2; exact r.2 i v d h1 h2
  · cases h1
theorem Reps.reverse {vs : List V} {ds : List D} (r : Reps K M vs ds) : Reps K M vs.reverse ds.reverse := by
  refine ⟨by simp [r.1], fun i v d h1 h2 => ?_⟩
  have hi : i < vs.length := by
    have := (List.getElem?_eq_some_iff.mp h1).1; simpa using this
  rw [List.getElem?_reverse hi] at h1
  rw [List.getElem?_reverse (by rw [← r.1]; exact hi), ← r.1] at h2
  exact r.2 _ v d h1 h2
theorem Reps.set {vs : List V} {ds : List D} {v : V} {d : D} (r : Reps K M vs ds) (q : Rep K M v d) (j : Nat) : Reps K M (vs.set j v) (ds.set j d) := by
  refine ⟨by simp [r.1], fun i x e h1 h2 => ?_⟩
  rw [List.getElem?_set] at h1 h2
  split at h1
  · rename_i hj
    subst hj
    rw [if_pos rfl] at h2
    split at h1
    · rename_i hl
      rw [if_pos (by rw [← r.1]; exact hl)] at h2
      cases h1; cases h2; exact q
    · cases h1
  · rename_i hj
    rw [if_neg hj] at h2
    exact r.2 i x e h1 h2
theorem Reps.erase {vs : List V} {ds : List D} (r : Reps K M vs ds) (j : Nat) : Reps K M (vs.eraseIdx j) (ds.eraseIdx j) := by
  refine ⟨by simp [List.length_eraseIdx, r.1], fun i x e h1 h2 => ?_⟩
  rw [List.getElem?_eraseIdx] at h1 h2
  split at h1
  · rw [if_pos ‹_›] at h2; exact r.2 _ x e h1 h2
  · rw [if_neg ‹_›] at h2; exact r.2 _ x e h1 h2
theorem Reps.dropLast {vs : List V} {ds : List D} (r : Reps K M vs ds) : Reps K M vs.dropLast ds.dropLast := by
  rw [List.dropLast_eq_take, List.dropLast_eq_take, r.1]
  exact r.take _
theorem Reps.rep {vs : List V} {ds : List D} (r : Reps K M vs ds) : ∀ n : Nat, Reps K M (List.replicate n vs).flatten (List.replicate n ds).flatten
  | 0 => .nil
  | n + 1 => by
    rw [List.replicate_succ, List.replicate_succ, List.flatten_cons, List.flatten_cons]
    exact r.append (Reps.rep r n)
/-- ints -/
theorem Reps.ints : ∀ {vs : List V} {ns : List Int}, Reps K M vs (ns.map D.int) → vs = ns.map V.int
  | [], [], _ => rfl
  | [], _ :: _, r => by have := r.1; simp at this
  | _ :: _, [], r => by have := r.1; simp at this
  | v :: vs, n :: ns, r => by
    obtain ⟨a, b⟩ := Reps.tail r
    rw [Reps.ints b]
    cases a
    rfl
theorem Reps.bls : ∀ {vs : List V} {ns : List Bool}, Reps K M vs (ns.map D.bl) → vs = ns.map V.bl
  | [], [], _ => rfl
  | [], _ :: _, r => by have := r.1; simp at this
  | _ :: _, [], r => by have := r.1; simp at this
  | v :: vs, n :: ns, r => by
    obtain ⟨a, b⟩ := Reps.tail r
    rw [Reps.bls b]
    cases a
    rfl
theorem reps_ints (ns : List Int) : Reps K M (ns.map V.int) (ns.map D.int) := by
  refine ⟨by simp, fun i v d h1 h2 => ?_⟩
  rw [List.getElem?_map] at h1 h2
  cases h : ns[i]? with
  | none => rw [h] at h1; cases h1
  | some n => rw [h] at h1 h2; cases h1; cases h2; exact .int n
end

/-! ## 3. steps of the heap -/
/-- from (M, H) to (M', H'): M the frozen part of H; what O holds may change, all else stays; what is frozen stays so; what gets frozen was frozen, new, or O's -/
structure Stp (O : Addr → Prop) (M H M' H' : Hp) : Prop where
  m : Same M M'
  h : ∀ a o, H a = some o → ¬ O a → H' a = some o
  al : ∀ a o, H a = some o → ∃ o', H' a = some o'
  n : ∀ a o, M' a = some o → M a = some o ∨ H a = none ∨ O a
section
variable {O O' : Addr → Prop} {M H M1 H1 M2 H2 : Hp}
theorem Stp.refl : Stp O M H M H := ⟨Same.refl _, fun _ _ h _ => h, fun _ o h => ⟨o, h⟩, fun _ _ h => .inl h⟩
theorem Stp.trans (a : Stp O M H M1 H1) (b : Stp O M1 H1 M2 H2) : Stp O M H M2 H2 := by
  refine ⟨a.m.trans b.m, fun x o h q => b.h x o (a.h x o h q) q, fun x o h => ?_, fun x o h => ?_⟩
  · obtain ⟨o', h'⟩ := a.al x o h
    exact b.al x o' h'
  · rcases b.n x o h with h | h | h
    · exact a.n x o h
    · refine .inr (.inl ?_)
      cases q : H x with
      | none => rfl
      | some u => obtain ⟨o', h'⟩ := a.al x u q; rw [h] at h'; cases h'
    · exact .inr (.inr h)
theorem Stp.new {p : Addr} {o : HO} (h : H p = none) (hs : ∀ a o, M a = some o → H a = some o) : Stp O M H (upd M p o) (upd H p o) := by
  have hm : M p = none := by
    cases q : M p with
    | none => rfl
    | some u => rw [hs p u q] at h; cases h
  refine ⟨fun b u e => ?_, fun b u e _ => ?_, fun b u e => ⟨u, ?_⟩, fun b u e => ?_⟩
  · rw [upd_ne (ne_of_none e hm)]; exact e
  · rw [upd_ne (ne_of_none e h)]; exact e
  · rw [upd_ne (ne_of_none e h)]; exact e
  · by_cases hb : b = p
    · subst hb; exact .inr (.inl h)
    · rw [upd_ne hb] at e; exact .inl e
theorem Stp.newN {p : Addr} {o : HO} (h : H p = none) : Stp O M H M (upd H p o) := by
  refine ⟨Same.refl _, fun b u e _ => ?_, fun b u e => ⟨u, ?_⟩, fun b u e => .inl e⟩
  · rw [upd_ne (ne_of_none e h)]; exact e
  · rw [upd_ne (ne_of_none e h)]; exact e
theorem Stp.write {p : Addr} {o u : HO} (h : O p) (hp : H p = some u) : Stp O M H M (upd H p o) := by
  refine ⟨Same.refl _, fun b w e q => ?_, fun b w e => ?_, fun b w e => .inl e⟩
  · rw [upd_ne (show b ≠ p from fun z => q (by rw [z]; exact h))]; exact e
  · by_cases hb : b = p
    · subst hb; exact ⟨o, upd_same⟩
    · exact ⟨w, by rw [upd_ne hb]; exact e⟩
end
/-- the written part, and where the classes of exceptions stand -/
structure Gx where
  K : PySem.W.Frag
  xc : Nat → Addr
  /-- where the object of slot 0 may stand -/
  B : Addr → Prop
/-- the state of a frame -/
structure Ok (G : Gx) (O : Addr → Prop) (M : Hp) (σ : L2.St) (H : Hp) (ρ : List Sl) : Prop where
  sub : ∀ a o, M a = some o → H a = some o
  ow0 : ∀ a, O a → M a = none
  oal : ∀ a, O a → ∃ o, H a = some o
  len : σ.length = ρ.length
  fro : ∀ (i : Nat) d, ρ[i]? = some (.fro d) → ∃ v, σ[i]? = some (some v) ∧ Rep G.K M v d
  own : ∀ (i : Nat) d, ρ[i]? = some (.own d) → ∃ p o, σ[i]? = some (some (.ref p)) ∧ O p ∧ H p = some o ∧ RepO G.K M o d
  dis : ∀ (i j : Nat) d e p, ρ[i]? = some (.own d) → ρ[j]? = some (.own e) → σ[i]? = some (some (.ref p)) → σ[j]? = some (some (.ref p)) → i = j
  bz : ∀ d p, ρ[0]? = some (.own d) → σ[0]? = some (some (.ref p)) → G.B p
section
variable {G : Gx} {O : Addr → Prop} {M : Hp} {σ : L2.St} {H : Hp} {ρ : List Sl}
/-- the heap goes on, what O holds as it was -/
theorem Ok.grow {M' H' : Hp} (k : Ok G O M σ H ρ) (sub : ∀ a o, M' a = some o → H' a = some o) (m : Same M M') (h : ∀ a o, H a = some o → O a → H' a = some o) (n : ∀ a, O a → M' a = none) : Ok G O M' σ H' ρ := by
  refine ⟨sub, n, fun a q => ?_, k.len, fun i d e => ?_, fun i d e => ?_, k.dis, k.bz⟩
  · obtain ⟨o, e⟩ := k.oal a q
    exact ⟨o, h a o e q⟩
  · obtain ⟨v, a, b⟩ := k.fro i d e
    exact ⟨v, a, b.mono m⟩
  · obtain ⟨p, o, a, b, c, r⟩ := k.own i d e
    exact ⟨p, o, a, b, h p o c b, r.mono m⟩
theorem Ok.notO {p : Addr} (k : Ok G O M σ H ρ) (h : H p = none) : ¬ O p := fun q => by
  obtain ⟨o, e⟩ := k.oal p q
  rw [h] at e; cases e
theorem Ok.notM {p : Addr} (k : Ok G O M σ H ρ) (h : H p = none) : M p = none := by
  cases q : M p with
  | none => rfl
  | some u => rw [k.sub p u q] at h; cases h
/-- a new frozen object -/
theorem Ok.new {p : Addr} {o : HO} (k : Ok G O M σ H ρ) (h : H p = none) : Ok G O (upd M p o) σ (upd H p o) ρ := by
  have hO := k.notO h
  refine k.grow (fun a u e => ?_) (Stp.new (O := O) h k.sub).m (fun a u e q => ?_) fun a q => ?_
  · by_cases ha : a = p
    · subst ha; rw [upd_same] at e ⊢; exact e
    · rw [upd_ne ha] at e ⊢; exact k.sub a u e
  · rw [upd_ne (show a ≠ p from fun z => hO (by rw [← z]; exact q))]; exact e
  · rw [upd_ne (show a ≠ p from fun z => hO (by rw [← z]; exact q))]; exact k.ow0 a q
/-- a new object that is not frozen -/
theorem Ok.newN {p : Addr} {o : HO} (k : Ok G O M σ H ρ) (h : H p = none) : Ok G O M σ (upd H p o) ρ := by
  have hO := k.notO h
  refine k.grow (fun a u e => ?_) (Same.refl _) (fun a u e q => ?_) k.ow0
  · rw [upd_ne (ne_of_none (k.sub a u e) h)]; exact k.sub a u e
  · rw [upd_ne (show a ≠ p from fun z => hO (by rw [← z]; exact q))]; exact e
/-- it is frozen -/
theorem Ok.freeze {p : Addr} {o : HO} (k : Ok G O M σ H ρ) (h : H p = some o) (hO : ¬ O p) (hm : M p = none) : Ok G O (upd M p o) σ H ρ := by
  refine k.grow (fun a u e => ?_) (fun b u e => by rw [upd_ne (ne_of_none e hm)]; exact e) (fun a u e q => e) fun a q => ?_
  · by_cases ha : a = p
    · subst ha; rw [upd_same] at e; cases e; exact h
    · rw [upd_ne ha] at e; exact k.sub a u e
  · rw [upd_ne (show a ≠ p from fun z => hO (by rw [← z]; exact q))]; exact k.ow0 a q
theorem Stp.freeze {p : Addr} {o : HO} {M H M1 H1 : Hp} (s : Stp O M H M1 H1) (h : H p = none) (hm : M1 p = none) : Stp O M H (upd M1 p o) H1 := by
  refine ⟨s.m.trans fun b u e => by rw [upd_ne (ne_of_none e hm)]; exact e, s.h, s.al, fun b u e => ?_⟩
  by_cases hb : b = p
  · subst hb; exact .inr (.inl h)
  · rw [upd_ne hb] at e; exact s.n b u e
end

/-! ## 4. what an expression's reading is to follow from -/
/-- an exception as it lies behind its raising -/
def Exn (G : Gx) (c : Nat) (pl : D) (cls : Value) (dd : Option Addr) (M H : Hp) : Prop :=
  cls = .ref (G.xc c) ∧ ((pl = .non ∧ dd = none) ∨ ∃ d v, dd = some d ∧ H d = some (.xd [("limit", v)]) ∧ Rep G.K M v pl)
section
variable {α β : Type}
def Post (G : Gx) (Rr : Hp → Hp → β → α → Prop) (W : WX) (O : Addr → Prop) (M : Hp) (σ : L2.St) (H : Hp) (Q : β → Hp → Prop) : R (α × List Sl) → Prop
  | .ok (d, ρ') => ∀ v M' H', Ok G O M' σ H' ρ' → Stp O M H M' H' → Rr M' H' v d → Q v H'
  | .ex c pl ρ' => ∀ cls dd M' H', Ok G O M' σ H' ρ' → Stp O M H M' H' → Exn G c pl cls dd M' H' → W cls dd σ H'
  | .no => False
def Imp (G : Gx) (Rr : Hp → Hp → β → α → Prop) (W : WX) (t : L2.St → Hp → (β → Hp → Prop) → Prop) (f : List Sl → R (α × List Sl)) : Prop :=
  ∀ O M σ H ρ Q, Ok G O M σ H ρ → Post G Rr W O M σ H Q (f ρ) → t σ H Q
/-- the same for a result that is new and held by nobody -/
def PostN (G : Gx) (W : WX) (O : Addr → Prop) (M : Hp) (σ : L2.St) (H : Hp) (Q : VK) : R (D × List Sl) → Prop
  | .ok (d, ρ') => ∀ p o M' H', Ok G O M' σ H' ρ' → Stp O M H M' H' → H p = none → H' p = some o → M' p = none → RepO G.K M' o d → Q (.ref p) H'
  | .ex c pl ρ' => ∀ cls dd M' H', Ok G O M' σ H' ρ' → Stp O M H M' H' → Exn G c pl cls dd M' H' → W cls dd σ H'
  | .no => False
def ImpN (G : Gx) (W : WX) (t : TE) (f : Ev) : Prop := ∀ O M σ H ρ Q, Ok G O M σ H ρ → PostN G W O M σ H Q (f ρ) → t σ H Q
end
abbrev RV (G : Gx) : Hp → Hp → V → D → Prop := fun M _ v d => Rep G.K M v d
abbrev RB : Hp → Hp → Bool → Bool → Prop := fun _ _ v d => v = d
abbrev RA (G : Gx) : Hp → Hp → List V → List D → Prop := fun M _ v d => Reps G.K M v d
/-- readable here and now: frozen, or an owned object -/
def RW (G : Gx) : Hp → Hp → V → D → Prop := fun M H v d => Rep G.K M v d ∨ ∃ p o, v = .ref p ∧ H p = some o ∧ RepO G.K M o d
abbrev ImpE (G : Gx) (W : WX) (t : TE) (f : Ev) : Prop := Imp G (RV G) W t f
abbrev ImpW (G : Gx) (W : WX) (t : TE) (f : Ev) : Prop := Imp G (RW G) W t f
abbrev ImpT (G : Gx) (W : WX) (t : TT) (f : Tv) : Prop := Imp G RB W t f
abbrev ImpA (G : Gx) (W : WX) (t : TA) (f : Av) : Prop := Imp G (RA G) W t f
section
variable {α β γ δ : Type} {G : Gx} {W : WX} {O : Addr → Prop} {M : Hp} {σ : L2.St} {H : Hp} {ρ : List Sl}
theorem Post.move {Rr : Hp → Hp → β → α → Prop} {Q : β → Hp → Prop} {M1 H1 : Hp} {r : R (α × List Sl)} (h : Post G Rr W O M σ H Q r) (s : Stp O M H M1 H1) : Post G Rr W O M1 σ H1 Q r := by
  cases r with
  | ok a => exact fun v M' H' k s' q => h v M' H' k (s.trans s') q
  | ex c pl ρ' => exact fun cls dd M' H' k s' q => h cls dd M' H' k (s.trans s') q
  | no => exact h
theorem PostN.move {Q : VK} {M1 H1 : Hp} {r : R (D × List Sl)} (h : PostN G W O M σ H Q r) (s : Stp O M H M1 H1) : PostN G W O M1 σ H1 Q r := by
  cases r with
  | ok a => exact fun p o M' H' k s' hn => h p o M' H' k (s.trans s') (by
      cases q : H p with
      | none => rfl
      | some u => obtain ⟨o', e⟩ := s.al p u q; rw [hn] at e; cases e)
  | ex c pl ρ' => exact fun cls dd M' H' k s' q => h cls dd M' H' k (s.trans s') q
  | no => exact h
/-- one after another -/
theorem Imp.bind {Ra : Hp → Hp → β → α → Prop} {Rr : Hp → Hp → δ → γ → Prop} {ta : L2.St → Hp → (β → Hp → Prop) → Prop} {fa : List Sl → R (α × List Sl)} {k : α → List Sl → R (γ × List Sl)} {Q : δ → Hp → Prop} {Q' : β → Hp → Prop}
    (ha : Imp G Ra W ta fa) (ok : Ok G O M σ H ρ) (h : Post G Rr W O M σ H Q ((fa ρ).bnd k))
    (n : ∀ v d ρ1 M1 H1, Ok G O M1 σ H1 ρ1 → Stp O M H M1 H1 → Ra M1 H1 v d → Post G Rr W O M1 σ H1 Q (k d ρ1) → Q' v H1) : ta σ H Q' := by
  refine ha O M σ H ρ Q' ok ?_
  cases e : fa ρ with
  | ok a =>
    obtain ⟨d, ρ1⟩ := a
    rw [e] at h
    exact fun v M1 H1 k1 s1 r1 => n v d ρ1 M1 H1 k1 s1 r1 (Post.move h s1)
  | ex c pl ρ1 => rw [e] at h; exact h
  | no => rw [e] at h; exact h.elim
theorem Imp.bindN {Ra : Hp → Hp → β → α → Prop} {ta : L2.St → Hp → (β → Hp → Prop) → Prop} {fa : List Sl → R (α × List Sl)} {k : α → List Sl → R (D × List Sl)} {Q : VK} {Q' : β → Hp → Prop}
    (ha : Imp G Ra W ta fa) (ok : Ok G O M σ H ρ) (h : PostN G W O M σ H Q ((fa ρ).bnd k))
    (n : ∀ v d ρ1 M1 H1, Ok G O M1 σ H1 ρ1 → Stp O M H M1 H1 → Ra M1 H1 v d → PostN G W O M1 σ H1 Q (k d ρ1) → Q' v H1) : ta σ H Q' := by
  refine ha O M σ H ρ Q' ok ?_
  cases e : fa ρ with
  | ok a =>
    obtain ⟨d, ρ1⟩ := a
    rw [e] at h
    exact fun v M1 H1 k1 s1 r1 => n v d ρ1 M1 H1 k1 s1 r1 (PostN.move h s1)
  | ex c pl ρ1 => rw [e] at h; exact h
  | no => rw [e] at h; exact h.elim
/-- what is new may be frozen -/
theorem ImpN.imp {t : TE} {f : Ev} (h : ImpN G W t f) : ImpE G W t f := by
  intro O M σ H ρ Q ok hp
  refine h O M σ H ρ Q ok ?_
  cases e : f ρ with
  | ok a =>
    obtain ⟨d, ρ1⟩ := a
    rw [e] at hp
    intro p o M' H' k s hn hH hM r
    have hO : ¬ O p := ok.notO hn
    exact hp (.ref p) (upd M' p o) H' (k.freeze hH hO hM) (s.freeze hn hM) ((r.mono fun b u e => by rw [upd_ne (ne_of_none e hM)]; exact e).rep upd_same)
  | ex c pl ρ1 => rw [e] at hp; exact hp
  | no => rw [e] at hp; exact hp.elim
theorem Imp.toW {t : TE} {f : Ev} (h : ImpE G W t f) : ImpW G W t f := by
  intro O M σ H ρ Q ok hp
  refine h O M σ H ρ Q ok ?_
  cases e : f ρ with
  | ok a => rw [e] at hp; exact fun v M' H' k s r => hp v M' H' k s (.inl r)
  | ex c pl ρ1 => rw [e] at hp; exact hp
  | no => rw [e] at hp; exact hp.elim
/-- a reading that changes nothing -/
theorem Post.here {Rr : Hp → Hp → β → α → Prop} {Q : β → Hp → Prop} {v : β} {d : α} (ok : Ok G O M σ H ρ) (h : Post G Rr W O M σ H Q (.ok (d, ρ))) (r : Rr M H v d) : Q v H := h v M H ok Stp.refl r
theorem PostN.here {Q : VK} {d : D} (ok : Ok G O M σ H ρ) (h : PostN G W O M σ H Q (.ok (d, ρ))) {p : Addr} {o : HO} (hp : H p = none) (r : RepO G.K M o d) : Q (.ref p) (upd H p o) :=
  h p o M (upd H p o) (ok.newN hp) (Stp.newN hp) hp upd_same (ok.notM hp) r
end
end Sm
namespace Sm
open PySem PySem.Spec PyProof.Rows L2

/-! ## 5. == of data -/
mutual
def D.eqv : D → D → Bool
  | .non, .non => true
  | .bl a, .bl b => a == b
  | .bl a, .int j => (if a then 1 else 0) == j
  | .int i, .bl b => i == (if b then 1 else 0)
  | .int i, .int j => i == j
  | .str x, .str y => x == y
  | .lst xs, .lst ys => D.eqvL xs ys
  | .tup xs, .tup ys => D.eqvL xs ys
  | _, _ => false
def D.eqvL : List D → List D → Bool
  | [], [] => true
  | x :: xs, y :: ys => D.eqv x y && D.eqvL xs ys
  | _, _ => false
end
mutual
/-- data of this depth at most, no dict in it -/
def D.lay : Nat → D → Bool
  | _, .non => true
  | _, .bl _ => true
  | _, .int _ => true
  | _, .str x => PySem.PyData.strOk x
  | n, .lst l => (match n with | 0 => false | n + 1 => D.layL n l)
  | n, .tup l => (match n with | 0 => false | n + 1 => D.layL n l)
  | _, .dic _ _ => false
  | _, .scr _ => false
def D.layL : Nat → List D → Bool
  | _, [] => true
  | n, x :: xs => D.lay n x && D.layL n xs
end
mutual
def D.py : D → PyData
  | .non => .none
  | .bl b => .bool b
  | .int i => .int i
  | .str x => .str x
  | .lst l => .list (D.pyL l)
  | .tup l => .tuple (D.pyL l)
  | .dic _ _ => .none
  | .scr _ => .none
def D.pyL : List D → List PyData
  | [] => []
  | x :: xs => D.py x :: D.pyL xs
end
mutual
theorem py_ok : ∀ (n : Nat) (d : D), d.lay n = true → d.py.canLay0 = true ∧ d.py.depth ≤ n
  | _, .non, _ => ⟨rfl, Nat.zero_le _⟩
  | _, .bl _, _ => ⟨rfl, Nat.zero_le _⟩
  | _, .int _, _ => ⟨rfl, Nat.zero_le _⟩
  | _, .str _, h => ⟨by simpa [D.lay, D.py, PyData.canLay0] using h, Nat.zero_le _⟩
  | 0, .lst l, h => by simp [D.lay] at h
  | n + 1, .lst l, h => by
    have h' : D.layL n l = true := by simpa [D.lay] using h
    obtain ⟨a, b⟩ := py_okL n l h'
    exact ⟨by simpa [D.py, PyData.canLay0] using a, by simpa [D.py, PyData.depth] using b⟩
  | 0, .tup l, h => by simp [D.lay] at h
  | n + 1, .tup l, h => by
    have h' : D.layL n l = true := by simpa [D.lay] using h
    obtain ⟨a, b⟩ := py_okL n l h'
    exact ⟨by simpa [D.py, PyData.canLay0] using a, by simpa [D.py, PyData.depth] using b⟩
  | _, .dic _ _, h => by simp [D.lay] at h
  | _, .scr _, h => by simp [D.lay] at h
theorem py_okL : ∀ (n : Nat) (l : List D), D.layL n l = true → PyData.canLayAll0 (D.pyL l) = true ∧ PyData.depthAll (D.pyL l) ≤ n
  | _, [], _ => ⟨rfl, Nat.zero_le _⟩
  | n, x :: xs, h => by
    have h' : x.lay n = true ∧ D.layL n xs = true := by simpa [D.layL] using h
    obtain ⟨a, b⟩ := py_ok n x h'.1
    obtain ⟨c, d⟩ := py_okL n xs h'.2
    refine ⟨by simp [D.pyL, PyData.canLayAll0, a, c], ?_⟩
    show max _ _ ≤ n
    omega
end
mutual
theorem py_eqv : ∀ (n m : Nat) (x y : D), x.lay n = true → y.lay m = true → PyData.eqv x.py y.py = x.eqv y
  | n, m, .non, y, _, h => by cases y <;> simp [D.lay] at h <;> simp [D.py, D.eqv, PyData.eqv]
  | n, m, .bl b, y, _, h => by cases y <;> simp [D.lay] at h <;> simp [D.py, D.eqv, PyData.eqv]
  | n, m, .int b, y, _, h => by cases y <;> simp [D.lay] at h <;> simp [D.py, D.eqv, PyData.eqv]
  | n, m, .str b, y, _, h => by cases y <;> simp [D.lay] at h <;> simp [D.py, D.eqv, PyData.eqv]
  | 0, m, .lst l, y, g, h => by simp [D.lay] at g
  | n + 1, m, .lst l, y, g, h => by
    have g' : D.layL n l = true := by simpa [D.lay] using g
    cases y with
    | lst k =>
      cases m with
      | zero => simp [D.lay] at h
      | succ m =>
        have h' : D.layL m k = true := by simpa [D.lay] using h
        simpa [D.py, D.eqv, PyData.eqv] using py_eqvL n m l k g' h'
    | dic _ _ => simp [D.lay] at h
    | scr _ => simp [D.lay] at h
    | _ => simp [D.py, D.eqv, PyData.eqv]
  | 0, m, .tup l, y, g, h => by simp [D.lay] at g
  | n + 1, m, .tup l, y, g, h => by
    have g' : D.layL n l = true := by simpa [D.lay] using g
    cases y with
    | tup k =>
      cases m with
      | zero => simp [D.lay] at h
      | succ m =>
        have h' : D.layL m k = true := by simpa [D.lay] using h
        simpa [D.py, D.eqv, PyData.eqv] using py_eqvL n m l k g' h'
    | dic _ _ => simp [D.lay] at h
    | scr _ => simp [D.lay] at h
    | _ => simp [D.py, D.eqv, PyData.eqv]
  | _, _, .dic _ _, _, g, _ => by simp [D.lay] at g
  | _, _, .scr _, _, g, _ => by simp [D.lay] at g
theorem py_eqvL : ∀ (n m : Nat) (x y : List D), D.layL n x = true → D.layL m y = true → PyData.eqvAll (D.pyL x) (D.pyL y) = D.eqvL x y
  | n, m, [], [], _, _ => rfl
  | n, m, [], _ :: _, _, _ => rfl
  | n, m, _ :: _, [], _, _ => rfl
  | n, m, x :: xs, y :: ys, g, h => by
    have g' : x.lay n = true ∧ D.layL n xs = true := by simpa [D.layL] using g
    have h' : y.lay m = true ∧ D.layL m ys = true := by simpa [D.layL] using h
    simp [D.pyL, PyData.eqvAll, D.eqvL, py_eqv n m x y g'.1 h'.1, py_eqvL n m xs ys g'.2 h'.2]
end
section
variable {K : PySem.W.Frag} {M H : Hp}
mutual
theorem dp_of (s : ∀ a o, M a = some o → H a = some o) : ∀ (n : Nat) (d : D) (v : V), d.lay n = true → Rep K M v d → Dp K H v d.py
  | _, .non, _, _, r => by cases r; exact .non
  | _, .bl b, _, _, r => by cases r; exact .bl b
  | _, .int i, _, _, r => by cases r; exact .int i
  | _, .str x, _, _, r => by cases r; exact .str x
  | 0, .lst l, _, h, _ => by simp [D.lay] at h
  | n + 1, .lst l, _, h, r => by
    have h' : D.layL n l = true := by simpa [D.lay] using h
    cases r with
    | lst e l1 r1 => exact .lst (SqL.of (s _ _ e)) (dp_ofL s n l _ h' ⟨l1, r1⟩)
  | 0, .tup l, _, h, _ => by simp [D.lay] at h
  | n + 1, .tup l, _, h, r => by
    have h' : D.layL n l = true := by simpa [D.lay] using h
    cases r with
    | tup e l1 r1 => exact .tup (SqT.of (s _ _ e)) (dp_ofL s n l _ h' ⟨l1, r1⟩)
  | _, .dic _ _, _, h, _ => by simp [D.lay] at h
  | _, .scr _, _, h, _ => by simp [D.lay] at h
theorem dp_ofL (s : ∀ a o, M a = some o → H a = some o) : ∀ (n : Nat) (ds : List D) (vs : List V), D.layL n ds = true → Reps K M vs ds → DpAll K H vs (D.pyL ds)
  | _, [], vs, _, r => by
    have e : vs = [] := List.length_eq_zero_iff.mp r.1
    subst e
    exact .nil
  | n, x :: xs, vs, h, r => by
    have h' : x.lay n = true ∧ D.layL n xs = true := by simpa [D.layL] using h
    cases vs with
    | nil => have := r.1; simp at this
    | cons v vs =>
      obtain ⟨a, b⟩ := Reps.tail r
      exact .cons (dp_of s n x v h'.1 a) (dp_ofL s n xs vs h'.2 b)
end
/-- a list, a tuple, whoever holds it -/
theorem dp_w (s : ∀ a o, M a = some o → H a = some o) {n : Nat} {d : D} {v : V} (h : d.lay n = true) (r : Rep K M v d ∨ ∃ p o, v = .ref p ∧ H p = some o ∧ RepO K M o d) : Dp K H v d.py := by
  rcases r with r | ⟨p, o, rfl, e, r⟩
  · exact dp_of s n d v h r
  · cases r with
    | @lst vs ds r =>
      cases n with
      | zero => simp [D.lay] at h
      | succ n => exact .lst (SqL.of e) (dp_ofL s n _ _ (by simpa [D.lay] using h) r)
    | dic r => simp [D.lay] at h
end

/-! ## 6. operators on data -/
def isz (n : Nat) : Bool := Nat.ble n 16777216
theorem isz_ok {n : Nat} (h : isz n = true) : n ≤ sizeLine := by
  rw [sizeLine_eq]
  exact Nat.le_of_ble_eq_true h
def mulOk (i j : Int) : Bool := Nat.ble i.natAbs 18446744073709551615 || (Nat.ble j.natAbs 18446744073709551615 || Nat.ble (i.natAbs.log2 + j.natAbs.log2) 100000000)
def D.ints : List D → Option (List Int)
  | [] => some []
  | .int i :: l => (D.ints l).map (i :: ·)
  | _ :: _ => none
def gAdd : D → D → Option D
  | .int i, .int j => some (.int (i + j))
  | .str x, .str y => if isz (x.length + y.length) then some (.str (x ++ y)) else none
  | .lst x, .lst y => if isz (x.length + y.length) then some (.lst (x ++ y)) else none
  | .tup x, .tup y => if isz (x.length + y.length) then some (.tup (x ++ y)) else none
  | _, _ => none
def gSub : D → D → Option D
  | .int i, .int j => some (.int (i - j))
  | _, _ => none
def gMul : D → D → Option D
  | .int i, .int j => if mulOk i j then some (.int (i * j)) else none
  | .lst x, .int k => if isz (x.length * k.toNat) && decide (-1000000000 ≤ k ∧ k ≤ 1000000000) then some (.lst (List.replicate k.toNat x).flatten) else none
  | .tup x, .int k => if decide (2 ≤ k ∧ k ≤ 1000) && !x.isEmpty && Nat.ble x.length 1000 then some (.tup (List.replicate k.toNat x).flatten) else none
  | _, _ => none
def gDiv : D → D → Option D
  | .int i, .int j => if decide (0 < j) && Nat.ble (j.natAbs.log2 + 1) 9000 then some (.int (i / j)) else none
  | _, _ => none
def gMod : D → D → Option D
  | .int i, .int j => if decide (0 < j) then some (.int (i % j)) else none
  | _, _ => none
def gPow : D → D → Option D
  | .int i, .int j => if decide (0 ≤ j ∧ j ≤ 1000000) && Nat.ble (i.natAbs + 1) 18446744073709551616 then some (.int (i ^ j.toNat)) else none
  | _, _ => none
def gLt : D → D → Option D
  | .int i, .int j => some (.bl (decide (i < j)))
  | .tup x, .tup y => (match D.ints x, D.ints y with | some a, some b => some (.bl (HT.lexLt a b)) | _, _ => none)
  | _, _ => none
def gLe : D → D → Option D
  | .int i, .int j => some (.bl (decide (i ≤ j)))
  | _, _ => none
def gGt : D → D → Option D
  | .int i, .int j => some (.bl (decide (j < i)))
  | _, _ => none
def gGe : D → D → Option D
  | .int i, .int j => some (.bl (decide (j ≤ i)))
  | _, _ => none
def gEq (x y : D) : Option D := if x.lay 64 && y.lay 64 then some (.bl (x.eqv y)) else none
def gNe (x y : D) : Option D := if x.lay 64 && y.lay 64 then some (.bl (!x.eqv y)) else none
theorem ints_rep {K : PySem.W.Frag} {M : Hp} : ∀ {ds : List D} {vs : List V} {ns : List Int}, D.ints ds = some ns → Reps K M vs ds → vs = ns.map V.int
  | [], vs, ns, h, r => by
    have e : vs = [] := List.length_eq_zero_iff.mp r.1
    cases h; subst e; rfl
  | d :: ds, [], ns, h, r => by have := r.1; simp at this
  | d :: ds, v :: vs, ns, h, r => by
    obtain ⟨a, b⟩ := Reps.tail r
    cases d with
    | int i =>
      simp only [D.ints] at h
      cases q : D.ints ds with
      | none => rw [q] at h; cases h
      | some l =>
        rw [q] at h; cases h
        cases a
        rw [ints_rep q b]; rfl
    | _ => simp [D.ints] at h
/-- a reading of an operator by values does what is told on data; it changes nothing but that its result may be new -/
def OpS (G : Gx) (r : R2) (g : D → D → Option D) : Prop :=
  ∀ O M σ H ρ x y dx dy d (Q : VK), Ok G O M σ H ρ → Rep G.K M x dx → Rep G.K M y dy → g dx dy = some d →
    (∀ v M' H', Ok G O M' σ H' ρ → Stp O M H M' H' → Rep G.K M' v d → Q v H') → r x y H Q
def OpW (G : Gx) (r : R2) (g : D → D → Option D) : Prop :=
  ∀ O M σ H ρ x y dx dy d (Q : VK), Ok G O M σ H ρ → RW G M H x dx → RW G M H y dy → g dx dy = some d →
    (∀ v M' H', Ok G O M' σ H' ρ → Stp O M H M' H' → Rep G.K M' v d → Q v H') → r x y H Q
def orR (r r' : R2) : R2 := fun x y H Q => r x y H Q ∨ r' x y H Q
section
variable {G : Gx}
theorem fin_new {O : Addr → Prop} {M : Hp} {σ : L2.St} {H : Hp} {ρ : List Sl} {d : D} {o : HO} {Q : VK} (k : Ok G O M σ H ρ) (r : RepO G.K M o d)
    (q : ∀ v M' H', Ok G O M' σ H' ρ → Stp O M H M' H' → Rep G.K M' v d → Q v H') : ∀ p, H p = none → Q (.ref p) (upd H p o) := fun p hp =>
  q _ (upd M p o) (upd H p o) (k.new hp) (Stp.new hp k.sub) ((r.mono (Stp.new (O := O) hp k.sub).m).rep upd_same)
theorem fin_newT {O : Addr → Prop} {M : Hp} {σ : L2.St} {H : Hp} {ρ : List Sl} {ds : List D} {vs : List V} {Q : VK} (k : Ok G O M σ H ρ) (r : Reps G.K M vs ds)
    (q : ∀ v M' H', Ok G O M' σ H' ρ → Stp O M H M' H' → Rep G.K M' v (.tup ds) → Q v H') : ∀ p, H p = none → Q (.ref p) (upd H p (.tup vs)) := fun p hp =>
  q _ (upd M p (.tup vs)) (upd H p (.tup vs)) (k.new hp) (Stp.new hp k.sub) (.tup upd_same r.1 (r.mono (Stp.new (O := O) hp k.sub).m).2)
theorem fin_old {O : Addr → Prop} {M : Hp} {σ : L2.St} {H : Hp} {ρ : List Sl} {d : D} {v : V} {Q : VK} (k : Ok G O M σ H ρ) (r : Rep G.K M v d)
    (q : ∀ v M' H', Ok G O M' σ H' ρ → Stp O M H M' H' → Rep G.K M' v d → Q v H') : Q v H := q v M H k Stp.refl r
abbrev rStrAdd : R2 := fun x y H Q => ∃ i j, x = .str i ∧ y = .str j ∧ i.length + j.length ≤ sizeLine ∧ Q (.str (i ++ j)) H
abbrev rAddX (K : PySem.W.Frag) : R2 := fun x y H Q => rI0 (fun i j => .int (i + j)) x y H Q ∨ (rStrAdd x y H Q ∨ (rCat x y H Q ∨ rCatA K x y H Q))
theorem op_addX {X : Cx} : OpR X (binaryOp .Add) (rAddX X.K) := op_add.or (op_add_str.or (op_cat.or op_catA))
theorem sAdd : OpS G (rAddX G.K) gAdd := by
  intro O M σ H ρ x y dx dy d Q k rx ry h q
  cases rx with
  | int i =>
    cases ry with
    | int j => simp only [gAdd, Option.some.injEq] at h; subst h; exact .inl ⟨i, j, rfl, rfl, fin_old k (.int _) q⟩
    | _ => simp [gAdd] at h
  | str a =>
    cases ry with
    | str b =>
      simp only [gAdd] at h
      split at h
      · cases h; exact .inr (.inl ⟨a, b, rfl, rfl, isz_ok ‹_›, fin_old k (.str _) q⟩)
      · cases h
    | _ => simp [gAdd] at h
  | @lst a vs ds e l r =>
    cases ry with
    | @lst b ws es e2 l2 r2 =>
      simp only [gAdd] at h
      split at h
      · rename_i z
        cases h
        refine .inr (.inr (.inl ⟨a, b, vs, ws, rfl, rfl, k.sub _ _ e, k.sub _ _ e2, by rw [l, l2]; exact isz_ok z, ?_⟩))
        exact fin_new k (.lst (Reps.append ⟨l, r⟩ ⟨l2, r2⟩)) q
      · cases h
    | _ => simp [gAdd] at h
  | @tup a vs ds e l r =>
    cases ry with
    | @tup b ws es e2 l2 r2 =>
      simp only [gAdd] at h
      split at h
      · rename_i z
        cases h
        have A := Reps.append ⟨l, r⟩ ⟨l2, r2⟩
        refine .inr (.inr (.inr ⟨a, b, vs, ws, rfl, rfl, SqT.of (k.sub _ _ e), SqT.of (k.sub _ _ e2), by rw [l, l2]; exact isz_ok z, fun hv => ?_, fun _ hw => ?_, fun _ _ => fin_newT k A q⟩))
        · subst hv
          have hd : ds = [] := List.length_eq_zero_iff.mp l.symm
          subst hd
          exact fin_old k (.tup e2 l2 r2) q
        · subst hw
          have hd : es = [] := List.length_eq_zero_iff.mp l2.symm
          subst hd
          exact fin_old k (by rw [List.append_nil]; exact .tup e l r) q
      · cases h
    | _ => simp [gAdd] at h
  | _ => cases ry <;> simp [gAdd] at h
theorem sSub : OpS G (rI0 fun i j => .int (i - j)) gSub := by
  intro O M σ H ρ x y dx dy d Q k rx ry h q
  cases rx with
  | int i =>
    cases ry with
    | int j => simp only [gSub, Option.some.injEq] at h; subst h; exact ⟨i, j, rfl, rfl, fin_old k (.int _) q⟩
    | _ => simp [gSub] at h
  | _ => cases ry <;> simp [gSub] at h
def CMulX (i j : Int) : Prop := mulOk i j = true
theorem CMulX.ok {i j : Int} (h : CMulX i j) : IntMulOk i j := by
  have h : mulOk i j = true := h
  unfold mulOk at h
  rw [Bool.or_eq_true, Bool.or_eq_true] at h
  rcases h with h | h | h
  · have := Nat.le_of_ble_eq_true h
    exact CMul.ok (.inl (by omega))
  · have := Nat.le_of_ble_eq_true h
    exact CMul.ok (.inr (by omega))
  have h := Nat.le_of_ble_eq_true h
  have b : ∀ x : Int, Builtin.Int.intBits x ≤ x.natAbs.log2 + 1 := fun x => by
    unfold Builtin.Int.intBits
    split <;> omega
  have h1 := b i
  have h2 := b j
  have e : bitsLine = 134217728 := by decide
  intro z
  rw [Bool.and_eq_true] at z
  have z3 := of_decide_eq_true (show decide _ = true from z.2)
  rw [e] at z3
  omega
theorem op_mulX {X : Cx} : OpR X (binaryOp .Mult) (rI CMulX fun i j => .int (i * j)) := opI fun _ _ _ _ _ _ _ hc q => mul_int q hc.ok
abbrev rMulX (K : PySem.W.Frag) : R2 := fun x y H Q => rI CMulX (fun i j => .int (i * j)) x y H Q ∨ (rRep x y H Q ∨ rRepT K x y H Q)
theorem op_mulA {X : Cx} : OpR X (binaryOp .Mult) (rMulX X.K) := op_mulX.or (op_rep.or op_repT)
theorem sMul : OpS G (rMulX G.K) gMul := by
  intro O M σ H ρ x y dx dy d Q k rx ry h q
  cases rx with
  | int i =>
    cases ry with
    | int j =>
      simp only [gMul] at h
      split at h
      · rename_i z
        cases h
        exact .inl ⟨i, j, rfl, rfl, z, fin_old k (.int _) q⟩
      · cases h
    | _ => simp [gMul] at h
  | @lst a vs ds e l r =>
    cases ry with
    | int n =>
      simp only [gMul] at h
      split at h
      · rename_i z
        cases h
        rw [Bool.and_eq_true] at z
        obtain ⟨z1, z2⟩ := z
        have z3 := of_decide_eq_true z2
        exact .inr (.inl ⟨a, n, vs, rfl, rfl, k.sub _ _ e, by omega, by omega, by rw [l]; exact isz_ok z1, fin_new k (.lst (Reps.rep ⟨l, r⟩ _)) q⟩)
      · cases h
    | _ => simp [gMul] at h
  | @tup a vs ds e l r =>
    cases ry with
    | int n =>
      simp only [gMul] at h
      split at h
      · rename_i z
        cases h
        rw [Bool.and_eq_true, Bool.and_eq_true] at z
        obtain ⟨⟨z1, z2⟩, z4⟩ := z
        have z3 := of_decide_eq_true z1
        refine .inr (.inr ⟨a, n, vs, rfl, rfl, SqT.of (k.sub _ _ e), fun hv => ?_, z3.1, z3.2, by rw [l]; exact Nat.le_of_ble_eq_true z4, fin_newT k (Reps.rep ⟨l, r⟩ _) q⟩)
        subst hv
        have hd : ds = [] := List.length_eq_zero_iff.mp l.symm
        subst hd
        simp at z2
      · cases h
    | _ => simp [gMul] at h
  | _ => cases ry <;> simp [gMul] at h
theorem sDiv : OpS G (rI CDivW fun i j => .int (i / j)) gDiv := by
  intro O M σ H ρ x y dx dy d Q k rx ry h q
  cases rx with
  | int i =>
    cases ry with
    | int j =>
      simp only [gDiv] at h
      split at h
      · rename_i z
        cases h
        rw [Bool.and_eq_true] at z
        have z2 := Nat.le_of_ble_eq_true z.2
        exact ⟨i, j, rfl, rfl, ⟨of_decide_eq_true z.1, by omega⟩, fin_old k (.int _) q⟩
      · cases h
    | _ => simp [gDiv] at h
  | _ => cases ry <;> simp [gDiv] at h
theorem sMod : OpS G (rI (fun _ j => 0 < j) fun i j => .int (i % j)) gMod := by
  intro O M σ H ρ x y dx dy d Q k rx ry h q
  cases rx with
  | int i =>
    cases ry with
    | int j =>
      simp only [gMod] at h
      split at h
      · rename_i z
        cases h
        exact ⟨i, j, rfl, rfl, of_decide_eq_true z, fin_old k (.int _) q⟩
      · cases h
    | _ => simp [gMod] at h
  | _ => cases ry <;> simp [gMod] at h
theorem sPow : OpS G (rI CPow fun i j => .int (i ^ j.toNat)) gPow := by
  intro O M σ H ρ x y dx dy d Q k rx ry h q
  cases rx with
  | int i =>
    cases ry with
    | int j =>
      simp only [gPow] at h
      split at h
      · rename_i z
        cases h
        rw [Bool.and_eq_true] at z
        have z1 := of_decide_eq_true z.1
        have z2 := Nat.le_of_ble_eq_true z.2
        exact ⟨i, j, rfl, rfl, ⟨z1.1, z1.2, by omega⟩, fin_old k (.int _) q⟩
      · cases h
    | _ => simp [gPow] at h
  | _ => cases ry <;> simp [gPow] at h
abbrev rLtX (K : PySem.W.Frag) : R2 := fun x y H Q => rI0 (fun i j => .bl (decide (i < j))) x y H Q ∨ rLtT K x y H Q
theorem op_ltX {X : Cx} (hu : X.A.units < cLine) : OpR X (compareOp .Lt) (rLtX X.K) := op_lt.or (op_ltT hu)
theorem sLt : OpS G (rLtX G.K) gLt := by
  intro O M σ H ρ x y dx dy d Q k rx ry h q
  cases rx with
  | int i =>
    cases ry with
    | int j => simp only [gLt, Option.some.injEq] at h; subst h; exact .inl ⟨i, j, rfl, rfl, fin_old k (.bl _) q⟩
    | _ => simp [gLt] at h
  | @tup a vs ds e l r =>
    cases ry with
    | @tup b ws es e2 l2 r2 =>
      simp only [gLt] at h
      split at h
      · rename_i ns ms z1 z2
        cases h
        have w1 := ints_rep z1 ⟨l, r⟩
        have w2 := ints_rep z2 ⟨l2, r2⟩
        subst w1 w2
        exact .inr ⟨a, b, _, _, rfl, rfl, SqT.of (k.sub _ _ e), SqT.of (k.sub _ _ e2), fin_old k (.bl _) q⟩
      · cases h
    | _ => simp [gLt] at h
  | _ => cases ry <;> simp [gLt] at h
theorem sLe : OpS G (rI0 fun i j => .bl (decide (i ≤ j))) gLe := by
  intro O M σ H ρ x y dx dy d Q k rx ry h q
  cases rx with
  | int i =>
    cases ry with
    | int j => simp only [gLe, Option.some.injEq] at h; subst h; exact ⟨i, j, rfl, rfl, fin_old k (.bl _) q⟩
    | _ => simp [gLe] at h
  | _ => cases ry <;> simp [gLe] at h
theorem sGt : OpS G (rI0 fun i j => .bl (decide (j < i))) gGt := by
  intro O M σ H ρ x y dx dy d Q k rx ry h q
  cases rx with
  | int i =>
    cases ry with
    | int j => simp only [gGt, Option.some.injEq] at h; subst h; exact ⟨i, j, rfl, rfl, fin_old k (.bl _) q⟩
    | _ => simp [gGt] at h
  | _ => cases ry <;> simp [gGt] at h
theorem sGe : OpS G (rI0 fun i j => .bl (decide (j ≤ i))) gGe := by
  intro O M σ H ρ x y dx dy d Q k rx ry h q
  cases rx with
  | int i =>
    cases ry with
    | int j => simp only [gGe, Option.some.injEq] at h; subst h; exact ⟨i, j, rfl, rfl, fin_old k (.bl _) q⟩
    | _ => simp [gGe] at h
  | _ => cases ry <;> simp [gGe] at h
theorem shaped_py {d : D} (h : d.lay 64 = true) : SeqAt.shaped d.py = true := by
  obtain ⟨a, b⟩ := py_ok 64 d h
  unfold SeqAt.shaped
  rw [a, decide_eq_true b]; rfl
theorem sEq : OpW G (rEqD G.K) gEq := by
  intro O M σ H ρ x y dx dy d Q k rx ry h q
  unfold gEq at h
  split at h
  · rename_i z
    cases h
    rw [Bool.and_eq_true] at z
    refine ⟨dx.py, dy.py, dp_w k.sub z.1 rx, dp_w k.sub z.2 ry, shaped_py z.1, shaped_py z.2, ?_⟩
    rw [py_eqv 64 64 dx dy z.1 z.2]
    exact fin_old k (.bl _) q
  · cases h
theorem sNe : OpW G (rNeD G.K) gNe := by
  intro O M σ H ρ x y dx dy d Q k rx ry h q
  unfold gNe at h
  split at h
  · rename_i z
    cases h
    rw [Bool.and_eq_true] at z
    refine ⟨dx.py, dy.py, dp_w k.sub z.1 rx, dp_w k.sub z.2 ry, shaped_py z.1, shaped_py z.2, ?_⟩
    rw [py_eqv 64 64 dx dy z.1 z.2]
    exact fin_old k (.bl _) q
  · cases h
end
end Sm
namespace Sm
open PySem PySem.Spec PyProof.Rows L2

/-! ## 7. expressions: a rule of the hand layer, and what its reading is -/
structure SE (G : Gx) (X : Cx) (W : WX) (e : Expr) (t : TE) (f : Ev) : Prop where
  k : X.K = G.K
  pe : PE X e t
  im : ImpE G W t f
/-- .. new -/
structure SN (G : Gx) (X : Cx) (W : WX) (e : Expr) (t : TE) (f : Ev) : Prop where
  k : X.K = G.K
  pe : PE X e t
  im : ImpN G W t f
/-- .. to be read at once -/
structure SW (G : Gx) (X : Cx) (W : WX) (e : Expr) (t : TE) (f : Ev) : Prop where
  k : X.K = G.K
  pe : PE X e t
  im : ImpW G W t f
structure ST (G : Gx) (X : Cx) (W : WX) (e : Expr) (t : TT) (f : Tv) : Prop where
  k : X.K = G.K
  pt : PT X e t
  im : ImpT G W t f
structure SPw (G : Gx) (X : Cx) (W : WX) (e : Expr) (t : TT) (f : Tv) : Prop where
  k : X.K = G.K
  pw : PW X e t
  im : ImpT G W t f
structure SA (G : Gx) (X : Cx) (W : WX) (es : List Expr) (t : TA) (f : Av) : Prop where
  k : X.K = G.K
  pa : PA X es t
  im : ImpA G W t f
theorem SN.e {G : Gx} {X : Cx} {W : WX} {e : Expr} {t : TE} {f : Ev} (h : SN G X W e t f) : SE G X W e t f := ⟨h.k, h.pe, h.im.imp⟩
theorem SE.w {G : Gx} {X : Cx} {W : WX} {e : Expr} {t : TE} {f : Ev} (h : SE G X W e t f) : SW G X W e t f := ⟨h.k, h.pe, h.im.toW⟩
def R.of (o : Option D) (ρ : List Sl) : R (D × List Sl) := match o with
  | some d => .ok (d, ρ)
  | none => .no
@[simp] theorem of_some (d : D) (ρ : List Sl) : R.of (some d) ρ = .ok (d, ρ) := rfl
@[simp] theorem of_none (ρ : List Sl) : R.of none ρ = .no := rfl
def xVar (i : Nat) : Ev := fun ρ => match ρ[i]? with
  | some (.fro d) => .ok (d, ρ)
  | _ => .no
/-- an owned one, to be read at once -/
def xVarO (i : Nat) : Ev := fun ρ => match ρ[i]? with
  | some (.own d) => .ok (d, ρ)
  | _ => .no
def xC (d : D) : Ev := fun ρ => .ok (d, ρ)
def xOp (g : D → D → Option D) (a b : Ev) : Ev := fun ρ => (a ρ).bnd fun x ρ1 => (b ρ1).bnd fun y ρ2 => R.of (g x y) ρ2
/-- the left one an owned slot -/
def xOpO (g : D → D → Option D) (i : Nat) (b : Ev) : Ev := fun ρ => match ρ[i]? with
  | some (.own _) => (b ρ).bnd fun y ρ1 => (match ρ1[i]? with | some (.own x) => R.of (g x y) ρ1 | _ => .no)
  | _ => .no
def xUn (g : D → Option D) (a : Ev) : Ev := fun ρ => (a ρ).bnd fun x ρ1 => R.of (g x) ρ1
def xAnd (a b : Ev) : Ev := fun ρ => (a ρ).bnd fun x ρ1 => match x with
  | .bl true => b ρ1
  | .bl false => .ok (.bl false, ρ1)
  | _ => .no
def xOr (a b : Ev) : Ev := fun ρ => (a ρ).bnd fun x ρ1 => match x with
  | .bl true => .ok (.bl true, ρ1)
  | .bl false => b ρ1
  | _ => .no
def xIte (c : Tv) (a b : Ev) : Ev := fun ρ => (c ρ).bnd fun x ρ1 => if x = true then a ρ1 else b ρ1
def tvOf (a : Ev) : Tv := fun ρ => (a ρ).bnd fun x ρ1 => match x with
  | .bl b => .ok (b, ρ1)
  | _ => .no
def tvAnd (a b : Tv) : Tv := fun ρ => (a ρ).bnd fun x ρ1 => if x = true then b ρ1 else .ok (false, ρ1)
def tvOr (a b : Tv) : Tv := fun ρ => (a ρ).bnd fun x ρ1 => if x = true then .ok (true, ρ1) else b ρ1
def tvNot (a : Tv) : Tv := fun ρ => (a ρ).bnd fun x ρ1 => .ok (!x, ρ1)
def xNil : Av := fun ρ => .ok ([], ρ)
def xCons (a : Ev) (r : Av) : Av := fun ρ => (a ρ).bnd fun x ρ1 => (r ρ1).bnd fun xs ρ2 => .ok (x :: xs, ρ2)
def xTup (a : Av) : Ev := fun ρ => (a ρ).bnd fun xs ρ1 => if isz xs.length then .ok (.tup xs, ρ1) else .no
def xLst (a : Av) : Ev := fun ρ => (a ρ).bnd fun xs ρ1 => if isz xs.length then .ok (.lst xs, ρ1) else .no
/-- a chain of two comparisons -/
def xChain (g g' : D → D → Option D) (a b c : Ev) : Ev := fun ρ => (a ρ).bnd fun x ρ1 => (b ρ1).bnd fun y ρ2 => match g x y with
  | some (.bl true) => (c ρ2).bnd fun z ρ3 => R.of (g' y z) ρ3
  | some (.bl false) => .ok (.bl false, ρ2)
  | _ => .no
/-- a call of an own def that changes nothing -/
def xCall (f : List D → R D) (a : Av) : Ev := fun ρ => (a ρ).bnd fun ds ρ1 => match f ds with
  | .ok d => .ok (d, ρ1)
  | .ex c pl _ => .ex c pl ρ1
  | .no => .no
/-- .. whose first argument is an owned slot that it may change -/
def xCallIo (f : D → List D → R (D × D)) (i : Nat) (a : Av) : Ev := fun ρ => match ρ[i]? with
  | some (.own _) => (a ρ).bnd fun ds ρ1 => (match ρ1[i]? with
    | some (.own c) => (match f c ds with | .ok (d, c') => .ok (d, ρ1.set i (.own c')) | _ => .no)
    | _ => .no)
  | _ => .no
section
variable {G : Gx} {X : Cx} {W : WX}
theorem se_var {x : Str} {pos : Pos} (i : Nat) (k : X.K = G.K := by rfl) (hN : X.N[i]? = some x := by rfl) (hv : Vis X.env.scope x := by first | exact Or.inl rfl | exact Or.inr (Or.inl rfl) | exact Or.inr (Or.inr rfl)) (hd : (x == ("__debug__" : Str)) = false := by decide)
    (hcd : (x == ("__classdict__" : Str)) = false := by decide) : SE G X W (.Name x pos) (tVar i) (xVar i) := by
  refine ⟨k, pe_var hN hv hd hcd, fun O M σ H ρ Q ok h => ?_⟩
  unfold xVar at h
  split at h
  · rename_i d e
    obtain ⟨v, e1, r⟩ := ok.fro i d e
    exact ⟨v, e1, Post.here ok h r⟩
  · exact h.elim
theorem sw_varO {x : Str} {pos : Pos} (i : Nat) (k : X.K = G.K := by rfl) (hN : X.N[i]? = some x := by rfl) (hv : Vis X.env.scope x := by first | exact Or.inl rfl | exact Or.inr (Or.inl rfl) | exact Or.inr (Or.inr rfl)) (hd : (x == ("__debug__" : Str)) = false := by decide)
    (hcd : (x == ("__classdict__" : Str)) = false := by decide) : SW G X W (.Name x pos) (tVar i) (xVarO i) := by
  refine ⟨k, pe_var hN hv hd hcd, fun O M σ H ρ Q ok h => ?_⟩
  unfold xVarO at h
  split at h
  · rename_i d e
    obtain ⟨p, o, e1, _, e2, r⟩ := ok.own i d e
    exact ⟨_, e1, Post.here ok h (.inr ⟨p, o, rfl, e2, r⟩)⟩
  · exact h.elim
theorem im_c {v : V} {d : D} (r : ∀ M, Rep G.K M v d) : ImpE G W (tC v) (xC d) := fun O M σ H ρ Q ok h => Post.here ok h (r M)
theorem se_int {i j pos} (k : X.K = G.K := by rfl) : SE G X W (.Constant (.int i) j pos) (tC (.int i)) (xC (.int i)) := ⟨k, pe_int, im_c fun _ => .int _⟩
theorem se_bl {b j pos} (k : X.K = G.K := by rfl) : SE G X W (.Constant (.bool b) j pos) (tC (.bl b)) (xC (.bl b)) := ⟨k, pe_bl, im_c fun _ => .bl _⟩
theorem se_non {j pos} (k : X.K = G.K := by rfl) : SE G X W (.Constant .none j pos) (tC .non) (xC .non) := ⟨k, pe_non, im_c fun _ => .non⟩
theorem se_str {x j pos} (k : X.K = G.K := by rfl) : SE G X W (.Constant (.str x) j pos) (tC (.str x)) (xC (.str x)) := ⟨k, pe_str, im_c fun _ => .str _⟩
/-- a module's int -/
theorem se_gint {x : Str} {i : Int} {t : Tok} {pos : Pos} (hm : X.mg x = some (.int i t)) (k : X.K = G.K := by rfl) (hg : Gl X x := by rfl) (hd : (x == ("__debug__" : Str)) = false := by decide) : SE G X W (.Name x pos) (tC (.int i)) (xC (.int i)) :=
  ⟨k, pe_glob hg hm ⟨_, rfl⟩ hd, im_c fun _ => .int _⟩
theorem im_op {r : R2} {g : D → D → Option D} {ta tb : TE} {fa fb : Ev} (hs : OpS G r g) (ha : ImpE G W ta fa) (hb : ImpE G W tb fb) : ImpE G W (tOp r ta tb) (xOp g fa fb) := by
  intro O M σ H ρ Q ok h
  refine ha.bind ok h fun x dx ρ1 M1 H1 ok1 s1 r1 h1 => ?_
  refine hb.bind ok1 h1 fun y dy ρ2 M2 H2 ok2 s2 r2 h2 => ?_
  cases e : g dx dy with
  | none => rw [e] at h2; exact h2.elim
  | some d => rw [e] at h2; exact hs O M2 σ H2 ρ2 x y dx dy d Q ok2 (r1.mono s2.m) r2 e h2
theorem OpW.s {r : R2} {g : D → D → Option D} (h : OpW G r g) : OpS G r g := fun O M σ H ρ x y dx dy d Q ok rx ry => h O M σ H ρ x y dx dy d Q ok (.inl rx) (.inl ry)
theorem im_opO {r : R2} {g : D → D → Option D} {tb : TE} {fb : Ev} (i : Nat) (hs : OpW G r g) (hb : ImpE G W tb fb) : ImpE G W (tOp r (tVar i) tb) (xOpO g i fb) := by
  intro O M σ H ρ Q ok h
  unfold xOpO at h
  split at h
  · rename_i d0 e0
    obtain ⟨p, o, e1, _, _, _⟩ := ok.own i d0 e0
    refine ⟨_, e1, ?_⟩
    refine hb.bind ok h fun y dy ρ1 M1 H1 ok1 s1 r1 h1 => ?_
    split at h1
    · rename_i dx e2
      obtain ⟨p', o', e3, _, e4, r4⟩ := ok1.own i dx e2
      rw [e1] at e3
      cases e3
      cases e : g dx dy with
      | none => rw [e] at h1; exact h1.elim
      | some d => rw [e] at h1; exact hs O M1 σ H1 ρ1 _ y dx dy d Q ok1 (.inr ⟨p, o', rfl, e4, r4⟩) (.inl r1) e h1
    · exact h1.elim
  · exact h.elim
/-- a unary thing by values -/
def UnS (G : Gx) (r : V → Hp → VK → Prop) (g : D → Option D) : Prop :=
  ∀ O M σ H ρ x dx d (Q : VK), Ok G O M σ H ρ → Rep G.K M x dx → g dx = some d → (∀ v M' H', Ok G O M' σ H' ρ → Stp O M H M' H' → Rep G.K M' v d → Q v H') → r x H Q
def UnW (G : Gx) (r : V → Hp → VK → Prop) (g : D → Option D) : Prop :=
  ∀ O M σ H ρ x dx d (Q : VK), Ok G O M σ H ρ → RW G M H x dx → g dx = some d → (∀ v M' H', Ok G O M' σ H' ρ → Stp O M H M' H' → Rep G.K M' v d → Q v H') → r x H Q
theorem im_un {r : V → Hp → VK → Prop} {g : D → Option D} {ta : TE} {fa : Ev} (hs : UnS G r g) (ha : ImpE G W ta fa) : ImpE G W (fun σ H Q => ta σ H fun x H1 => r x H1 Q) (xUn g fa) := by
  intro O M σ H ρ Q ok h
  refine ha.bind ok h fun x dx ρ1 M1 H1 ok1 s1 r1 h1 => ?_
  cases e : g dx with
  | none => rw [e] at h1; exact h1.elim
  | some d => rw [e] at h1; exact hs O M1 σ H1 ρ1 x dx d Q ok1 r1 e h1
theorem im_unW {r : V → Hp → VK → Prop} {g : D → Option D} {ta : TE} {fa : Ev} (hs : UnW G r g) (ha : ImpW G W ta fa) : ImpE G W (fun σ H Q => ta σ H fun x H1 => r x H1 Q) (xUn g fa) := by
  intro O M σ H ρ Q ok h
  refine ha.bind ok h fun x dx ρ1 M1 H1 ok1 s1 r1 h1 => ?_
  cases e : g dx with
  | none => rw [e] at h1; exact h1.elim
  | some d => rw [e] at h1; exact hs O M1 σ H1 ρ1 x dx d Q ok1 r1 e h1
theorem UnW.s {r : V → Hp → VK → Prop} {g : D → Option D} (h : UnW G r g) : UnS G r g := fun O M σ H ρ x dx d Q ok rx => h O M σ H ρ x dx d Q ok (.inl rx)
/-! ### operators -/
section
variable {a b c : Expr} {ta tb tc : TE} {fa fb fc : Ev} {pos : Pos}
theorem se_add (ha : SE G X W a ta fa) (hb : SE G X W b tb fb) : SE G X W (.BinOp a .Add b pos) (tOp (rAddX G.K) ta tb) (xOp gAdd fa fb) := by
  have h := @op_addX X
  rw [ha.k] at h
  exact ⟨ha.k, pe_op h ha.pe hb.pe, im_op sAdd ha.im hb.im⟩
theorem se_sub (ha : SE G X W a ta fa) (hb : SE G X W b tb fb) : SE G X W (.BinOp a .Sub b pos) (tOp (rI0 fun i j => .int (i - j)) ta tb) (xOp gSub fa fb) := ⟨ha.k, pe_op op_sub ha.pe hb.pe, im_op sSub ha.im hb.im⟩
theorem se_mul (ha : SE G X W a ta fa) (hb : SE G X W b tb fb) : SE G X W (.BinOp a .Mult b pos) (tOp (rMulX G.K) ta tb) (xOp gMul fa fb) := by
  have h := @op_mulA X
  rw [ha.k] at h
  exact ⟨ha.k, pe_op h ha.pe hb.pe, im_op sMul ha.im hb.im⟩
theorem se_div (ha : SE G X W a ta fa) (hb : SE G X W b tb fb) : SE G X W (.BinOp a .FloorDiv b pos) (tOp (rI CDivW fun i j => .int (i / j)) ta tb) (xOp gDiv fa fb) := ⟨ha.k, pe_op op_fdivW ha.pe hb.pe, im_op sDiv ha.im hb.im⟩
theorem se_mod (ha : SE G X W a ta fa) (hb : SE G X W b tb fb) : SE G X W (.BinOp a .Mod b pos) (tOp (rI (fun _ j => 0 < j) fun i j => .int (i % j)) ta tb) (xOp gMod fa fb) := ⟨ha.k, pe_op op_mod ha.pe hb.pe, im_op sMod ha.im hb.im⟩
theorem se_pow (ha : SE G X W a ta fa) (hb : SE G X W b tb fb) : SE G X W (.BinOp a .Pow b pos) (tOp (rI CPow fun i j => .int (i ^ j.toNat)) ta tb) (xOp gPow fa fb) := ⟨ha.k, pe_op op_pow ha.pe hb.pe, im_op sPow ha.im hb.im⟩
def gNeg : D → Option D
  | .int i => some (.int (-i))
  | _ => none
theorem se_neg (ha : SE G X W a ta fa) : SE G X W (.UnaryOp .USub a pos) (tUn (rU fun i => .int (-i)) ta) (xUn gNeg fa) := by
  have hs : UnS G (rU fun i => .int (-i)) gNeg := fun O M σ H ρ x dx d Q ok r e q => by
    cases r with
    | int i => cases e; exact ⟨i, rfl, fin_old ok (.int _) q⟩
    | _ => cases e
  exact ⟨ha.k, pe_un un_neg ha.pe, im_un (r := rU fun i => .int (-i)) hs ha.im⟩
/-! ### comparisons, as values and as tests -/
theorem se_cmp {op : CmpOp} {r : R2} {g : D → D → Option D} (ho : OpR X (compareOp op) r) (hs : OpS G r g) (ha : SE G X W a ta fa) (hb : SE G X W b tb fb) (hm : behindInMarks op b = false) : SE G X W (.Compare a [op] [b] pos) (tOp r ta tb) (xOp g fa fb) :=
  ⟨ha.k, pe_cmpR ho ha.pe hb.pe hm, im_op hs ha.im hb.im⟩
theorem im_test {t : TE} {f : Ev} (h : ImpE G W t f) : ImpT G W (tTest t) (tvOf f) := by
  intro O M σ H ρ Q ok hp
  refine h.bind ok hp fun x dx ρ1 M1 H1 ok1 s1 r1 h1 => ?_
  cases r1 with
  | bl b => exact ⟨b, rfl, h1 b M1 H1 ok1 Stp.refl rfl⟩
  | _ => exact h1.elim
theorem st_cmp {op : CmpOp} {r : R2} {g : D → D → Option D} (ho : OpR X (compareOp op) r) (hs : OpS G r g) (ha : SE G X W a ta fa) (hb : SE G X W b tb fb) (hm : behindInMarks op b = false) : ST G X W (.Compare a [op] [b] pos) (tTest (tOp r ta tb)) (tvOf (xOp g fa fb)) :=
  ⟨ha.k, pt_cmpR ho ha.pe hb.pe hm, im_test (im_op hs ha.im hb.im)⟩
/-- the left one an owned slot -/
theorem st_cmpO {x : Str} {px : Pos} {op : CmpOp} {r : R2} {g : D → D → Option D} (i : Nat) (ho : OpR X (compareOp op) r) (hs : OpW G r g) (hb : SE G X W b tb fb) (hm : behindInMarks op b = false) (hN : X.N[i]? = some x := by rfl)
    (hv : Vis X.env.scope x := by first | exact Or.inl rfl | exact Or.inr (Or.inl rfl) | exact Or.inr (Or.inr rfl)) (hd : (x == ("__debug__" : Str)) = false := by decide) (hcd : (x == ("__classdict__" : Str)) = false := by decide) :
    ST G X W (.Compare (.Name x px) [op] [b] pos) (tTest (tOp r (tVar i) tb)) (tvOf (xOpO g i fb)) :=
  ⟨hb.k, pt_cmpR ho (pe_var hN hv hd hcd) hb.pe hm, im_test (im_opO i hs hb.im)⟩
theorem se_cmpO {x : Str} {px : Pos} {op : CmpOp} {r : R2} {g : D → D → Option D} (i : Nat) (ho : OpR X (compareOp op) r) (hs : OpW G r g) (hb : SE G X W b tb fb) (hm : behindInMarks op b = false) (hN : X.N[i]? = some x := by rfl)
    (hv : Vis X.env.scope x := by first | exact Or.inl rfl | exact Or.inr (Or.inl rfl) | exact Or.inr (Or.inr rfl)) (hd : (x == ("__debug__" : Str)) = false := by decide) (hcd : (x == ("__classdict__" : Str)) = false := by decide) :
    SE G X W (.Compare (.Name x px) [op] [b] pos) (tOp r (tVar i) tb) (xOpO g i fb) :=
  ⟨hb.k, pe_cmpR ho (pe_var hN hv hd hcd) hb.pe hm, im_opO i hs hb.im⟩
theorem oLt (hu : X.A.units + 64 < cLine) (k : X.K = G.K := by rfl) : OpR X (compareOp .Lt) (rLtX G.K) := by
  have h := @op_ltX X (by omega)
  rw [k] at h
  exact h
theorem oEq (hu : X.A.units + 64 < cLine) (k : X.K = G.K := by rfl) : OpR X (compareOp .Eq) (rEqD G.K) := by
  have h := @op_eqD X hu
  rw [k] at h
  exact h
theorem oNe (hu : X.A.units + 64 < cLine) (k : X.K = G.K := by rfl) : OpR X (compareOp .NotEq) (rNeD G.K) := by
  have h := @op_neD X hu
  rw [k] at h
  exact h
/-- a chain of two -/
theorem im_chain {r r' : R2} {g g' : D → D → Option D} (hs : OpS G r g) (hs' : OpS G r' g') (ha : ImpE G W ta fa) (hb : ImpE G W tb fb) (hc : ImpE G W tc fc) (hg : ∀ x y d, g x y = some d → ∃ b, d = .bl b) :
    ImpE G W (tChain r r' ta tb tc) (xChain g g' fa fb fc) := by
  intro O M σ H ρ Q ok h
  refine ha.bind ok h fun x dx ρ1 M1 H1 ok1 s1 r1 h1 => ?_
  refine hb.bind ok1 h1 fun y dy ρ2 M2 H2 ok2 s2 r2 h2 => ?_
  cases e : g dx dy with
  | none => rw [e] at h2; exact h2.elim
  | some d =>
    obtain ⟨b, rfl⟩ := hg _ _ _ e
    rw [e] at h2
    refine hs O M2 σ H2 ρ2 x y dx dy _ _ ok2 (r1.mono s2.m) r2 e fun v M3 H3 ok3 s3 r3 => ?_
    cases r3
    cases b with
    | true =>
      have h3 := Post.move h2 s3
      refine ⟨true, rfl, ?_⟩
      refine hc.bind ok3 h3 fun z dz ρ4 M4 H4 ok4 s4 r4 h4 => ?_
      cases e' : g' dy dz with
      | none => rw [e'] at h4; exact h4.elim
      | some d => rw [e'] at h4; exact hs' O M4 σ H4 ρ4 y z dy dz d Q ok4 (r2.mono (s3.trans s4).m) r4 e' h4
    | false => exact ⟨false, rfl, h2 _ M3 H3 ok3 s3 (.bl _)⟩
end
end
end Sm
namespace Sm
open PySem PySem.Spec PyProof.Rows L2

/-! ## 8. tests, displays, items, slices -/
section
variable {G : Gx} {X : Cx} {W : WX} {a b c : Expr} {ta tb tc : TE} {fa fb fc : Ev} {pos : Pos}
theorem gBl {x : Option D} (h : x = none ∨ ∃ b, x = some (.bl b)) : ∀ d, x = some d → ∃ b, d = .bl b := fun d e => by
  rcases h with h | ⟨b, h⟩ <;> rw [h] at e <;> cases e
  exact ⟨b, rfl⟩
theorem gLe_bl : ∀ x y d, gLe x y = some d → ∃ b, d = .bl b := fun x y d e => by
  cases x <;> cases y <;> simp [gLe] at e
  exact ⟨_, e.symm⟩
theorem gGe_bl : ∀ x y d, gGe x y = some d → ∃ b, d = .bl b := fun x y d e => by
  cases x <;> cases y <;> simp [gGe] at e
  exact ⟨_, e.symm⟩
theorem gGt_bl : ∀ x y d, gGt x y = some d → ∃ b, d = .bl b := fun x y d e => by
  cases x <;> cases y <;> simp [gGt] at e
  exact ⟨_, e.symm⟩
theorem gLt_bl : ∀ x y d, gLt x y = some d → ∃ b, d = .bl b := fun x y d e => by
  cases x <;> cases y <;> simp only [gLt, Option.some.injEq] at e <;> first | exact ⟨_, e.symm⟩ | cases e | (split at e <;> first | (cases e; exact ⟨_, rfl⟩) | cases e)
theorem gEq_bl : ∀ x y d, gEq x y = some d → ∃ b, d = .bl b := fun x y d e => by
  unfold gEq at e
  split at e <;> cases e
  exact ⟨_, rfl⟩
theorem se_chain {op op' : CmpOp} {r r' : R2} {g g' : D → D → Option D} (ho : OpR X (compareOp op) r) (hs : OpS G r g) (ho' : OpR X (compareOp op') r') (hs' : OpS G r' g') (hg : ∀ x y d, g x y = some d → ∃ b, d = .bl b)
    (ha : SE G X W a ta fa) (hb : SE G X W b tb fb) (hc : SE G X W c tc fc) (hm : lastMarks [op, op'] [b, c] = false := by with_unfolding_all rfl) : SE G X W (.Compare a [op, op'] [b, c] pos) (tChain r r' ta tb tc) (xChain g g' fa fb fc) :=
  ⟨ha.k, pe_chain ho ho' ha.pe hb.pe hc.pe hm, im_chain hs hs' ha.im hb.im hc.im hg⟩
theorem st_chain {op op' : CmpOp} {r r' : R2} {g g' : D → D → Option D} (ho : OpR X (compareOp op) r) (hs : OpS G r g) (ho' : OpR X (compareOp op') r') (hs' : OpS G r' g') (hg : ∀ x y d, g x y = some d → ∃ b, d = .bl b)
    (ha : SE G X W a ta fa) (hb : SE G X W b tb fb) (hc : SE G X W c tc fc) (hm : lastMarks [op, op'] [b, c] = false := by with_unfolding_all rfl) : ST G X W (.Compare a [op, op'] [b, c] pos) (tTest (tChain r r' ta tb tc)) (tvOf (xChain g g' fa fb fc)) :=
  ⟨ha.k, pt_chain ho ho' ha.pe hb.pe hc.pe hm, im_test (im_chain hs hs' ha.im hb.im hc.im hg)⟩
theorem im_tB {t : TE} {f : Ev} (h : ImpE G W t f) : ImpT G W (tB t) (tvOf f) := by
  intro O M σ H ρ Q ok hp
  refine h.bind ok hp fun x dx ρ1 M1 H1 ok1 s1 r1 h1 => ?_
  cases r1 with
  | bl b => exact ⟨b, rfl, h1 b M1 H1 ok1 Stp.refl rfl⟩
  | _ => exact h1.elim
/-- a call, a name: True or False -/
theorem st_val (h : SE G X W a ta fa) (he : ∀ whole, isTrue a X.env whole = (do let v ← whole; standAt a.pos; holding [v] (truthy v)) := by intro _; rfl) : ST G X W a (tB ta) (tvOf fa) := ⟨h.k, pt_val h.pe he, im_tB h.im⟩
section
variable {tA tB' : TT} {gA gB : Tv} {rest : List Expr}
theorem st_not (h : ST G X W a tA gA) : ST G X W (.UnaryOp .Not a pos) (tNot tA) (tvNot gA) := by
  refine ⟨h.k, pt_not h.pt, fun O M σ H ρ Q ok hp => ?_⟩
  refine h.im.bind ok hp fun x dx ρ1 M1 H1 ok1 s1 r1 h1 => ?_
  exact h1 _ M1 H1 ok1 Stp.refl (by rw [r1])
theorem sp_and1 (h : ST G X W a tA gA) : SPw G X W (.BoolOp .And [a] pos) tA gA := ⟨h.k, pw_and1 h.pt, h.im⟩
theorem sp_or1 (h : ST G X W a tA gA) : SPw G X W (.BoolOp .Or [a] pos) tA gA := ⟨h.k, pw_or1 h.pt, h.im⟩
theorem sp_and (h : ST G X W a tA gA) (h2 : SPw G X W (.BoolOp .And (b :: rest) pos) tB' gB) : SPw G X W (.BoolOp .And (a :: b :: rest) pos) (tAnd tA tB') (tvAnd gA gB) := by
  refine ⟨h.k, pw_and h.pt h2.pw, fun O M σ H ρ Q ok hp => ?_⟩
  refine h.im.bind ok hp fun x dx ρ1 M1 H1 ok1 s1 r1 h1 => ?_
  rw [show x = dx from r1]
  cases dx with
  | true => exact h2.im O M1 σ H1 ρ1 Q ok1 h1
  | false => exact h1 _ M1 H1 ok1 Stp.refl rfl
theorem sp_or (h : ST G X W a tA gA) (h2 : SPw G X W (.BoolOp .Or (b :: rest) pos) tB' gB) : SPw G X W (.BoolOp .Or (a :: b :: rest) pos) (tOr tA tB') (tvOr gA gB) := by
  refine ⟨h.k, pw_or h.pt h2.pw, fun O M σ H ρ Q ok hp => ?_⟩
  refine h.im.bind ok hp fun x dx ρ1 M1 H1 ok1 s1 r1 h1 => ?_
  rw [show x = dx from r1]
  cases dx with
  | false => exact h2.im O M1 σ H1 ρ1 Q ok1 h1
  | true => exact h1 _ M1 H1 ok1 Stp.refl rfl
theorem SPw.t {e : Expr} (h : SPw G X W e tA gA) : ST G X W e tA gA := ⟨h.k, h.pw.pt, h.im⟩
theorem se_ite (hc : ST G X W c tA gA) (ha : SE G X W a ta fa) (hb : SE G X W b tb fb) : SE G X W (.IfExp c a b pos) (tIf tA ta tb) (xIte gA fa fb) := by
  refine ⟨ha.k, pe_ifExp hc.pt ha.pe hb.pe, fun O M σ H ρ Q ok hp => ?_⟩
  refine hc.im.bind ok hp fun x dx ρ1 M1 H1 ok1 s1 r1 h1 => ?_
  rw [show x = dx from r1]
  cases dx with
  | true => exact ha.im O M1 σ H1 ρ1 Q ok1 h1
  | false => exact hb.im O M1 σ H1 ρ1 Q ok1 h1
end
section
variable {rest : List Expr}
theorem se_one {op} (h : SE G X W a ta fa) : SE G X W (.BoolOp op [a] pos) ta fa := ⟨h.k, pe_one h.pe, h.im⟩
theorem se_and (ha : SE G X W a ta fa) (hb : SE G X W (.BoolOp .And (b :: rest) pos) tb fb) : SE G X W (.BoolOp .And (a :: b :: rest) pos) (tAndV ta tb) (xAnd fa fb) := by
  refine ⟨ha.k, pe_and ha.pe hb.pe, fun O M σ H ρ Q ok hp => ?_⟩
  refine ha.im.bind ok hp fun x dx ρ1 M1 H1 ok1 s1 r1 h1 => ?_
  cases r1 with
  | bl k =>
    cases k with
    | true => exact ⟨true, rfl, hb.im O M1 σ H1 ρ1 Q ok1 h1⟩
    | false => exact ⟨false, rfl, h1 _ M1 H1 ok1 Stp.refl (.bl _)⟩
  | _ => exact h1.elim
theorem se_or (ha : SE G X W a ta fa) (hb : SE G X W (.BoolOp .Or (b :: rest) pos) tb fb) : SE G X W (.BoolOp .Or (a :: b :: rest) pos) (tOrV ta tb) (xOr fa fb) := by
  refine ⟨ha.k, pe_or ha.pe hb.pe, fun O M σ H ρ Q ok hp => ?_⟩
  refine ha.im.bind ok hp fun x dx ρ1 M1 H1 ok1 s1 r1 h1 => ?_
  cases r1 with
  | bl k =>
    cases k with
    | false => exact ⟨false, rfl, hb.im O M1 σ H1 ρ1 Q ok1 h1⟩
    | true => exact ⟨true, rfl, h1 _ M1 H1 ok1 Stp.refl (.bl _)⟩
  | _ => exact h1.elim
def gNot : D → Option D
  | .bl b => some (.bl (!b))
  | _ => none
theorem se_not (h : SE G X W a ta fa) : SE G X W (.UnaryOp .Not a pos) (tNotV ta) (xUn gNot fa) := by
  refine ⟨h.k, pe_not h.pe, fun O M σ H ρ Q ok hp => ?_⟩
  refine h.im.bind ok hp fun x dx ρ1 M1 H1 ok1 s1 r1 h1 => ?_
  cases r1 with
  | bl k => exact ⟨k, rfl, h1 _ M1 H1 ok1 Stp.refl (.bl _)⟩
  | _ => exact h1.elim
def gIsN : D → Option D
  | .non => some (.bl true)
  | _ => some (.bl false)
def gNotN : D → Option D
  | .non => some (.bl false)
  | _ => some (.bl true)
theorem im_isN (h : ImpE G W ta fa) : ImpE G W (tIsN ta) (xUn gIsN fa) := by
  intro O M σ H ρ Q ok hp
  refine h.bind ok hp fun x dx ρ1 M1 H1 ok1 s1 r1 h1 => ?_
  cases r1 <;> exact h1 _ M1 H1 ok1 Stp.refl (.bl _)
theorem im_notN (h : ImpE G W ta fa) : ImpE G W (tNotN ta) (xUn gNotN fa) := by
  intro O M σ H ρ Q ok hp
  refine h.bind ok hp fun x dx ρ1 M1 H1 ok1 s1 r1 h1 => ?_
  cases r1 <;> exact h1 _ M1 H1 ok1 Stp.refl (.bl _)
theorem se_isN {j pos'} (h : SE G X W a ta fa) : SE G X W (.Compare a [.Is] [.Constant .none j pos'] pos) (tIsN ta) (xUn gIsN fa) := ⟨h.k, pe_cmp (pc_isN h.pe), im_isN h.im⟩
theorem se_notN {j pos'} (h : SE G X W a ta fa) : SE G X W (.Compare a [.IsNot] [.Constant .none j pos'] pos) (tNotN ta) (xUn gNotN fa) := ⟨h.k, pe_cmp (pc_notN h.pe), im_notN h.im⟩
theorem st_isN {j pos'} (h : SE G X W a ta fa) : ST G X W (.Compare a [.Is] [.Constant .none j pos'] pos) (tB (tIsN ta)) (tvOf (xUn gIsN fa)) := ⟨h.k, pt_cmp (pc_isN h.pe), im_tB (im_isN h.im)⟩
theorem st_notN {j pos'} (h : SE G X W a ta fa) : ST G X W (.Compare a [.IsNot] [.Constant .none j pos'] pos) (tB (tNotN ta)) (tvOf (xUn gNotN fa)) := ⟨h.k, pt_cmp (pc_notN h.pe), im_tB (im_notN h.im)⟩
/-- x is True, x is not True, x is False -/
def gIsB : D → D → Option D
  | .bl a, .bl b => some (.bl (a == b))
  | _, _ => none
def gNotB : D → D → Option D
  | .bl a, .bl b => some (.bl (!(a == b)))
  | _, _ => none
theorem sIsB : OpS G rIsB gIsB := by
  intro O M σ H ρ x y dx dy d Q k rx ry h q
  cases rx with
  | bl i =>
    cases ry with
    | bl j => simp only [gIsB, Option.some.injEq] at h; subst h; exact ⟨i, j, rfl, rfl, by rw [← Bool.beq_eq_decide_eq]; exact fin_old k (.bl _) q⟩
    | _ => simp [gIsB] at h
  | _ => cases ry <;> simp [gIsB] at h
theorem sNotB : OpS G rNotB gNotB := by
  intro O M σ H ρ x y dx dy d Q k rx ry h q
  cases rx with
  | bl i =>
    cases ry with
    | bl j => simp only [gNotB, Option.some.injEq] at h; subst h; exact ⟨i, j, rfl, rfl, by rw [← Bool.beq_eq_decide_eq]; exact fin_old k (.bl _) q⟩
    | _ => simp [gNotB] at h
  | _ => cases ry <;> simp [gNotB] at h
end
/-! ### argument lists, displays -/
section
variable {es : List Expr} {tl : TA} {fl : Av}
theorem sa_nil (k : X.K = G.K := by rfl) : SA G X W [] tNil xNil := ⟨k, pa_nil, fun O M σ H ρ Q ok hp => hp _ M H ok Stp.refl .nil⟩
theorem sa_cons (ha : SE G X W a ta fa) (hr : SA G X W es tl fl) (hs : starEach (a :: es) X.env = (false, eval a X.env) :: starEach es X.env := by rfl) : SA G X W (a :: es) (tCons ta tl) (xCons fa fl) := by
  refine ⟨ha.k, pa_cons ha.pe hr.pa hs, fun O M σ H ρ Q ok hp => ?_⟩
  refine ha.im.bind ok hp fun x dx ρ1 M1 H1 ok1 s1 r1 h1 => ?_
  refine hr.im.bind ok1 h1 fun xs ds ρ2 M2 H2 ok2 s2 r2 h2 => ?_
  exact h2 _ M2 H2 ok2 Stp.refl (.cons (r1.mono s2.m) r2)
theorem sn_lst (h : SA G X W es tl fl) : SN G X W (.List es pos) (tLst tl) (xLst fl) := by
  refine ⟨h.k, pe_lst h.pa, fun O M σ H ρ Q ok hp => ?_⟩
  refine h.im.bindN ok hp fun xs ds ρ1 M1 H1 ok1 s1 r1 h1 => ?_
  have r1 : Reps G.K M1 xs ds := r1
  split at h1
  · rename_i z
    exact ⟨by rw [r1.1]; exact isz_ok z, fun p hn => PostN.here ok1 h1 hn (.lst r1)⟩
  · exact h1.elim
theorem se_tup {x1} (h : SA G X W es tl fl) : SE G X W (.Tuple es x1 pos) (tTup tl) (xTup fl) := by
  refine ⟨h.k, pe_tup h.pa, fun O M σ H ρ Q ok hp => ?_⟩
  refine h.im.bind ok hp fun xs ds ρ1 M1 H1 ok1 s1 r1 h1 => ?_
  have r1 : Reps G.K M1 xs ds := r1
  split at h1
  · rename_i z
    exact ⟨by rw [r1.1]; exact isz_ok z, fin_newT ok1 r1 h1⟩
  · exact h1.elim
end
/-! ### items -/
def gIdx : D → D → Option D
  | .lst l, .int i => atI l i
  | .tup l, .int i => atI l i
  | _, _ => none
theorem atI_rep {K : PySem.W.Frag} {M : Hp} {vs : List V} {ds : List D} {i : Int} {d : D} (r : Reps K M vs ds) (h : atI ds i = some d) : ∃ v, atI vs i = some v ∧ Rep K M v d := by
  unfold atI at h ⊢
  rw [r.1]
  cases e : ixN ds.length i with
  | none => rw [e] at h; cases h
  | some j => rw [e] at h; exact r.get h
theorem wLst {O : Addr → Prop} {M : Hp} {σ : L2.St} {H : Hp} {ρ : List Sl} {x : V} {ds : List D} (ok : Ok G O M σ H ρ) (r : RW G M H x (.lst ds)) : ∃ p vs, x = .ref p ∧ H p = some (.lst vs) ∧ Reps G.K M vs ds := by
  rcases r with r | ⟨p, o, rfl, e, r⟩
  · cases r with
    | @lst a vs _ e l r => exact ⟨a, vs, rfl, ok.sub _ _ e, l, r⟩
  · cases r with
    | @lst vs _ r => exact ⟨p, vs, rfl, e, r⟩
theorem wTup {O : Addr → Prop} {M : Hp} {σ : L2.St} {H : Hp} {ρ : List Sl} {x : V} {ds : List D} (ok : Ok G O M σ H ρ) (r : RW G M H x (.tup ds)) : Rep G.K M x (.tup ds) ∧ ∃ p vs, x = .ref p ∧ H p = some (.tup vs) ∧ Reps G.K M vs ds := by
  rcases r with r | ⟨p, o, rfl, e, r⟩
  · refine ⟨r, ?_⟩
    cases r with
    | @tup a vs _ e l r => exact ⟨a, vs, rfl, ok.sub _ _ e, l, r⟩
  · cases r
theorem sIdx : OpW G (rIx G.K) gIdx := by
  intro O M σ H ρ x y dx dy d Q k rx ry h q
  cases dx with
  | lst l =>
    cases dy with
    | int i =>
      obtain ⟨p, vs, rfl, e, r⟩ := wLst k rx
      obtain ⟨v, e2, r2⟩ := atI_rep r h
      have ry' : y = .int i := by
        rcases ry with ry | ⟨_, _, _, _, ry⟩
        · cases ry; rfl
        · cases ry
      subst ry'
      exact .inl ⟨p, vs, i, v, rfl, rfl, SqL.of e, e2, fin_old k r2 q⟩
    | _ => simp [gIdx] at h
  | tup l =>
    cases dy with
    | int i =>
      obtain ⟨_, p, vs, rfl, e, r⟩ := wTup k rx
      obtain ⟨v, e2, r2⟩ := atI_rep r h
      have ry' : y = .int i := by
        rcases ry with ry | ⟨_, _, _, _, ry⟩
        · cases ry; rfl
        · cases ry
      subst ry'
      exact .inr (.inl ⟨p, vs, i, v, rfl, rfl, SqT.of e, e2, fin_old k r2 q⟩)
    | _ => simp [gIdx] at h
  | _ => simp [gIdx] at h
theorem oIx (k : X.K = G.K := by rfl) : IxR X (rIx G.K) := by
  have h := @ix_seq X
  rw [k] at h
  exact h
theorem se_idx (ha : SE G X W a ta fa) (hb : SE G X W b tb fb) (hs : PlainIx b := by intro _ _; rfl) : SE G X W (.Subscript a b pos) (tOp (rIx G.K) ta tb) (xOp gIdx fa fb) := ⟨ha.k, pe_ix (oIx ha.k) ha.pe hb.pe hs, im_op sIdx.s ha.im hb.im⟩
/-- of an owned slot -/
theorem se_idxO {x : Str} {px : Pos} (i : Nat) (hb : SE G X W b tb fb) (hs : PlainIx b := by intro _ _; rfl) (hN : X.N[i]? = some x := by rfl)
    (hv : Vis X.env.scope x := by first | exact Or.inl rfl | exact Or.inr (Or.inl rfl) | exact Or.inr (Or.inr rfl)) (hd : (x == ("__debug__" : Str)) = false := by decide) (hcd : (x == ("__classdict__" : Str)) = false := by decide) :
    SE G X W (.Subscript (.Name x px) b pos) (tOp (rIx G.K) (tVar i) tb) (xOpO gIdx i fb) := ⟨hb.k, pe_ix (oIx hb.k) (pe_var hN hv hd hcd) hb.pe hs, im_opO i sIdx hb.im⟩
/-! ### slices -/
def cutD (l : List D) (lo hi : Option Int) : List D := (l.drop (HT.sIx l.length 0 lo)).take (HT.sIx l.length l.length hi - HT.sIx l.length 0 lo)
theorem cut_rep {K : PySem.W.Frag} {M : Hp} {vs : List V} {ds : List D} (r : Reps K M vs ds) (lo hi : Option Int) : Reps K M (cutV vs lo hi) (cutD ds lo hi) := by
  unfold cutV cutD
  rw [r.1]
  exact (r.drop _).take _
abbrev Ov := List Sl → R (Option Int × List Sl)
structure SO (G : Gx) (X : Cx) (W : WX) (e : Option Expr) (t : TO) (f : Ov) : Prop where
  po : PO X e t
  im : Imp G (fun _ _ v d => v = d) W t f
def oNone : Ov := fun ρ => .ok (none, ρ)
def oSome (a : Ev) : Ov := fun ρ => (a ρ).bnd fun x ρ1 => match x with
  | .int i => .ok (some i, ρ1)
  | _ => .no
theorem so_none : SO G X W none tNoPart oNone := ⟨po_none, fun O M σ H ρ Q ok hp => hp _ M H ok Stp.refl rfl⟩
theorem so_some (h : SE G X W a ta fa) : SO G X W (some a) (tPart ta) (oSome fa) := by
  refine ⟨po_some h.pe, fun O M σ H ρ Q ok hp => ?_⟩
  refine h.im.bind ok hp fun x dx ρ1 M1 H1 ok1 s1 r1 h1 => ?_
  cases r1 with
  | int i => exact ⟨i, rfl, h1 _ M1 H1 ok1 Stp.refl rfl⟩
  | _ => exact h1.elim
/-- data that a slice or tuple(..) reads: taken as it stood when it was read; of an owned slot the slice's bounds must leave it as it is -/
def gSl : D → Option Int → Option Int → Option D
  | .lst l, lo, hi => some (.lst (cutD l lo hi))
  | .tup l, lo, hi => some (.tup (cutD l lo hi))
  | _, _, _ => none
def xSl (a : Ev) (lo hi : Ov) : Ev := fun ρ => (a ρ).bnd fun x ρ1 => (lo ρ1).bnd fun l ρ2 => (hi ρ2).bnd fun h ρ3 => R.of (gSl x l h) ρ3
def xSlO (i : Nat) (lo hi : Ov) : Ev := fun ρ => match ρ[i]? with
  | some (.own _) => (lo ρ).bnd fun l ρ2 => (hi ρ2).bnd fun h ρ3 => (match ρ3[i]? with | some (.own x) => R.of (gSl x l h) ρ3 | _ => .no)
  | _ => .no
def rSlX (K : PySem.W.Frag) : V → Option Int → Option Int → Hp → VK → Prop := fun x lo hi H Q => rSlL K x lo hi H Q ∨ rSlA K x lo hi H Q
theorem cut_whole {l : List D} {lo hi : Option Int} (h1 : HT.sIx l.length 0 lo = 0) (h2 : HT.sIx l.length l.length hi = l.length) : cutD l lo hi = l := by
  unfold cutD
  rw [h1, h2]
  simp
theorem sSl {O : Addr → Prop} {M : Hp} {σ : L2.St} {H : Hp} {ρ : List Sl} {x : V} {dx d : D} {lo hi : Option Int} {Q : VK} (k : Ok G O M σ H ρ) (rx : RW G M H x dx) (h : gSl dx lo hi = some d)
    (q : ∀ v M' H', Ok G O M' σ H' ρ → Stp O M H M' H' → Rep G.K M' v d → Q v H') : rSlX G.K x lo hi H Q := by
  cases dx with
  | lst l =>
    obtain ⟨p, vs, rfl, e, r⟩ := wLst k rx
    cases h
    exact .inl ⟨p, vs, rfl, SqL.of e, fin_new k (.lst (cut_rep r lo hi)) q⟩
  | tup l =>
    cases h
    obtain ⟨r0, p, vs, rfl, e, r⟩ := wTup k rx
    refine .inr ⟨p, vs, rfl, SqT.of e, fun hw => ?_, fun _ => fin_newT k (cut_rep r lo hi) q⟩
    rw [r.1] at hw
    rw [cut_whole hw.1 hw.2] at q
    exact fin_old k r0 q
  | _ => cases h
end
end Sm
namespace Sm
open PySem PySem.Spec PyProof.Rows L2

section
variable {G : Gx} {X : Cx} {W : WX} {a b c : Expr} {ta tb tc : TE} {fa fb fc : Ev} {pos : Pos}
theorem oSl (k : X.K = G.K := by rfl) : SlR X (rSlX G.K) := by
  have h := (@sl_list X).or (@sl_tupA X)
  rw [k] at h
  exact h
theorem se_sl {lo hi : Option Expr} {tl th : TO} {fl fh : Ov} {p2 : Pos} (ha : SE G X W a ta fa) (hl : SO G X W lo tl fl) (hh : SO G X W hi th fh) : SE G X W (.Subscript a (.Slice lo hi none p2) pos) (tSl (rSlX G.K) ta tl th) (xSl fa fl fh) := by
  refine ⟨ha.k, pe_slice (oSl ha.k) ha.pe hl.po hh.po, fun O M σ H ρ Q ok h => ?_⟩
  refine ha.im.bind ok h fun x dx ρ1 M1 H1 ok1 s1 r1 h1 => ?_
  refine hl.im.bind ok1 h1 fun l dl ρ2 M2 H2 ok2 s2 r2 h2 => ?_
  refine hh.im.bind ok2 h2 fun u du ρ3 M3 H3 ok3 s3 r3 h3 => ?_
  subst r2 r3
  cases e : gSl dx l u with
  | none => rw [e] at h3; exact h3.elim
  | some d => rw [e] at h3; exact sSl ok3 (.inl (r1.mono (s2.trans s3).m)) e h3
theorem se_slO {x : Str} {px : Pos} {lo hi : Option Expr} {tl th : TO} {fl fh : Ov} {p2 : Pos} (i : Nat) (hl : SO G X W lo tl fl) (hh : SO G X W hi th fh) (k : X.K = G.K := by rfl) (hN : X.N[i]? = some x := by rfl)
    (hv : Vis X.env.scope x := by first | exact Or.inl rfl | exact Or.inr (Or.inl rfl) | exact Or.inr (Or.inr rfl)) (hd : (x == ("__debug__" : Str)) = false := by decide) (hcd : (x == ("__classdict__" : Str)) = false := by decide) :
    SE G X W (.Subscript (.Name x px) (.Slice lo hi none p2) pos) (tSl (rSlX G.K) (tVar i) tl th) (xSlO i fl fh) := by
  refine ⟨k, pe_slice (oSl k) (pe_var hN hv hd hcd) hl.po hh.po, fun O M σ H ρ Q ok h => ?_⟩
  unfold xSlO at h
  split at h
  · rename_i d0 e0
    obtain ⟨p, o, e1, _, _, _⟩ := ok.own i d0 e0
    refine ⟨_, e1, ?_⟩
    refine hl.im.bind ok h fun l dl ρ2 M2 H2 ok2 s2 r2 h2 => ?_
    refine hh.im.bind ok2 h2 fun u du ρ3 M3 H3 ok3 s3 r3 h3 => ?_
    subst r2 r3
    split at h3
    · rename_i dx e2
      obtain ⟨p', o', e3, _, e4, r4⟩ := ok3.own i dx e2
      rw [e1] at e3; cases e3
      cases e : gSl dx l u with
      | none => rw [e] at h3; exact h3.elim
      | some d => rw [e] at h3; exact sSl ok3 (.inr ⟨p, o', rfl, e4, r4⟩) e h3
    · exact h3.elim
  · exact h.elim

/-! ## 9. builtins by values -/
/-- one argument -/
def Bn1 (G : Gx) (r : List V → Hp → VK → Prop) (g : D → Option D) : Prop :=
  ∀ O M σ H ρ x dx d (Q : VK), Ok G O M σ H ρ → RW G M H x dx → g dx = some d → (∀ v M' H', Ok G O M' σ H' ρ → Stp O M H M' H' → Rep G.K M' v d → Q v H') → r [x] H Q
theorem im_b1 {r : List V → Hp → VK → Prop} {g : D → Option D} (hs : Bn1 G r g) (ha : ImpW G W ta fa) : ImpE G W (tCB r (tCons ta tNil)) (xUn g fa) := by
  intro O M σ H ρ Q ok h
  refine ha.bind ok h fun x dx ρ1 M1 H1 ok1 s1 r1 h1 => ?_
  cases e : g dx with
  | none => rw [e] at h1; exact h1.elim
  | some d => rw [e] at h1; exact hs O M1 σ H1 ρ1 x dx d Q ok1 r1 e h1
theorem se_b1 {x : Str} {id : String} {p : Pos} {r : List V → Hp → VK → Prop} {g : D → Option D} (hc : CallR X (.builtin id) r) (hs : Bn1 G r g) (ha : SW G X W a ta fa) (hm : X.mg x = none) (hv : bootBuiltins x = some (.builtin id)) (hg : Gl X x := by rfl)
    (he : starEach (a :: []) X.env = (false, eval a X.env) :: starEach [] X.env := by rfl) (hn : x ≠ "__name__" := by decide) (hdb : (x == ("__debug__" : Str)) = false := by decide) :
    SE G X W (.Call (.Name x p) [a] [] pos) (tCB r (tCons ta tNil)) (xUn g fa) := ⟨ha.k, pe_callB hc hg hm hv (pa_cons ha.pe pa_nil he) hn hdb he, im_b1 hs ha.im⟩
theorem se_t1 {x : Str} {T : String} {p : Pos} {r : List V → Hp → VK → Prop} {g : D → Option D} (hc : CallR X (.type T) r) (hs : Bn1 G r g) (ha : SW G X W a ta fa) (hm : X.mg x = none) (hv : bootBuiltins x = some (.type T)) (hg : Gl X x := by rfl)
    (he : starEach (a :: []) X.env = (false, eval a X.env) :: starEach [] X.env := by rfl) (hn : x ≠ "__name__" := by decide) (hdb : (x == ("__debug__" : Str)) = false := by decide) :
    SE G X W (.Call (.Name x p) [a] [] pos) (tCB r (tCons ta tNil)) (xUn g fa) := ⟨ha.k, pe_callTy hc hg hm hv (pa_cons ha.pe pa_nil he) hn hdb he, im_b1 hs ha.im⟩
def gLen : D → Option D
  | .lst l => some (.int l.length)
  | .tup l => some (.int l.length)
  | _ => none
theorem sLen : Bn1 G (fun xs H Q => ∃ p ys, xs = [.ref p] ∧ (SqL G.K H p ys ∨ SqT G.K H p ys) ∧ Q (.int ys.length) H) gLen := by
  intro O M σ H ρ x dx d Q k rx h q
  cases dx with
  | lst l =>
    obtain ⟨p, vs, rfl, e, r⟩ := wLst k rx
    cases h
    exact ⟨p, vs, rfl, .inl (SqL.of e), by rw [r.1]; exact fin_old k (.int _) q⟩
  | tup l =>
    obtain ⟨_, p, vs, rfl, e, r⟩ := wTup k rx
    cases h
    exact ⟨p, vs, rfl, .inr (SqT.of e), by rw [r.1]; exact fin_old k (.int _) q⟩
  | _ => cases h
theorem cLen (k : X.K = G.K := by rfl) : CallR X (.builtin "len") (fun xs H Q => ∃ p ys, xs = [.ref p] ∧ (SqL G.K H p ys ∨ SqT G.K H p ys) ∧ Q (.int ys.length) H) := by
  have h := @call_len_seq X
  rw [k] at h
  exact h
def gInt : D → Option D
  | .int i => some (.int i)
  | .bl b => some (.int (if b then 1 else 0))
  | _ => none
theorem RW.sc {M H : Hp} {x : V} {d : D} (r : RW G M H x d) (h : ∀ (o : HO), ¬ RepO G.K M o d) : Rep G.K M x d := by
  rcases r with r | ⟨p, o, rfl, e, r⟩
  · exact r
  · exact absurd r (h o)
theorem sInt : Bn1 G (fun xs H Q => (∃ i, xs = [.int i] ∧ Q (.int i) H) ∨ ∃ k, xs = [.bl k] ∧ Q (.int (if k then 1 else 0)) H) gInt := by
  intro O M σ H ρ x dx d Q k rx h q
  cases dx with
  | int i =>
    cases rx.sc (fun o z => nomatch z)
    cases h
    exact .inl ⟨i, rfl, fin_old k (.int _) q⟩
  | bl i =>
    cases rx.sc (fun o z => nomatch z)
    cases h
    exact .inr ⟨i, rfl, fin_old k (.int _) q⟩
  | _ => cases h
def gAbs : D → Option D
  | .int i => some (.int (if i < 0 then -i else i))
  | _ => none
theorem sAbs : Bn1 G (fun xs H Q => ∃ i, xs = [.int i] ∧ Q (.int (if i < 0 then -i else i)) H) gAbs := by
  intro O M σ H ρ x dx d Q k rx h q
  cases dx with
  | int i =>
    cases rx.sc (fun o z => nomatch z)
    cases h
    exact ⟨i, rfl, fin_old k (.int _) q⟩
  | _ => cases h
/-- tuple(x) of a list or a tuple -/
def gTuple : D → Option D
  | .lst l => some (.tup l)
  | .tup l => some (.tup l)
  | _ => none
theorem sTuple : Bn1 G (fun xs H Q => ∃ p ys, xs = [.ref p] ∧ ((SqL G.K H p ys ∧ ∀ l, H l = none → Q (.ref l) (upd H l (.tup ys))) ∨ (SqT G.K H p ys ∧ Q (.ref p) H))) gTuple := by
  intro O M σ H ρ x dx d Q k rx h q
  cases dx with
  | lst l =>
    obtain ⟨p, vs, rfl, e, r⟩ := wLst k rx
    cases h
    exact ⟨p, vs, rfl, .inl ⟨SqL.of e, fin_newT k r q⟩⟩
  | tup l =>
    obtain ⟨r0, p, vs, rfl, e, r⟩ := wTup k rx
    cases h
    exact ⟨p, vs, rfl, .inr ⟨SqT.of e, fin_old k r0 q⟩⟩
  | _ => cases h
theorem cTuple (k : X.K = G.K := by rfl) : CallR X (.type "tuple") (fun xs H Q => ∃ p ys, xs = [.ref p] ∧ ((SqL G.K H p ys ∧ ∀ l, H l = none → Q (.ref l) (upd H l (.tup ys))) ∨ (SqT G.K H p ys ∧ Q (.ref p) H))) := by
  have h := @call_tuple_of X
  rw [k] at h
  exact h
/-- list(x) of a list, a tuple, the script: new -/
def gList : D → Option D
  | .lst l => some (.lst l)
  | .tup l => some (.lst l)
  | .scr l => some (.lst (l.map .int))
  | _ => none
abbrev rList (K : PySem.W.Frag) : List V → Hp → VK → Prop := fun xs H Q => ∃ p ys, xs = [.ref p] ∧ (SqL K H p ys ∨ SqT K H p ys) ∧ ∀ l, H l = none → Q (.ref l) (upd H l (.lst ys))
theorem cList (k : X.K = G.K := by rfl) : CallR X (.type "list") (rList G.K) := by
  have h := @call_list_of X
  rw [k] at h
  exact h
theorem list_rd {O : Addr → Prop} {M : Hp} {σ : L2.St} {H : Hp} {ρ : List Sl} {x : V} {dx d : D} (k : Ok G O M σ H ρ) (rx : RW G M H x dx) (h : gList dx = some d) :
    ∃ p ys ds, x = .ref p ∧ (SqL G.K H p ys ∨ SqT G.K H p ys) ∧ d = .lst ds ∧ Reps G.K M ys ds := by
  cases dx with
  | lst l =>
    obtain ⟨p, vs, rfl, e, r⟩ := wLst k rx
    cases h
    exact ⟨p, vs, _, rfl, .inl (SqL.of e), rfl, r⟩
  | tup l =>
    obtain ⟨_, p, vs, rfl, e, r⟩ := wTup k rx
    cases h
    exact ⟨p, vs, _, rfl, .inr (SqT.of e), rfl, r⟩
  | scr l =>
    cases rx.sc (fun o z => nomatch z) with
    | @scr p _ e =>
      cases h
      exact ⟨p, _, _, rfl, .inl (Same.seq k.sub e), rfl, reps_ints l⟩
  | _ => cases h
theorem sn_list {x : Str} {p : Pos} (ha : SW G X W a ta fa) (hm : X.mg x = none) (hv : bootBuiltins x = some (.type "list")) (hg : Gl X x := by rfl)
    (he : starEach (a :: []) X.env = (false, eval a X.env) :: starEach [] X.env := by rfl) (hn : x ≠ "__name__" := by decide) (hdb : (x == ("__debug__" : Str)) = false := by decide) :
    SN G X W (.Call (.Name x p) [a] [] pos) (tCB (rList G.K) (tCons ta tNil)) (xUn gList fa) := by
  refine ⟨ha.k, pe_callTy (cList ha.k) hg hm hv (pa_cons ha.pe pa_nil he) hn hdb he, fun O M σ H ρ Q ok h => ?_⟩
  refine ha.im.bindN ok h fun x dx ρ1 M1 H1 ok1 s1 r1 h1 => ?_
  cases e : gList dx with
  | none => rw [e] at h1; exact h1.elim
  | some d =>
    rw [e] at h1
    obtain ⟨p, ys, ds, rfl, hs, rfl, r⟩ := list_rd ok1 r1 e
    exact ⟨p, ys, rfl, hs, fun l hn => PostN.here ok1 h1 hn (.lst r)⟩
/-- sum, max, min of a list of ints; all of a list of truth values -/
def gSum : D → Option D
  | .lst l => (D.ints l).map fun ns => .int ns.sum
  | _ => none
theorem sSum : Bn1 G (rSum G.K) gSum := by
  intro O M σ H ρ x dx d Q k rx h q
  cases dx with
  | lst l =>
    obtain ⟨p, vs, rfl, e, r⟩ := wLst k rx
    cases z : D.ints l with
    | none => simp [gSum, z] at h
    | some ns =>
      simp [gSum, z] at h
      subst h
      rw [ints_rep z r] at e
      exact ⟨p, ns, rfl, SqL.of e, fin_old k (.int _) q⟩
  | _ => cases h
def maxL : List Int → Int
  | [] => 0
  | [x] => x
  | x :: l => max x (maxL l)
def minL : List Int → Int
  | [] => 0
  | [x] => x
  | x :: l => min x (minL l)
theorem maxL_is : ∀ {l : List Int} {m : Int}, m ∈ l → (∀ y, y ∈ l → y ≤ m) → maxL l = m
  | [], _, h, _ => by simp at h
  | [x], m, h, _ => by simp at h; simp [maxL, h]
  | x :: y :: l, m, h, b => by
    have b1 := b x (by simp)
    rcases List.mem_cons.mp h with h | h
    · subst h
      have : ∀ l : List Int, l ≠ [] → (∀ z, z ∈ l → z ≤ m) → maxL l ≤ m := by
        intro l
        induction l with
        | nil => intro h; exact absurd rfl h
        | cons a t ih =>
          intro _ hb
          cases t with
          | nil => exact hb a (by simp)
          | cons c t => exact Int.max_le.mpr ⟨hb a (by simp), ih (by simp) fun z hz => hb z (List.mem_cons_of_mem _ hz)⟩
      have := this (y :: l) (by simp) fun z hz => b z (List.mem_cons_of_mem _ hz)
      show max m (maxL (y :: l)) = m
      omega
    · have := maxL_is h fun z hz => b z (List.mem_cons_of_mem _ hz)
      show max x (maxL (y :: l)) = m
      omega
theorem minL_is : ∀ {l : List Int} {m : Int}, m ∈ l → (∀ y, y ∈ l → m ≤ y) → minL l = m
  | [], _, h, _ => by simp at h
  | [x], m, h, _ => by simp at h; simp [minL, h]
  | x :: y :: l, m, h, b => by
    have b1 := b x (by simp)
    rcases List.mem_cons.mp h with h | h
    · subst h
      have : ∀ l : List Int, l ≠ [] → (∀ z, z ∈ l → m ≤ z) → m ≤ minL l := by
        intro l
        induction l with
        | nil => intro h; exact absurd rfl h
        | cons a t ih =>
          intro _ hb
          cases t with
          | nil => exact hb a (by simp)
          | cons c t => exact Int.le_min.mpr ⟨hb a (by simp), ih (by simp) fun z hz => hb z (List.mem_cons_of_mem _ hz)⟩
      have := this (y :: l) (by simp) fun z hz => b z (List.mem_cons_of_mem _ hz)
      show min m (minL (y :: l)) = m
      omega
    · have := minL_is h fun z hz => b z (List.mem_cons_of_mem _ hz)
      show min x (minL (y :: l)) = m
      omega
def gMax : D → Option D
  | .lst l => match D.ints l with
    | some (n :: ns) => some (.int (maxL (n :: ns)))
    | _ => none
  | _ => none
def gMin : D → Option D
  | .lst l => match D.ints l with
    | some (n :: ns) => some (.int (minL (n :: ns)))
    | _ => none
  | _ => none
theorem sMax : Bn1 G (rMax G.K) gMax := by
  intro O M σ H ρ x dx d Q k rx h q
  cases dx with
  | lst l =>
    obtain ⟨p, vs, rfl, e, r⟩ := wLst k rx
    simp only [gMax] at h
    split at h
    · rename_i n ns z
      cases h
      rw [ints_rep z r] at e
      refine ⟨p, _, rfl, SqL.of e, by simp, fun m h1 h2 => ?_⟩
      rw [maxL_is h1 h2] at q
      exact fin_old k (.int _) q
    · cases h
  | _ => cases h
theorem sMin : Bn1 G (rMin G.K) gMin := by
  intro O M σ H ρ x dx d Q k rx h q
  cases dx with
  | lst l =>
    obtain ⟨p, vs, rfl, e, r⟩ := wLst k rx
    simp only [gMin] at h
    split at h
    · rename_i n ns z
      cases h
      rw [ints_rep z r] at e
      refine ⟨p, _, rfl, SqL.of e, by simp, fun m h1 h2 => ?_⟩
      rw [minL_is h1 h2] at q
      exact fin_old k (.int _) q
    · cases h
  | _ => cases h
def D.bls : List D → Option (List Bool)
  | [] => some []
  | .bl i :: l => (D.bls l).map (i :: ·)
  | _ :: _ => none
theorem bls_rep {K : PySem.W.Frag} {M : Hp} : ∀ {ds : List D} {vs : List V} {ns : List Bool}, D.bls ds = some ns → Reps K M vs ds → vs = ns.map V.bl
  | [], vs, ns, h, r => by
    have e : vs = [] := List.length_eq_zero_iff.mp r.1
    cases h; subst e; rfl
  | d :: ds, [], ns, h, r => by have := r.1; simp at this
  | d :: ds, v :: vs, ns, h, r => by
    obtain ⟨a, b⟩ := Reps.tail r
    cases d with
    | bl i =>
      simp only [D.bls] at h
      cases q : D.bls ds with
      | none => rw [q] at h; cases h
      | some l =>
        rw [q] at h; cases h
        cases a
        rw [bls_rep q b]; rfl
    | _ => simp [D.bls] at h
def gAll : D → Option D
  | .lst l => (D.bls l).map fun ns => .bl (ns.all id)
  | _ => none
theorem sAll : Bn1 G (rAll G.K) gAll := by
  intro O M σ H ρ x dx d Q k rx h q
  cases dx with
  | lst l =>
    obtain ⟨p, vs, rfl, e, r⟩ := wLst k rx
    cases z : D.bls l with
    | none => simp [gAll, z] at h
    | some ns =>
      simp [gAll, z] at h
      subst h
      rw [bls_rep z r] at e
      exact ⟨p, ns, rfl, SqL.of e, fin_old k (.bl _) (by simpa using q)⟩
  | _ => cases h
theorem cSum (hc : X.calm = true := by rfl) (k : X.K = G.K := by rfl) : CallR X (.builtin "sum") (rSum G.K) := by
  have h := @cr_sum X hc
  rw [k] at h
  exact h
theorem cMax (hc : X.calm = true := by rfl) (k : X.K = G.K := by rfl) : CallR X (.builtin "max") (rMax G.K) := by
  have h := @cr_max X hc
  rw [k] at h
  exact h
theorem cMin (hc : X.calm = true := by rfl) (k : X.K = G.K := by rfl) : CallR X (.builtin "min") (rMin G.K) := by
  have h := @cr_min X hc
  rw [k] at h
  exact h
theorem cAll (hc : X.calm = true := by rfl) (k : X.K = G.K := by rfl) : CallR X (.builtin "all") (rAll G.K) := by
  have h := @cr_all X hc
  rw [k] at h
  exact h
/-- max(x, y), min(x, y) -/
def gMax2 : D → D → Option D
  | .int i, .int j => some (.int (if j > i then j else i))
  | _, _ => none
def gMin2 : D → D → Option D
  | .int i, .int j => some (.int (if j < i then j else i))
  | _, _ => none
theorem se_max2 {p : Pos} (ha : SE G X W a ta fa) (hb : SE G X W b tb fb) (hm : X.mg "max" = none) (hc : X.calm = true := by rfl) (hg : Gl X "max" := by rfl) (he : starEach [a, b] X.env = (false, eval a X.env) :: starEach [b] X.env := by rfl)
    (he2 : starEach [b] X.env = (false, eval b X.env) :: starEach [] X.env := by rfl) :
    SE G X W (.Call (.Name "max" p) [a, b] [] pos) (tCB (fun xs H Q => ∃ i j, xs = [.int i, .int j] ∧ Q (.int (if j > i then j else i)) H) (tCons ta (tCons tb tNil))) (xOp gMax2 fa fb) := by
  refine ⟨ha.k, pe_callB (call_max2 hc) hg hm (by decide +kernel) (pa_cons ha.pe (pa_cons hb.pe pa_nil he2) he) (he := he) (hpl := by rw [he2]; rfl), fun O M σ H ρ Q ok h => ?_⟩
  refine ha.im.bind ok h fun x dx ρ1 M1 H1 ok1 s1 r1 h1 => ?_
  refine hb.im.bind ok1 h1 fun y dy ρ2 M2 H2 ok2 s2 r2 h2 => ?_
  cases r1 with
  | int i =>
    cases r2 with
    | int j => exact ⟨i, j, rfl, h2 _ M2 H2 ok2 Stp.refl (.int _)⟩
    | _ => exact h2.elim
  | _ => cases r2 <;> exact h2.elim
theorem se_min2 {p : Pos} (ha : SE G X W a ta fa) (hb : SE G X W b tb fb) (hm : X.mg "min" = none) (hc : X.calm = true := by rfl) (hg : Gl X "min" := by rfl) (he : starEach [a, b] X.env = (false, eval a X.env) :: starEach [b] X.env := by rfl)
    (he2 : starEach [b] X.env = (false, eval b X.env) :: starEach [] X.env := by rfl) :
    SE G X W (.Call (.Name "min" p) [a, b] [] pos) (tCB (fun xs H Q => ∃ i j, xs = [.int i, .int j] ∧ Q (.int (if j < i then j else i)) H) (tCons ta (tCons tb tNil))) (xOp gMin2 fa fb) := by
  refine ⟨ha.k, pe_callB (call_min2 hc) hg hm (by decide +kernel) (pa_cons ha.pe (pa_cons hb.pe pa_nil he2) he) (he := he) (hpl := by rw [he2]; rfl), fun O M σ H ρ Q ok h => ?_⟩
  refine ha.im.bind ok h fun x dx ρ1 M1 H1 ok1 s1 r1 h1 => ?_
  refine hb.im.bind ok1 h1 fun y dy ρ2 M2 H2 ok2 s2 r2 h2 => ?_
  cases r1 with
  | int i =>
    cases r2 with
    | int j => exact ⟨i, j, rfl, h2 _ M2 H2 ok2 Stp.refl (.int _)⟩
    | _ => exact h2.elim
  | _ => cases r2 <;> exact h2.elim
/-- isinstance(x, T), T a built-in class -/
inductive PyT where | int | bool | tuple | list | str
def PyT.name : PyT → String
  | .int => "int" | .bool => "bool" | .tuple => "tuple" | .list => "list" | .str => "str"
def gIsi : PyT → D → Option D
  | .int, .int _ => some (.bl true)
  | .int, .bl _ => some (.bl true)
  | .bool, .bl _ => some (.bl true)
  | .tuple, .tup _ => some (.bl true)
  | .list, .lst _ => some (.bl true)
  | .str, .str _ => some (.bl true)
  | _, .dic _ _ => none
  | _, .scr _ => none
  | _, _ => some (.bl false)
theorem se_isi {x : Str} {p p2 : Pos} (T : PyT) (ha : SE G X W a ta fa) (hm : X.mg "isinstance" = none) (hm2 : X.mg x = none) (hv2 : bootBuiltins x = some (.type T.name)) (hg : Gl X "isinstance" := by rfl) (hg2 : Gl X x := by rfl)
    (he : starEach [a, .Name x p2] X.env = (false, eval a X.env) :: starEach [.Name x p2] X.env := by rfl) (he2 : starEach [.Name x p2] X.env = (false, eval (.Name x p2) X.env) :: starEach [] X.env := by rfl) (hn : x ≠ "__name__" := by decide) (hdb : (x == ("__debug__" : Str)) = false := by decide) :
    SE G X W (.Call (.Name "isinstance" p) [a, .Name x p2] [] pos) (tCB (rIsi G.K) (tCons ta (tCons (tC (.ty T.name)) tNil))) (xUn (gIsi T) fa) := by
  have hc : CallR X (.builtin "isinstance") (rIsi G.K) := by
    have h := @call_isi X
    rw [ha.k] at h
    exact h
  refine ⟨ha.k, pe_callB hc hg hm (by decide +kernel) (pa_cons ha.pe (pa_cons (pe_bltn (v := .ty T.name) hg2 hm2 hv2 rfl hn hdb) pa_nil he2) he) (he := he) (hpl := by rw [he2]; rfl), fun O M σ H ρ Q ok h => ?_⟩
  refine ha.im.bind ok h fun x dx ρ1 M1 H1 ok1 s1 r1 h1 => ?_
  have fin : ∀ b, gIsi T dx = some (.bl b) → Q (.bl b) H1 := fun b e => by
    rw [e] at h1
    exact h1 _ M1 H1 ok1 Stp.refl (.bl _)
  cases r1 with
  | non => cases T <;> exact ⟨_, _, _, _, _, rfl, .ty _, .base .non, kit_ty (by decide +kernel), fin _ rfl⟩
  | bl b => cases T <;> exact ⟨_, _, _, _, _, rfl, .ty _, .base (.bl _), kit_ty (by decide +kernel), fin _ rfl⟩
  | int b => cases T <;> exact ⟨_, _, _, _, _, rfl, .ty _, .base (.int _), kit_ty (by decide +kernel), fin _ rfl⟩
  | str b => cases T <;> exact ⟨_, _, _, _, _, rfl, .ty _, .base (.str _), kit_ty (by decide +kernel), fin _ rfl⟩
  | tup e l r => cases T <;> exact ⟨_, _, _, _, _, rfl, .ty _, .base (.tup (ok1.sub _ _ e)), kit_ty (by decide +kernel), fin _ rfl⟩
  | lst e l r => cases T <;> exact ⟨_, _, _, _, _, rfl, .ty _, .base (.lst (ok1.sub _ _ e)), kit_ty (by decide +kernel), fin _ rfl⟩
  | dic e l r => cases T <;> exact h1.elim
  | scr e => cases T <;> exact h1.elim
end
end Sm
namespace Sm
open PySem PySem.Spec PyProof.Rows L2

/-! ## 10. calls of own defs -/
theorem Stp.mono {O O' : Addr → Prop} {M H M' H' : Hp} (s : Stp O M H M' H') (h : ∀ a, O a → O' a) : Stp O' M H M' H' :=
  ⟨s.m, fun a o e q => s.h a o e fun z => q (h a z), s.al, fun a o e => (s.n a o e).imp id (Or.imp id (h a))⟩
/-- a def that changes nothing: what it hands back, what it raises -/
def spF (G : Gx) (f : List D → R D) : Sp := fun vs H Q E => ∃ (M : Hp) (ds : List D), (∀ a o, M a = some o → H a = some o) ∧ Reps G.K M vs ds ∧
  (match f ds with
  | .ok d => ∀ v M' H', (∀ a o, M' a = some o → H' a = some o) → Stp (fun _ => False) M H M' H' → Rep G.K M' v d → Q v H'
  | .ex c pl _ => ∀ cls dd M' H', (∀ a o, M' a = some o → H' a = some o) → Stp (fun _ => False) M H M' H' → Exn G c pl cls dd M' H' → E cls dd H'
  | .no => False)
/-- a def whose first argument is an object that it may change -/
def spIo (G : Gx) (f : D → List D → R (D × D)) : Sp := fun vs H Q E => ∃ (M : Hp) (c : D) (ds : List D) (p : Addr) (o : HO) (ws : List V), vs = .ref p :: ws ∧ M p = none ∧ H p = some o ∧ RepO G.K M o c ∧ (∀ a o, M a = some o → H a = some o) ∧ Reps G.K M ws ds ∧
  (match f c ds with
  | .ok (d, c') => ∀ v M' H' o', (∀ a o, M' a = some o → H' a = some o) → Stp (fun a => a = p) M H M' H' → M' p = none → H' p = some o' → RepO G.K M' o' c' → Rep G.K M' v d → Q v H'
  | _ => False)
section
variable {G : Gx} {X : Cx} {W : WX}
theorem Ok.after {O : Addr → Prop} {M : Hp} {σ : L2.St} {H : Hp} {ρ : List Sl} {M' H' : Hp} (k : Ok G O M σ H ρ) (sub : ∀ a o, M' a = some o → H' a = some o) (s : Stp (fun _ => False) M H M' H') : Ok G O M' σ H' ρ := by
  refine k.grow sub s.m (fun a o e _ => s.h a o e id) fun a q => ?_
  cases e : M' a with
  | none => rfl
  | some o =>
    exfalso
    rcases s.n a o e with h | h | h
    · rw [k.ow0 a q] at h; cases h
    · exact k.notO h q
    · exact h
theorem im_call {f : List D → R D} {ta : TA} {fa : Av} (ha : ImpA G W ta fa) : ImpE G W (tCallS (spF G f) (WE W) ta) (xCall f fa) := by
  intro O M σ H ρ Q ok h
  show ta σ H fun vs H1 => spF G f vs H1 Q (WE W σ)
  refine ha.bind ok h fun vs ds ρ1 M1 H1 ok1 s1 r1 h1 => ?_
  refine ⟨M1, ds, ok1.sub, r1, ?_⟩
  cases e : f ds with
  | ok d =>
    rw [e] at h1
    exact fun v M' H' sub s r => h1 v M' H' (ok1.after sub s) (s.mono fun _ z => z.elim) r
  | ex c pl ρ' =>
    rw [e] at h1
    exact fun cls dd M' H' sub s r => h1 cls dd M' H' (ok1.after sub s) (s.mono fun _ z => z.elim) r
  | no => rw [e] at h1; exact h1
theorem set_get {α : Type} {l : List α} {i j : Nat} {x : α} (h : i < l.length) : (l.set i x)[j]? = if i = j then some x else l[j]? := by
  rw [List.getElem?_set]
  by_cases e : i = j
  · subst e; simp [h]
  · simp [e]
theorem im_callIo {f : D → List D → R (D × D)} {ta : TA} {fa : Av} (i : Nat) (ha : ImpA G W ta fa) : ImpE G W (tCallS (spIo G f) (WE W) (tCons (tVar i) ta)) (xCallIo f i fa) := by
  intro O M σ H ρ Q ok h
  unfold xCallIo at h
  split at h
  · rename_i c0 e0
    obtain ⟨p, o, e1, _, _, _⟩ := ok.own i c0 e0
    refine ⟨_, e1, ?_⟩
    show ta σ H fun vs H1 => spIo G f (.ref p :: vs) H1 Q (WE W σ)
    refine ha.bind ok h fun vs ds ρ1 M1 H1 ok1 s1 r1 h1 => ?_
    split at h1
    · rename_i c e2
      obtain ⟨p', o', e3, hO, e4, r4⟩ := ok1.own i c e2
      rw [e1] at e3; cases e3
      refine ⟨M1, c, ds, p, o', vs, rfl, ok1.ow0 p hO, e4, r4, ok1.sub, r1, ?_⟩
      cases e : f c ds with
      | ok z =>
        obtain ⟨d, c'⟩ := z
        rw [e] at h1
        intro v M' H' o2 sub s hm hp ro r
        have hil : i < ρ1.length := (List.getElem?_eq_some_iff.mp e2).1
        refine h1 v M' H' ⟨sub, fun a q => ?_, fun a q => ?_, by simpa using ok1.len, fun j d' ej => ?_, fun j d' ej => ?_, fun j j' d' d'' a ej ej' ea ea' => ?_, fun d' a ej ea => ?_⟩ (s.mono fun a z => by rw [z]; exact hO) r
        · by_cases hap : a = p
          · rw [hap]; exact hm
          · cases e' : M' a with
            | none => rfl
            | some u =>
              exfalso
              rcases s.n a u e' with h | h | h
              · rw [ok1.ow0 a q] at h; cases h
              · exact ok1.notO h q
              · exact hap h
        · obtain ⟨u, hu⟩ := ok1.oal a q
          exact s.al a u hu
        · rw [set_get hil] at ej
          split at ej
          · cases ej
          · obtain ⟨v, a, b⟩ := ok1.fro j d' ej
            exact ⟨v, a, b.mono s.m⟩
        · rw [set_get hil] at ej
          split at ej
          · rename_i hij
            cases ej
            subst hij
            exact ⟨p, o2, e1, hO, hp, ro⟩
          · rename_i hij
            obtain ⟨p2, o3, a, b, c3, r3⟩ := ok1.own j d' ej
            refine ⟨p2, o3, a, b, s.h p2 o3 c3 fun z => hij ?_, r3.mono s.m⟩
            rw [z] at a
            exact ok1.dis i j c d' p e2 ej e1 a
        · have g : ∀ (j : Nat) (d' : D), (ρ1.set i (Sl.own c'))[j]? = some (Sl.own d') → ∃ d2, ρ1[j]? = some (Sl.own d2) := fun j d' ej => by
            rw [set_get hil] at ej
            split at ej
            · rename_i hij
              subst hij
              exact ⟨c, e2⟩
            · exact ⟨d', ej⟩
          obtain ⟨x1, g1⟩ := g j d' ej
          obtain ⟨x2, g2⟩ := g j' d'' ej'
          exact ok1.dis j j' x1 x2 a g1 g2 ea ea'
        · rw [set_get hil] at ej
          split at ej
          · rename_i hij
            rw [← hij] at ea
            rw [e1] at ea
            cases ea
            rw [hij] at e1 e2
            exact ok1.bz c p e2 e1
          · exact ok1.bz d' a ej ea
      | ex c2 pl ρ' => rw [e] at h1; exact h1
      | no => rw [e] at h1; exact h1
    · exact h1.elim
  · exact h.elim
section
variable {f : Addr} {fd : FuncData} {ps : List Str} {k : Nat} {x : Str} {p pos : Pos} {e : Expr} {es : List Expr} {t : TA} {fa : Av} {F : List D → R D} {Fi : D → List D → R (D × D)}
/-- f(e, ..) -/
theorem se_call (FO : FnOk X.prog X.w X.K X.mg X.base (L2.CX X.prog X.w) k f fd ps (spF G F)) (hr : Room k X.A) (hm : X.mg x = some (.ref f)) (hk : PySem.W.keepIn X.K (.ref f) = true) (hb : Binds X.K fd ps []) (tk : Takes X W) (ha : SA G X W (e :: es) t fa) (hg : Gl X x := by rfl)
    (hdb : (x == ("__debug__" : Str)) = false := by decide) (he : starEach (e :: es) X.env = (false, eval e X.env) :: starEach es X.env := by rfl) (hpl : (backTo pos (starEach es X.env)).any (·.1) = false := by rfl) :
    SE G X W (.Call (.Name x p) (e :: es) [] pos) (tCallS (spF G F) (WE W) t) (xCall F fa) := ⟨ha.k, pe_callS FO hr hg hm hk hb (fun σ => passAt tk σ) ha.pa hdb he hpl, im_call ha.im⟩
/-- f(s, e, ..), s an owned slot -/
theorem se_callIo {y : Str} {py : Pos} (i : Nat) (FO : FnOk X.prog X.w X.K X.mg X.base (L2.CX X.prog X.w) k f fd ps (spIo G Fi)) (hr : Room k X.A) (hm : X.mg x = some (.ref f)) (hk : PySem.W.keepIn X.K (.ref f) = true) (hb : Binds X.K fd ps []) (tk : Takes X W)
    (ha : SA G X W es t fa) (hg : Gl X x := by rfl) (hN : X.N[i]? = some y := by rfl) (hv : Vis X.env.scope y := by first | exact Or.inl rfl | exact Or.inr (Or.inl rfl) | exact Or.inr (Or.inr rfl))
    (hd : (y == ("__debug__" : Str)) = false := by decide) (hcd : (y == ("__classdict__" : Str)) = false := by decide)
    (hdb : (x == ("__debug__" : Str)) = false := by decide) (he : starEach (.Name y py :: es) X.env = (false, eval (.Name y py) X.env) :: starEach es X.env := by rfl) (hpl : (backTo pos (starEach es X.env)).any (·.1) = false := by rfl) :
    SE G X W (.Call (.Name x p) (.Name y py :: es) [] pos) (tCallS (spIo G Fi) (WE W) (tCons (tVar i) t)) (xCallIo Fi i fa) :=
  ⟨ha.k, pe_callS FO hr hg hm hk hb (fun σ => passAt tk σ) (pa_cons (pe_var hN hv hd hcd) ha.pa he) hdb he hpl, im_callIo i ha.im⟩
/-- a call of no argument -/
theorem se_call0 (FO : FnOk X.prog X.w X.K X.mg X.base (L2.CX X.prog X.w) k f fd ps (spF G F)) (hr : Room k X.A) (hm : X.mg x = some (.ref f)) (hk : PySem.W.keepIn X.K (.ref f) = true) (hb : Binds X.K fd ps []) (tk : Takes X W) (kk : X.K = G.K := by rfl) (hg : Gl X x := by rfl)
    (hdb : (x == ("__debug__" : Str)) = false := by decide) : SE G X W (.Call (.Name x p) [] [] pos) (tCallS (spF G F) (WE W) tNil) (xCall F xNil) := by
  refine ⟨kk, ⟨fun pins s σ H Q I h => ?_⟩, im_call (fun O M σ H ρ Q ok hp => hp _ M H ok Stp.refl .nil)⟩
  refine wpAny_Call_Name_kw (ld_glob I hg hm ?_ hdb)
  exact PySem.W.callWith_K0 I.kIn hk (run_fnS (us := []) FO hr hb (passAt tk σ) I .nil h)
end
end
end Sm
namespace Sm
open PySem PySem.Spec PyProof.Rows L2
open RZ (ItzT iZipA pi_zipA)

/-! ## 11. targets -/
def ImG (G : Gx) (vs : List Nat) (g : TG) (f : D → List Sl → Option (List Sl)) : Prop :=
  ∀ O M σ H ρ v d ρ' (Q : L2.St → Hp → Prop), Ok G O M σ H ρ → Rep G.K M v d → f d ρ = some ρ' → (∀ σ', Ok G O M σ' H ρ' → wipe σ' vs = wipe σ vs → Q σ' H) → g v σ H Q
structure SG (G : Gx) (X : Cx) (vs : List Nat) (tg : Expr) (g : TG) (f : D → List Sl → Option (List Sl)) : Prop where
  k : X.K = G.K
  pg : PG X tg g
  im : ImG G vs g f
def ImGs (G : Gx) (vs : List Nat) (g : TGs) (f : List D → List Sl → Option (List Sl)) : Prop :=
  ∀ O M σ H ρ ws ds ρ' (Q : L2.St → Hp → Prop), Ok G O M σ H ρ → Reps G.K M ws ds → f ds ρ = some ρ' → (∀ σ', Ok G O M σ' H ρ' → wipe σ' vs = wipe σ vs → Q σ' H) → g ws σ H Q
structure SGs (G : Gx) (X : Cx) (vs : List Nat) (tg : List Expr) (g : TGs) (f : List D → List Sl → Option (List Sl)) : Prop where
  pg : PGs X tg g
  im : ImGs G vs g f
theorem wipe_set {σ : L2.St} {i : Nat} {x : Option V} : ∀ {vs : List Nat}, i ∈ vs → wipe (σ.set i x) vs = wipe σ vs
  | [], h => by simp at h
  | v :: vs, h => by
    have comm : ∀ (vs : List Nat), v ≠ i → (wipe (σ.set i x) vs).set v none = (wipe (σ.set i x) vs).set v none := fun _ _ => rfl
    unfold wipe
    by_cases hi : i ∈ vs
    · rw [wipe_set hi]
    · have hv : i = v := by
        rcases List.mem_cons.mp h with h | h
        · exact h
        · exact absurd h hi
      subst hv
      have key : ∀ (vs : List Nat) (σ : L2.St), (wipe (σ.set i x) vs).set i none = (wipe σ vs).set i none := by
        intro vs
        induction vs with
        | nil => intro σ; simp [wipe]
        | cons w vs ih =>
          intro σ
          unfold wipe
          by_cases hw : w = i
          · subst hw; simp [ih]
          · rw [List.set_comm _ _ hw, List.set_comm _ _ hw, ih]
      exact key vs σ
/-- a frozen value in a slot -/
theorem Ok.set {G : Gx} {O : Addr → Prop} {M : Hp} {σ : L2.St} {H : Hp} {ρ : List Sl} {i : Nat} {v : V} {d : D} (k : Ok G O M σ H ρ) (hi : i < ρ.length) (r : Rep G.K M v d) : Ok G O M (σ.set i (some v)) H (ρ.set i (.fro d)) := by
  have hi' : i < σ.length := by rw [k.len]; exact hi
  refine ⟨k.sub, k.ow0, k.oal, by simp [k.len], fun j e h => ?_, fun j e h => ?_, fun j j' e e' p h h' hp hp' => ?_, fun e p h hp => ?_⟩
  · rw [set_get hi] at h
    rw [set_get hi']
    split at h
    · rename_i hij; cases h; rw [if_pos hij]; exact ⟨v, rfl, r⟩
    · rename_i hij; rw [if_neg hij]; exact k.fro j e h
  · rw [set_get hi] at h
    rw [set_get hi']
    split at h
    · cases h
    · rename_i hij; rw [if_neg hij]; exact k.own j e h
  · rw [set_get hi] at h h'
    rw [set_get hi'] at hp hp'
    split at h
    · cases h
    · split at h'
      · cases h'
      · rename_i h1 h2
        rw [if_neg h1] at hp
        rw [if_neg h2] at hp'
        exact k.dis j j' e e' p h h' hp hp'
  · rw [set_get hi] at h
    rw [set_get hi'] at hp
    split at h
    · cases h
    · rename_i h1
      rw [if_neg h1] at hp
      exact k.bz e p h hp
def gtN (i : Nat) : D → List Sl → Option (List Sl) := fun d ρ => if Nat.blt i ρ.length then some (ρ.set i (.fro d)) else none
def gtT (n : Nat) (f : List D → List Sl → Option (List Sl)) : D → List Sl → Option (List Sl) := fun d ρ => match d with
  | .tup l => if Nat.beq l.length n then f l ρ else none
  | _ => none
def gsN : List D → List Sl → Option (List Sl) := fun l ρ => match l with
  | [] => some ρ
  | _ => none
def gsC (f : D → List Sl → Option (List Sl)) (g : List D → List Sl → Option (List Sl)) : List D → List Sl → Option (List Sl) := fun l ρ => match l with
  | [] => none
  | d :: l => (f d ρ).bind fun ρ1 => g l ρ1
section
variable {G : Gx} {X : Cx} {vs : List Nat} {pos : Pos}
theorem im_gName (i : Nat) (hi : i ∈ vs) : ImG G vs (gName i) (gtN i) := by
  intro O M σ H ρ v d ρ' Q k r e q
  unfold gtN at e
  split at e
  · rename_i hl
    cases e
    exact q _ (k.set (Nat.blt_eq.mp hl) r) (wipe_set hi)
  · cases e
theorem sg_name {x : Str} (i : Nat) (hi : i ∈ vs) (hN : X.N.Nodup) (k : X.K = G.K := by rfl) (hx : X.N[i]? = some x := by rfl) (hl : Loc X.env.scope x := by first | exact Or.inl rfl | exact Or.inr rfl)
    (hf : X.fn x = true ∨ X.env.scope.names.lookup x = some .local := by first | exact .inl rfl | exact .inr rfl) : SG G X vs (.Name x pos) (gName i) (gtN i) := ⟨k, pg_name hN hx hl hf, im_gName i hi⟩
theorem sgs_nil : SGs G X vs [] gNil gsN := by
  refine ⟨pgs_nil, fun O M σ H ρ ws ds ρ' Q k r e q => ?_⟩
  cases ds with
  | nil =>
    cases e
    exact ⟨List.length_eq_zero_iff.mp r.1, q σ k rfl⟩
  | cons d ds => cases e
theorem sgs_cons {e : Expr} {es : List Expr} {t : TG} {u : TGs} {f : D → List Sl → Option (List Sl)} {g : List D → List Sl → Option (List Sl)} (h : SG G X vs e t f) (hr : SGs G X vs es u g)
    (hs : (assignEach (e :: es) X.env).map (·.2) = assign e X.env :: (assignEach es X.env).map (·.2) := by rfl) : SGs G X vs (e :: es) (gCons t u) (gsC f g) := by
  refine ⟨pgs_cons h.pg hr.pg hs, fun O M σ H ρ ws ds ρ' Q k r e q => ?_⟩
  cases ds with
  | nil => cases e
  | cons d ds =>
    cases ws with
    | nil => have := r.1; simp at this
    | cons w ws =>
      obtain ⟨r1, r2⟩ := Reps.tail r
      simp only [gsC] at e
      cases e1 : f d ρ with
      | none => rw [e1] at e; cases e
      | some ρ1 =>
        rw [e1] at e
        refine ⟨w, ws, rfl, h.im O M σ H ρ w d ρ1 _ k r1 e1 fun σ1 k1 w1 => ?_⟩
        exact hr.im O M σ1 H ρ1 ws ds ρ' Q k1 r2 e fun σ2 k2 w2 => q σ2 k2 (w2.trans w1)
theorem sg_tup {es : List Expr} {kk : Nat} {t : TGs} {n : Nat} {f : List D → List Sl → Option (List Sl)} (h : SGs G X vs es t f) (k : X.K = G.K := by rfl) (hc : X.calm = true := by rfl)
    (hn : (assignEach es X.env).length = n := by rfl) (hst : (assignEach es X.env).findIdx? (·.1) = none := by rfl) : SG G X vs (.Tuple es kk pos) (gTup G.K n t) (gtT n f) := by
  have pg := pg_tup (k := kk) (pos := pos) hc h.pg hn hst
  rw [k] at pg
  refine ⟨k, pg, fun O M σ H ρ v d ρ' Q kk r e q => ?_⟩
  cases r with
  | @tup a ws ds e1 l r =>
    simp only [gtT] at e
    split at e
    · rename_i hl
      exact ⟨a, ws, rfl, SqT.of (kk.sub _ _ e1), by rw [l]; exact Nat.eq_of_beq_eq_true hl, h.im O M σ H ρ ws ds ρ' Q kk ⟨l, r⟩ e q⟩
    · cases e
  | _ => simp [gtT] at e
end

/-! ## 12. what a loop walks -/
structure RI (G : Gx) (M H : Hp) (J : It) (ds : List D) : Prop where
  go : ∀ (i : Nat) M' H', i < ds.length → Same M M' → (∀ a o, M' a = some o → H' a = some o) → J.go i H'
  stop : ∀ M' H', Same M M' → (∀ a o, M' a = some o → H' a = some o) → J.stop ds.length H'
  yld : ∀ (i : Nat) d M' H' x H'', ds[i]? = some d → Same M M' → (∀ a o, M' a = some o → H' a = some o) → J.yld i H' x H'' →
    (H'' = H' ∧ Rep G.K M' x d) ∨ ∃ T ws es, x = .ref T ∧ H' T = none ∧ H'' = upd H' T (.tup ws) ∧ d = .tup es ∧ Reps G.K M' ws es
abbrev Iv := List Sl → R (List D × List Sl)
structure SI (G : Gx) (X : Cx) (W : WX) (tg it : Expr) (t : TI) (f : Iv) : Prop where
  k : X.K = G.K
  pi : PI X tg it t
  im : Imp G (RI G) W t f
theorem RI.of_walk {G : Gx} {M H : Hp} {J : It} {ds : List D} {P : Hp → Prop} {Y : Nat → Hp → V → Hp → Prop} (w : Walk J ds.length P Y) (hp : ∀ M' H', Same M M' → (∀ a o, M' a = some o → H' a = some o) → P H')
    (hy : ∀ (i : Nat) d M' H' x H'', ds[i]? = some d → Same M M' → Y i H' x H'' → (H'' = H' ∧ Rep G.K M' x d) ∨ ∃ T ws es, x = .ref T ∧ H' T = none ∧ H'' = upd H' T (.tup ws) ∧ d = .tup es ∧ Reps G.K M' ws es) : RI G M H J ds :=
  ⟨fun i M' H' hi s b => w.goes i H' hi (hp M' H' s b), fun M' H' s b => w.stops H' (hp M' H' s b), fun i d M' H' x H'' e s b y => hy i d M' H' x H'' e s (w.yields i H' x H'' (List.getElem?_eq_some_iff.mp e).1 (hp M' H' s b) y)⟩
def iOf : D → Option (List D)
  | .lst l => some l
  | .tup l => some l
  | _ => none
def xIt (a : Ev) : Iv := fun ρ => (a ρ).bnd fun x ρ1 => match iOf x with
  | some l => .ok (l, ρ1)
  | none => .no
def iSeq (K : PySem.W.Frag) (tl : TE) : TI := fun σ H R => tl σ H fun x H1 => ∃ a, x = .ref a ∧ (((∃ xs, SqL K H1 a xs) ∧ R (Itl K a) H1) ∨ ((∃ xs, SqT K H1 a xs) ∧ R (Itt K a) H1))
section
variable {G : Gx} {X : Cx} {W : WX} {a b c : Expr} {ta tb tc : TE} {fa fb fc : Ev} {pos : Pos} {tg : Expr}
theorem pi_seq (h : PE X a ta) : PI X tg a (iSeq X.K ta) := by
  constructor
  intro pins s σ H R J hw
  refine thn (h.run pins s σ H _ J hw) ?_
  rintro v s1 ⟨x, H1, J1, r1, q1⟩
  obtain ⟨p, rfl, ⟨⟨xs, hs⟩, q⟩ | ⟨⟨xs, hs⟩, q⟩⟩ := q1
  · cases r1
    obtain ⟨its, rv, hp, hz⟩ := J1.list hs
    refine wpAny_pyIter_list hp.isList ⟨s1.heap.objs.size, [s1.heap.objs.size], _, _, H1, rfl, ?_, turn_list p _, ?_, ?_, q⟩
    · exact J1.kept (t' := s1.toks) fun _ _ => Heap.get?_push_of_some _
    · exact ⟨_, Heap.get?_push_size _ rfl, rfl, rfl⟩
    · intro y hy
      rw [List.mem_singleton.mp hy]
      exact J1.fpOk (Nat.le_refl _) (J1.hok.fresh (Nat.le_refl _))
  · cases r1
    obtain ⟨its, rv, hp, hz⟩ := J1.tuple hs
    refine wpAny_pyIter_tuple (show s1.heap.IsTuple p its.toArray from hp) ⟨s1.heap.objs.size, [s1.heap.objs.size], _, _, H1, rfl, ?_, turn_tuple p _, ?_, ?_, q⟩
    · exact J1.kept (t' := s1.toks) fun _ _ => Heap.get?_push_of_some _
    · exact ⟨_, Heap.get?_push_size _ rfl, rfl, rfl⟩
    · intro y hy
      rw [List.mem_singleton.mp hy]
      exact J1.fpOk (Nat.le_refl _) (J1.hok.fresh (Nat.le_refl _))
theorem si_seq (ha : SE G X W a ta fa) : SI G X W tg a (iSeq G.K ta) (xIt fa) := by
  have h := pi_seq (tg := tg) ha.pe
  rw [ha.k] at h
  refine ⟨ha.k, h, fun O M σ H ρ Q ok hp => ?_⟩
  refine ha.im.bind ok hp fun x dx ρ1 M1 H1 ok1 s1 r1 h1 => ?_
  cases r1 with
  | @lst p ws ds e l r =>
    refine ⟨p, rfl, .inl ⟨⟨ws, SqL.of (ok1.sub _ _ e)⟩, h1 _ M1 H1 ok1 Stp.refl ?_⟩⟩
    refine RI.of_walk (by rw [← l]; exact walk_list) (fun M' H' s b => SqL.of (b _ _ (s _ _ e))) fun i d M' H' x H'' ed s y => ?_
    obtain ⟨rfl, y⟩ := y
    exact .inl ⟨rfl, (r i x d y ed).mono s⟩
  | @tup p ws ds e l r =>
    refine ⟨p, rfl, .inr ⟨⟨ws, SqT.of (ok1.sub _ _ e)⟩, h1 _ M1 H1 ok1 Stp.refl ?_⟩⟩
    refine RI.of_walk (by rw [← l]; exact walk_tup) (fun M' H' s b => SqT.of (b _ _ (s _ _ e))) fun i d M' H' x H'' ed s y => ?_
    obtain ⟨rfl, y⟩ := y
    exact .inl ⟨rfl, (r i x d y ed).mono s⟩
  | _ => exact h1.elim
/-- range -/
def rangeD (lo : Int) : Nat → List D
  | 0 => []
  | n + 1 => .int lo :: rangeD (lo + 1) n
theorem rangeD_len : ∀ (n : Nat) (lo : Int), (rangeD lo n).length = n
  | 0, _ => rfl
  | n + 1, lo => by simp [rangeD, rangeD_len n (lo + 1)]
theorem rangeD_get : ∀ (n : Nat) (lo : Int) (i : Nat) (d : D), (rangeD lo n)[i]? = some d → d = .int (lo + i)
  | 0, _, _, _, h => by simp [rangeD] at h
  | n + 1, lo, 0, d, h => by simp [rangeD] at h; simp [h]
  | n + 1, lo, i + 1, d, h => by
    simp only [rangeD, List.getElem?_cons_succ] at h
    rw [rangeD_get n (lo + 1) i d h]
    congr 1
    omega
def inR (i : Int) : Bool := Nat.ble i.natAbs 1000000000000000000
theorem inR_ok {i : Int} (h : inR i = true) : -(2 ^ 62) ≤ i ∧ i < 2 ^ 62 := by
  have := Nat.le_of_ble_eq_true h
  omega
def xRng1 (a : Ev) : Iv := fun ρ => (a ρ).bnd fun x ρ1 => match x with
  | .int n => if inR n then .ok (rangeD 0 n.toNat, ρ1) else .no
  | _ => .no
def xRng2 (a b : Ev) : Iv := fun ρ => (a ρ).bnd fun x ρ1 => (b ρ1).bnd fun y ρ2 => match x, y with
  | .int i, .int j => if inR i && inR j then .ok (rangeD i (j - i).toNat, ρ2) else .no
  | _, _ => .no
theorem ri_range {M H : Hp} {lo : Int} {n : Nat} : RI G M H (Itr lo n) (rangeD lo n) := by
  refine RI.of_walk (P := fun _ => True) (by rw [rangeD_len]; exact walk_range) (fun _ _ _ _ => trivial) fun i d M' H' x H'' ed s y => ?_
  obtain ⟨rfl, rfl⟩ := y
  rw [rangeD_get n lo i d ed]
  exact .inl ⟨rfl, .int _⟩
theorem si_rng1 {p : Pos} (ha : SE G X W a ta fa) (hm : X.mg "range" = none) (hg : Gl X "range" := by rfl) (hs : starEach [a] X.env = (false, eval a X.env) :: starEach [] X.env := by rfl) :
    SI G X W tg (.Call (.Name "range" p) [a] [] pos) (iRng1 (tCons ta tNil)) (xRng1 fa) := by
  refine ⟨ha.k, pi_range1 hg hm (pa_cons ha.pe pa_nil hs) hs, fun O M σ H ρ Q ok hp => ?_⟩
  refine ha.im.bind ok hp fun x dx ρ1 M1 H1 ok1 s1 r1 h1 => ?_
  cases r1 with
  | int n =>
    simp only at h1
    split at h1
    · rename_i z
      exact ⟨n, rfl, (inR_ok z).1, (inR_ok z).2, h1 _ M1 H1 ok1 Stp.refl ri_range⟩
    · exact h1.elim
  | _ => exact h1.elim
theorem si_rng2 {p : Pos} (ha : SE G X W a ta fa) (hb : SE G X W b tb fb) (hm : X.mg "range" = none) (hg : Gl X "range" := by rfl) (hs : starEach [a, b] X.env = [(false, eval a X.env), (false, eval b X.env)] := by rfl)
    (hs2 : starEach [b] X.env = [(false, eval b X.env)] := by rfl) : SI G X W tg (.Call (.Name "range" p) [a, b] [] pos) (iRng2 (tCons ta (tCons tb tNil))) (xRng2 fa fb) := by
  refine ⟨ha.k, pi_range2 hg hm (pa_cons ha.pe (pa_cons hb.pe pa_nil hs2) (by rw [hs, hs2])) hs hs2, fun O M σ H ρ Q ok hp => ?_⟩
  refine ha.im.bind ok hp fun x dx ρ1 M1 H1 ok1 s1 r1 h1 => ?_
  refine hb.im.bind ok1 h1 fun y dy ρ2 M2 H2 ok2 s2 r2 h2 => ?_
  cases r1 with
  | int i =>
    cases r2 with
    | int j =>
      simp only at h2
      split at h2
      · rename_i z
        rw [Bool.and_eq_true] at z
        exact ⟨i, j, rfl, ⟨(inR_ok z.1).1, (inR_ok z.1).2, (inR_ok z.2).1, (inR_ok z.2).2⟩, h2 _ M2 H2 ok2 Stp.refl ri_range⟩
      · exact h2.elim
    | _ => exact h2.elim
  | _ => cases r2 <;> exact h2.elim
/-- zip of two lists, of two tuples -/
def zipD : List D → List D → List D
  | x :: xs, y :: ys => .tup [x, y] :: zipD xs ys
  | _, _ => []
theorem zipD_len : ∀ xs ys : List D, (zipD xs ys).length = min xs.length ys.length
  | [], ys => by simp [zipD]
  | x :: xs, [] => by simp [zipD]
  | x :: xs, y :: ys => by simp [zipD, zipD_len xs ys]
theorem zipD_get : ∀ (xs ys : List D) (i : Nat) (d : D), (zipD xs ys)[i]? = some d → ∃ x y, xs[i]? = some x ∧ ys[i]? = some y ∧ d = .tup [x, y]
  | [], ys, i, d, h => by simp [zipD] at h
  | x :: xs, [], i, d, h => by simp [zipD] at h
  | x :: xs, y :: ys, 0, d, h => by simp [zipD] at h; exact ⟨x, y, rfl, rfl, h.symm⟩
  | x :: xs, y :: ys, i + 1, d, h => by
    simp only [zipD, List.getElem?_cons_succ] at h ⊢
    exact zipD_get xs ys i d h
def xZip (a b : Ev) : Iv := fun ρ => (a ρ).bnd fun x ρ1 => (b ρ1).bnd fun y ρ2 => match x, y with
  | .lst l, .lst k => .ok (zipD l k, ρ2)
  | .tup l, .tup k => .ok (zipD l k, ρ2)
  | _, _ => .no
theorem walk_zipT {K : PySem.W.Frag} {a b : Addr} {xs ys : List V} {n : Nat} (hn : n = min xs.length ys.length) : Walk (ItzT K a b) n (fun H => SqT K H a xs ∧ SqT K H b ys) (YPair (fun i => xs[i]?) (fun i => ys[i]?)) := by
  subst hn
  refine ⟨fun i _ hi q => ?_, fun _ q => ⟨xs, ys, q.1, q.2, by omega⟩, fun i H v H' _ q y => ?_⟩
  · exact ⟨xs, ys, xs[i]'(by omega), ys[i]'(by omega), q.1, q.2, by simp [show i < xs.length by omega], by simp [show i < ys.length by omega]⟩
  · obtain ⟨T, x, z, h1, h2, h3, h4, h5⟩ := y
    exact ⟨T, x, z, h1, h2, h3, h4 xs q.1, h5 ys q.2⟩
theorem ri_pair {M H : Hp} {J : It} {ws zs : List V} {xs ys : List D} {P : Hp → Prop} (r : Reps G.K M ws xs) (r2 : Reps G.K M zs ys) (w : Walk J (min ws.length zs.length) P (YPair (fun i => ws[i]?) (fun i => zs[i]?)))
    (hp : ∀ M' H', Same M M' → (∀ a o, M' a = some o → H' a = some o) → P H') : RI G M H J (zipD xs ys) := by
  refine RI.of_walk (by rw [zipD_len, ← r.1, ← r2.1]; exact w) hp fun i d M' H' x H'' ed s y => ?_
  obtain ⟨T, u, v, rfl, hT, rfl, e1, e2⟩ := y
  obtain ⟨dx, dy, g1, g2, rfl⟩ := zipD_get xs ys i d ed
  exact .inr ⟨T, [u, v], [dx, dy], rfl, hT, rfl, rfl, .cons ((r.2 i u dx e1 g1).mono s) (.cons ((r2.2 i v dy e2 g2).mono s) .nil)⟩
theorem si_zip {p tpos : Pos} {elts : List Expr} {kk : Nat} (ha : SE G X W a ta fa) (hb : SE G X W b tb fb) (hm : X.mg "zip" = none) (hg : Gl X "zip" := by rfl) (hs : starEach [a, b] X.env = (false, eval a X.env) :: starEach [b] X.env := by rfl)
    (hs2 : starEach [b] X.env = (false, eval b X.env) :: starEach [] X.env := by rfl) : SI G X W (.Tuple elts kk tpos) (.Call (.Name "zip" p) [a, b] [] pos) (iZipA G.K (tCons ta (tCons tb tNil))) (xZip fa fb) := by
  have h := pi_zipA (elts := elts) (kk := kk) (tpos := tpos) (p := p) (pos := pos) hg hm (pa_cons ha.pe (pa_cons hb.pe pa_nil hs2) hs) hs (by rw [hs2]; rfl)
  rw [ha.k] at h
  refine ⟨ha.k, h, fun O M σ H ρ Q ok hp => ?_⟩
  refine ha.im.bind ok hp fun x dx ρ1 M1 H1 ok1 s1 r1 h1 => ?_
  refine hb.im.bind ok1 h1 fun y dy ρ2 M2 H2 ok2 s2 r2 h2 => ?_
  have r1' : Rep G.K M2 x dx := r1.mono s2.m
  cases r1' with
  | @lst p1 ws ds e l r =>
    cases r2 with
    | @lst p2 zs es e2 l2 r2 =>
      refine ⟨p1, p2, ws, zs, rfl, .inl ⟨SqL.of (ok2.sub _ _ e), SqL.of (ok2.sub _ _ e2), h2 _ M2 H2 ok2 Stp.refl ?_⟩⟩
      exact ri_pair ⟨l, r⟩ ⟨l2, r2⟩ (walk_zip rfl) fun M' H' s b => ⟨SqL.of (b _ _ (s _ _ e)), SqL.of (b _ _ (s _ _ e2))⟩
    | _ => exact h2.elim
  | @tup p1 ws ds e l r =>
    cases r2 with
    | @tup p2 zs es e2 l2 r2 =>
      refine ⟨p1, p2, ws, zs, rfl, .inr ⟨SqT.of (ok2.sub _ _ e), SqT.of (ok2.sub _ _ e2), h2 _ M2 H2 ok2 Stp.refl ?_⟩⟩
      exact ri_pair ⟨l, r⟩ ⟨l2, r2⟩ (walk_zipT rfl) fun M' H' s b => ⟨SqT.of (b _ _ (s _ _ e)), SqT.of (b _ _ (s _ _ e2))⟩
    | _ => exact h2.elim
  | _ => cases r2 <;> exact h2.elim
end
end Sm
namespace Sm
open PySem PySem.Spec PyProof.Rows L2

/-! ## 13. list comprehensions -/
/-- the slots of the block's own names forgotten -/
def wipeR (ρ : List Sl) : List Nat → List Sl
  | [] => ρ
  | v :: vs => (wipeR ρ vs).set v .no
/-- behind the block: its own names as they were ahead of it -/
def backR (ρ0 ρ : List Sl) : List Nat → List Sl
  | [] => ρ
  | v :: vs => match ρ0[v]? with
    | some s => (backR ρ0 ρ vs).set v s
    | none => backR ρ0 ρ vs
/-- none of them is owned -/
def noOwn (ρ : List Sl) : List Nat → Bool
  | [] => true
  | v :: vs => (match ρ[v]? with | some (.own _) => false | _ => true) && noOwn ρ vs
def lcGo (g : D → List Sl → Option (List Sl)) (tt : Tv) (te : Ev) (vs : List Nat) : List D → List Sl → R (List D × List Sl)
  | [], ρ => .ok ([], ρ)
  | d :: ds, ρ => match g d (wipeR ρ vs) with
    | none => .no
    | some ρ1 => (tt ρ1).bnd fun b ρ2 => if b = true then (te ρ2).bnd fun y ρ3 => (lcGo g tt te vs ds ρ3).bnd fun ys ρ4 => .ok (y :: ys, ρ4) else lcGo g tt te vs ds ρ2
/-- the exceptions of a block are none that is known -/
def R.noEx {α : Type} : R α → R α
  | .ex _ _ _ => .no
  | r => r
def xLc (it : Iv) (g : D → List Sl → Option (List Sl)) (tt : Tv) (te : Ev) (vs : List Nat) : Ev := fun ρ => (it ρ).bnd fun ds ρ1 =>
  if noOwn ρ1 vs then (lcGo g tt te vs ds ρ1).noEx.bnd fun ys ρ2 => if isz ys.length then .ok (.lst ys, backR ρ1 ρ2 vs) else .no else .no
theorem wipeR_len : ∀ (vs : List Nat) (ρ : List Sl), (wipeR ρ vs).length = ρ.length
  | [], _ => rfl
  | v :: vs, ρ => by simp [wipeR, wipeR_len vs ρ]
theorem wipeR_get : ∀ (vs : List Nat) (ρ : List Sl) (i : Nat) (s : Sl), (wipeR ρ vs)[i]? = some s → s = .no ∨ (ρ[i]? = some s ∧ i ∉ vs)
  | [], ρ, i, s, h => .inr ⟨h, by simp⟩
  | v :: vs, ρ, i, s, h => by
    simp only [wipeR] at h
    rw [List.getElem?_set] at h
    split at h
    · split at h
      · cases h; exact .inl rfl
      · cases h
    · rename_i hv
      rcases wipeR_get vs ρ i s h with h | ⟨h, h2⟩
      · exact .inl h
      · exact .inr ⟨h, by simp only [List.mem_cons, not_or]; exact ⟨fun e => hv e.symm, h2⟩⟩
theorem wipe_get : ∀ (vs : List Nat) (σ : L2.St) (i : Nat), i ∉ vs → (wipe σ vs)[i]? = σ[i]?
  | [], _, _, _ => rfl
  | v :: vs, σ, i, h => by
    simp only [List.mem_cons, not_or] at h
    unfold wipe
    rw [List.getElem?_set_ne (fun e => h.1 e.symm), wipe_get vs σ i h.2]
section
variable {G : Gx} {O : Addr → Prop} {M : Hp} {σ : L2.St} {H : Hp} {ρ : List Sl}
theorem Ok.wipe (k : Ok G O M σ H ρ) (vs : List Nat) : Ok G O M (wipe σ vs) H (wipeR ρ vs) := by
  refine ⟨k.sub, k.ow0, k.oal, by rw [wipe_length, wipeR_len]; exact k.len, fun i d h => ?_, fun i d h => ?_, fun i j d e p h h' hp hp' => ?_, fun d p h hp => ?_⟩
  · rcases wipeR_get vs ρ i _ h with h | ⟨h, hi⟩
    · cases h
    · rw [wipe_get vs σ i hi]; exact k.fro i d h
  · rcases wipeR_get vs ρ i _ h with h | ⟨h, hi⟩
    · cases h
    · rw [wipe_get vs σ i hi]; exact k.own i d h
  · rcases wipeR_get vs ρ i _ h with h | ⟨h, hi⟩
    · cases h
    · rcases wipeR_get vs ρ j _ h' with h' | ⟨h', hj⟩
      · cases h'
      · rw [wipe_get vs σ i hi] at hp
        rw [wipe_get vs σ j hj] at hp'
        exact k.dis i j d e p h h' hp hp'
  · rcases wipeR_get vs ρ 0 _ h with h | ⟨h, hi⟩
    · cases h
    · rw [wipe_get vs σ 0 hi] at hp
      exact k.bz d p h hp
/-- slots that know the same but for vs: a turn's end is a turn's start -/
theorem Ok.rewipe {σ' : L2.St} {vs : List Nat} (k : Ok G O M σ' H ρ) (e : L2.wipe σ' vs = L2.wipe σ vs) : Ok G O M (L2.wipe σ vs) H (wipeR ρ vs) := by
  have := k.wipe vs
  rw [e] at this
  exact this
theorem wipeR_wipeR : ∀ (vs : List Nat) (ρ : List Sl), wipeR (wipeR ρ vs) vs = wipeR ρ vs := by
  have one : ∀ (vs : List Nat) (ρ : List Sl) (v : Nat), wipeR (ρ.set v .no) vs = (wipeR ρ vs).set v .no := by
    intro vs
    induction vs with
    | nil => intro ρ v; rfl
    | cons w vs ih =>
      intro ρ v
      simp only [wipeR, ih]
      by_cases hw : v = w
      · subst hw; simp
      · rw [List.set_comm _ _ hw]
  intro vs
  induction vs with
  | nil => intro ρ; rfl
  | cons v vs ih =>
    intro ρ
    show (wipeR ((wipeR ρ vs).set v .no) vs).set v .no = (wipeR ρ vs).set v .no
    rw [one, ih]
    simp
theorem backR_len : ∀ (vs : List Nat) (ρ0 ρ : List Sl), (backR ρ0 ρ vs).length = ρ.length
  | [], _, _ => rfl
  | v :: vs, ρ0, ρ => by
    simp only [backR]
    split <;> simp [backR_len vs ρ0 ρ]
theorem backR_get : ∀ (vs : List Nat) (ρ0 ρ : List Sl) (i : Nat) (s : Sl), (backR ρ0 ρ vs)[i]? = some s → (i ∈ vs ∧ ρ0[i]? = some s) ∨ (ρ[i]? = some s ∧ (i ∈ vs → ρ0[i]? = none))
  | [], ρ0, ρ, i, s, h => .inr ⟨h, by simp⟩
  | v :: vs, ρ0, ρ, i, s, h => by
    simp only [backR] at h
    split at h
    · rename_i s0 e0
      rw [List.getElem?_set] at h
      split at h
      · rename_i hv
        subst hv
        split at h
        · cases h; exact .inl ⟨by simp, e0⟩
        · cases h
      · rename_i hv
        rcases backR_get vs ρ0 ρ i s h with ⟨h1, h2⟩ | ⟨h1, h2⟩
        · exact .inl ⟨by simp [h1], h2⟩
        · refine .inr ⟨h1, fun hm => ?_⟩
          rcases List.mem_cons.mp hm with hm | hm
          · exact absurd hm.symm hv
          · exact h2 hm
    · rename_i e0
      rcases backR_get vs ρ0 ρ i s h with ⟨h1, h2⟩ | ⟨h1, h2⟩
      · exact .inl ⟨by simp [h1], h2⟩
      · refine .inr ⟨h1, fun hm => ?_⟩
        rcases List.mem_cons.mp hm with hm | hm
        · subst hm; exact e0
        · exact h2 hm
theorem noOwn_get : ∀ {vs : List Nat} {ρ : List Sl} {i : Nat} {d : D}, noOwn ρ vs = true → i ∈ vs → ρ[i]? ≠ some (.own d)
  | [], _, _, _, _, h => by simp at h
  | v :: vs, ρ, i, d, h, hm => by
    simp only [noOwn, Bool.and_eq_true] at h
    rcases List.mem_cons.mp hm with e | e
    · subst e
      intro z
      rw [z] at h
      simp at h
    · exact noOwn_get h.2 e
/-- behind the block -/
theorem Ok.back {ρ0 ρ' : List Sl} {M' H' : Hp} {vs : List Nat} (k0 : Ok G O M σ H ρ0) (n : noOwn ρ0 vs = true) (k : Ok G O M' (L2.wipe σ vs) H' (wipeR ρ' vs)) (hl : ρ'.length = ρ0.length) (s : Stp O M H M' H') : Ok G O M' σ H' (backR ρ0 ρ' vs) := by
  have low : ∀ i s', (backR ρ0 ρ' vs)[i]? = some s' → i ∉ vs → (wipeR ρ' vs)[i]? = some s' := fun i s' h hi => by
    rcases backR_get vs ρ0 ρ' i s' h with ⟨h1, _⟩ | ⟨h1, _⟩
    · exact absurd h1 hi
    · have : ∀ (vs : List Nat) (ρ : List Sl), i ∉ vs → (wipeR ρ vs)[i]? = ρ[i]? := by
        intro vs
        induction vs with
        | nil => intro _ _; rfl
        | cons v vs ih =>
          intro ρ h
          simp only [List.mem_cons, not_or] at h
          simp only [wipeR]
          rw [List.getElem?_set_ne (fun e => h.1 e.symm), ih ρ h.2]
      rw [this vs ρ' hi]; exact h1
  have hin : ∀ i s', (backR ρ0 ρ' vs)[i]? = some s' → i ∈ vs → ρ0[i]? = some s' := fun i s' h hi => by
    rcases backR_get vs ρ0 ρ' i s' h with ⟨_, h2⟩ | ⟨h1, h2⟩
    · exact h2
    · have e := h2 hi
      have e1 := (List.getElem?_eq_some_iff.mp h1).1
      rw [hl] at e1
      exact absurd (List.getElem?_eq_none_iff.mp e) (by omega)
  refine ⟨k.sub, k.ow0, k.oal, by rw [backR_len, hl]; exact k0.len, fun i d h => ?_, fun i d h => ?_, fun i j d e p h h' hp hp' => ?_, fun d p h hp => ?_⟩
  · by_cases hi : i ∈ vs
    · obtain ⟨v, a, b⟩ := k0.fro i d (hin i _ h hi)
      exact ⟨v, a, b.mono s.m⟩
    · obtain ⟨v, a, b⟩ := k.fro i d (low i _ h hi)
      rw [wipe_get vs σ i hi] at a
      exact ⟨v, a, b⟩
  · by_cases hi : i ∈ vs
    · exact absurd (hin i _ h hi) (noOwn_get n hi)
    · obtain ⟨p, o, a, b⟩ := k.own i d (low i _ h hi)
      rw [wipe_get vs σ i hi] at a
      exact ⟨p, o, a, b⟩
  · have hi : i ∉ vs := fun hi => absurd (hin i _ h hi) (noOwn_get n hi)
    have hj : j ∉ vs := fun hj => absurd (hin j _ h' hj) (noOwn_get n hj)
    refine k.dis i j d e p (low i _ h hi) (low j _ h' hj) ?_ ?_
    · rw [wipe_get vs σ i hi]; exact hp
    · rw [wipe_get vs σ j hj]; exact hp'
  · have hi : 0 ∉ vs := fun hi => absurd (hin 0 _ h hi) (noOwn_get n hi)
    exact k.bz d p (low 0 _ h hi) (by rw [wipe_get vs σ 0 hi]; exact hp)
end
theorem wipe_wipe : ∀ (vs : List Nat) (σ : L2.St), wipe (wipe σ vs) vs = wipe σ vs := by
  have one : ∀ (vs : List Nat) (σ : L2.St) (v : Nat), wipe (σ.set v none) vs = (wipe σ vs).set v none := by
    intro vs
    induction vs with
    | nil => intro σ v; rfl
    | cons w vs ih =>
      intro σ v
      unfold wipe
      rw [ih]
      by_cases hw : v = w
      · subst hw; rfl
      · rw [List.set_comm _ _ hw]
  intro vs
  induction vs with
  | nil => intro σ; rfl
  | cons v vs ih =>
    intro σ
    show (wipe ((wipe σ vs).set v none) vs).set v none = (wipe σ vs).set v none
    rw [one, ih]
    simp
/-- an object that is nobody's is written -/
theorem Ok.put {G : Gx} {O : Addr → Prop} {M : Hp} {σ : L2.St} {H : Hp} {ρ : List Sl} {p : Addr} {o u : HO} (k : Ok G O M σ H ρ) (h : H p = some u) (hO : ¬ O p) (hm : M p = none) : Ok G O M σ (upd H p o) ρ := by
  refine k.grow (fun a w e => ?_) (Same.refl _) (fun a w e q => ?_) k.ow0
  · rw [upd_ne (ne_of_none e hm)]; exact k.sub a w e
  · rw [upd_ne (show a ≠ p from fun z => hO (by rw [← z]; exact q))]; exact e
theorem Stp.put {O : Addr → Prop} {M H M' H' : Hp} {p : Addr} {o : HO} (s : Stp O M H M' H') (h : H p = none) : Stp O M H M' (upd H' p o) := by
  refine ⟨s.m, fun a w e q => ?_, fun a w e => ?_, s.n⟩
  · rw [upd_ne (ne_of_none e h)]; exact s.h a w e q
  · obtain ⟨u, hu⟩ := s.al a w e
    exact ⟨u, by rw [upd_ne (ne_of_none e h)]; exact hu⟩
abbrev W0 : WX := fun _ _ _ _ => False
section
variable {G : Gx} {W : WX} {wi : TI} {g : TG} {tt : TT} {te : TE} {vs : List Nat} {fi : Iv} {fg : D → List Sl → Option (List Sl)} {ft : Tv} {fe : Ev}
theorem noEx_ok {α : Type} {r : R α} {a : α} (h : r.noEx = .ok a) : r = .ok a := by
  cases r with
  | ok b => exact h
  | ex c pl ρ => cases h
  | no => cases h
theorem im_lc (hi : Imp G (RI G) W wi fi) (hg : ImG G vs g fg) (ht : ImpT G W0 tt ft) (he : ImpE G W0 te fe) : ImpN G W (tLc wi g tt te vs) (xLc fi fg ft fe vs) := by
  intro O M σ H ρ Q ok h
  show wi σ H _
  refine hi.bindN ok h fun J ds ρ1 M1 H1 ok1 s1 ri h1 => ?_
  split at h1
  · rename_i nown
    intro D hD
    -- the result that is known
    cases el : (lcGo fg ft fe vs ds ρ1).noEx with
    | ex c pl ρ' => cases e2 : lcGo fg ft fe vs ds ρ1 <;> rw [e2] at el <;> cases el
    | no => rw [el] at h1; exact h1.elim
    | ok z =>
      obtain ⟨ys, ρ2⟩ := z
      rw [el] at h1
      have el := noEx_ok el
      simp only [bnd_ok] at h1
      split at h1
      · rename_i hz
        have hDM : M1 D = none := ok1.notM hD
        have hDO : ¬ O D := ok1.notO hD
        -- the state at turn i: what is left to do gives zs, what is made stands at D
        refine ⟨fun i m Hi => m = ds.length - i ∧ i ≤ ds.length ∧ ∃ (Mi : Hp) (ρi : List Sl) (acc : List V) (as zs : List Sm.D), Ok G O Mi (wipe σ vs) Hi (wipeR ρi vs) ∧ ρi.length = ρ1.length ∧ Stp O M1 H1 Mi Hi ∧
            Hi D = some (.lst acc) ∧ Mi D = none ∧ Reps G.K Mi acc as ∧ lcGo fg ft fe vs (ds.drop i) ρi = .ok (zs, ρ2) ∧ as ++ zs = ys, ⟨ds.length, by simp, Nat.zero_le _, M1, ρ1, [], [], ys, (ok1.newN hD).wipe vs, rfl, Stp.newN hD, upd_same, hDM, .nil, el, rfl⟩, ?_⟩
        rintro i m Hi ⟨rfl, hil, Mi, ρi, acc, as, zs, oki, hρi, si, eD, mD, rac, elc, eys⟩
        have smi : Same M1 Mi := si.m
        by_cases hlt : i < ds.length
        · refine .inr ⟨ri.go i Mi Hi hlt smi oki.sub, fun H' => ds.length - (i + 1) < ds.length - i ∧ ∃ (Mi : Hp) (ρi : List Sl) (acc : List V) (as zs : List Sm.D), Ok G O Mi (wipe σ vs) H' (wipeR ρi vs) ∧ ρi.length = ρ1.length ∧ Stp O M1 H1 Mi H' ∧
            H' D = some (.lst acc) ∧ Mi D = none ∧ Reps G.K Mi acc as ∧ lcGo fg ft fe vs (ds.drop (i + 1)) ρi = .ok (zs, ρ2) ∧ as ++ zs = ys, fun H' ⟨hm, rest⟩ => ⟨_, hm, rfl, hlt, rest⟩, fun x H' hy => ?_⟩
          have hd : ds[i]? = some ds[i] := List.getElem?_eq_getElem hlt
          have edrop : ds.drop i = ds[i] :: ds.drop (i + 1) := by rw [List.drop_eq_getElem_cons hlt]
          rw [edrop] at elc
          simp only [lcGo] at elc
          -- the item
          have item : ∃ Mj, Ok G O Mj (wipe σ vs) H' (wipeR ρi vs) ∧ Stp O Mi Hi Mj H' ∧ Rep G.K Mj x ds[i] := by
            rcases ri.yld i ds[i] Mi Hi x H' hd smi oki.sub hy with ⟨rfl, r⟩ | ⟨T, ws, es, rfl, hT, rfl, e, r⟩
            · exact ⟨Mi, oki, Stp.refl, r⟩
            · refine ⟨upd Mi T (.tup ws), oki.new hT, Stp.new hT oki.sub, ?_⟩
              rw [e]
              exact .tup upd_same r.1 (r.mono (Stp.new (O := O) hT oki.sub).m).2
          obtain ⟨Mj, okj, sj, rj⟩ := item
          have eDj : H' D = some (.lst acc) := sj.h D _ eD hDO
          have keepM : ∀ {Ma Ha Mb Hb : Hp}, Stp O Ma Ha Mb Hb → Ha D = some (.lst acc) → Ma D = none → Mb D = none := fun {Ma Ha Mb Hb} s e1 e2 => by
            cases e : Mb D with
            | none => rfl
            | some u =>
              exfalso
              rcases s.n D u e with q | q | q
              · rw [e2] at q; cases q
              · rw [e1] at q; cases q
              · exact hDO q
          have mDj : Mj D = none := keepM sj eD mD
          cases eg : fg ds[i] (wipeR ρi vs) with
          | none => rw [eg] at elc; cases elc
          | some ρg =>
            rw [eg] at elc
            simp only at elc
            refine hg O Mj (wipe σ vs) H' (wipeR ρi vs) x ds[i] ρg _ okj rj eg fun σ2 okg wg => ⟨?_, ?_⟩
            · exact wg.trans (wipe_wipe vs σ)
            have wg : wipe σ2 vs = wipe σ vs := wg.trans (wipe_wipe vs σ)
            -- the tests
            refine ht O Mj σ2 H' ρg _ okg ?_
            have hlen : ρg.length = ρ1.length := by
              have := okg.len
              have h2 := congrArg List.length wg
              rw [wipe_length, wipe_length] at h2
              rw [← this, h2, ok1.len]
            cases et : ft ρg with
            | no => rw [et] at elc; cases elc
            | ex c pl ρ' => rw [et] at elc; cases elc
            | ok z =>
              obtain ⟨b, ρt⟩ := z
              rw [et] at elc
              simp only [bnd_ok] at elc
              intro b' Mt Ht okt st eb
              rw [show b' = b from eb]
              have hlt2 : ρt.length = ρ1.length := by rw [← okt.len, okg.len, hlen]
              have eDt : Ht D = some (.lst acc) := st.h D _ eDj hDO
              have mDt : Mt D = none := keepM st eDj mDj
              cases b with
              | false =>
                simp only [Bool.false_eq_true, if_false] at elc ⊢
                refine ⟨by omega, Mt, ρt, acc, as, zs, ?_, hlt2, si.trans (sj.trans st), eDt, mDt, rac.mono (sj.trans st).m, elc, eys⟩
                exact okt.rewipe wg
              | true =>
                simp only [if_true] at elc ⊢
                refine he O Mt σ2 Ht ρt _ okt ?_
                cases ee : fe ρt with
                | no => rw [ee] at elc; cases elc
                | ex c pl ρ' => rw [ee] at elc; cases elc
                | ok z =>
                  obtain ⟨dy, ρe⟩ := z
                  rw [ee] at elc
                  simp only [bnd_ok] at elc
                  intro y Me He oke se ry
                  cases er : lcGo fg ft fe vs (ds.drop (i + 1)) ρe with
                  | no => rw [er] at elc; cases elc
                  | ex c pl ρ' => rw [er] at elc; cases elc
                  | ok z2 =>
                    obtain ⟨zs2, ρz⟩ := z2
                    rw [er] at elc
                    simp only [bnd_ok, R.ok.injEq, Prod.mk.injEq] at elc
                    obtain ⟨ezs, eρz⟩ := elc
                    subst eρz
                    have eDe : He D = some (.lst acc) := se.h D _ eDt hDO
                    have mDe : Me D = none := keepM se eDt mDt
                    have hle : ρe.length = ρ1.length := by rw [← oke.len, okt.len, hlt2]
                    have sAll : Stp O Mi Hi Me He := sj.trans (st.trans se)
                    have rac2 := rac.mono sAll.m
                    have hacc : acc.length < sizeLine := by
                      rw [rac.1]
                      have : as.length + zs.length = ys.length := by rw [← eys]; simp
                      have hz' := isz_ok hz
                      have : zs.length = zs2.length + 1 := by rw [← ezs]; simp
                      omega
                    refine ⟨acc, eDe, hacc, by omega, Me, ρe, acc ++ [y], as ++ [dy], zs2, ?_, hle, ?_, upd_same, mDe, rac2.append (.one ry), er, ?_⟩
                    · exact (oke.rewipe wg).put eDe hDO mDe
                    · exact (si.trans sAll).put hD
                    · rw [← eys, ← ezs]; simp
        · have e : i = ds.length := by omega
          subst e
          refine .inl ⟨ri.stop Mi Hi smi oki.sub, ?_⟩
          rw [List.drop_length] at elc
          simp only [lcGo, R.ok.injEq, Prod.mk.injEq] at elc
          obtain ⟨ezs, eρ⟩ := elc
          subst eρ
          subst ezs
          rw [List.append_nil] at eys
          subst eys
          have sFull : Stp O M1 H1 Mi Hi := si
          exact h1 D (.lst acc) Mi Hi (ok1.back nown oki hρi sFull) sFull hD eD mD (.lst rac)
      · exact h1.elim
  · exact h1.elim
end
end Sm
namespace Sm
open PySem PySem.Spec PyProof.Rows L2

structure SPt (G : Gx) (X : Cx) (W : WX) (es : List Expr) (t : TT) (f : Tv) : Prop where
  pt : PTs X es t
  im : ImpT G W t f
def tvYes : Tv := fun ρ => .ok (true, ρ)
section
variable {G : Gx} {X : Cx} {W : WX}
theorem spt_nil : SPt G X W [] tYes tvYes := ⟨pts_nil, fun O M σ H ρ Q ok h => h true M H ok Stp.refl rfl⟩
theorem spt_one {c : Expr} {t : TT} {f : Tv} (h : ST G X W c t f) : SPt G X W [c] t f := ⟨pts_one h.pt, h.im⟩
section
variable {elt tg iter : Expr} {ifs : List Expr} {scope : Scope} {own : List (Str × Nat)} {vs : List Nat} {pos : Pos} {wi : TI} {g : TG} {tt : TT} {te : TE} {fi : Iv} {fg : D → List Sl → Option (List Sl)} {ft : Tv} {fe : Ev}
/-- [elt for tg in iter if ..] -/
theorem sn_lc (own : List (Str × Nat)) (hv : own.map (·.2) = vs) (hN : X.N.Nodup) (hi : SI G X W tg iter wi fi) (ok : BlkOk X.N X.env.scope scope own)
    (hg : ∀ (s : Shared) (H : Hp) (C : Addr) (cl : List (Str × Addr)) (fp : List Addr), SG G (X.blk s H scope (compEnvC scope cl C X.env) fp) vs tg g fg)
    (ht : ∀ (s : Shared) (H : Hp) (C : Addr) (cl : List (Str × Addr)) (fp : List Addr), SPt G (X.blk s H scope (compEnvC scope cl C X.env) fp) W0 ifs tt ft)
    (he : ∀ (s : Shared) (H : Hp) (C : Addr) (cl : List (Str × Addr)) (fp : List Addr), SE G (X.blk s H scope (compEnvC scope cl C X.env) fp) W0 elt te fe)
    (hc : X.calm = true := by rfl) (hs : ∀ x, foldedSetIterable iter X.env x = pure x := by intro _; rfl) : SN G X W (.ListComp elt [⟨tg, iter, ifs, 0⟩] scope pos) (tLc wi g tt te vs) (xLc fi fg ft fe vs) := by
  subst hv
  exact ⟨hi.k, pe_lc hc hN hi.pi ok (fun s H C cl fp => (hg s H C cl fp).pg) (fun s H C cl fp => (ht s H C cl fp).pt) (fun s H C cl fp => (he s H C cl fp).pe) hs,
    im_lc hi.im (hg {} (fun _ => none) 0 [] []).im (ht {} (fun _ => none) 0 [] []).im (he {} (fun _ => none) 0 [] []).im⟩
end

/-! ## 14. statements -/
structure Cc where
  O : Addr → Prop
  M : Hp
  H : Hp
/-- the state of a frame, and how it came from C -/
structure Fr' (G : Gx) (C : Cc) (O : Addr → Prop) (M : Hp) (σ : L2.St) (H : Hp) (ρ : List Sl) : Prop where
  ok : Ok G O M σ H ρ
  st : Stp C.O C.M C.H M H
  o : ∀ a, O a → C.O a ∨ C.H a = none
end
section
variable {G : Gx} {C : Cc} {O O' : Addr → Prop} {M M' : Hp} {σ σ' : L2.St} {H H' : Hp} {ρ ρ' : List Sl}
theorem Fr'.here (ok : Ok G O M σ H ρ) : Fr' G ⟨O, M, H⟩ O M σ H ρ := ⟨ok, Stp.refl, fun _ h => .inl h⟩
theorem Fr'.step (fr : Fr' G C O M σ H ρ) (s : Stp O M H M' H') : Stp C.O C.M C.H M' H' := by
  refine ⟨fr.st.m.trans s.m, fun a o e q => ?_, fun a o e => ?_, fun a o e => ?_⟩
  · refine s.h a o (fr.st.h a o e q) fun z => ?_
    rcases fr.o a z with h | h
    · exact q h
    · rw [h] at e; cases e
  · obtain ⟨o', e'⟩ := fr.st.al a o e
    exact s.al a o' e'
  · rcases s.n a o e with h | h | h
    · exact fr.st.n a o h
    · refine .inr (.inl ?_)
      cases q : C.H a with
      | none => rfl
      | some u => obtain ⟨o', e'⟩ := fr.st.al a u q; rw [h] at e'; cases e'
    · rcases fr.o a h with h | h
      · exact .inr (.inr h)
      · exact .inr (.inl h)
theorem Fr'.ex (fr : Fr' G C O M σ H ρ) (k : Ok G O M' σ' H' ρ') (s : Stp O M H M' H') : Fr' G C O M' σ' H' ρ' := ⟨k, fr.step s, fr.o⟩
/-- from C to here, from here on -/
theorem Fr'.trans (fr : Fr' G C O M σ H ρ) (f2 : Fr' G ⟨O, M, H⟩ O' M' σ' H' ρ') : Fr' G C O' M' σ' H' ρ' := by
  refine ⟨f2.ok, fr.step f2.st, fun a q => ?_⟩
  rcases f2.o a q with h | h
  · exact fr.o a h
  · refine .inr ?_
    cases e : C.H a with
    | none => rfl
    | some u =>
      obtain ⟨o', e'⟩ := fr.st.al a u e
      have h : H a = none := h
      rw [h] at e'; cases e'
end
def PostS (G : Gx) (W : WX) (C : Cc) (E : Ends) : Fl → Prop
  | .nx ρ' => ∀ O M σ H, Fr' G C O M σ H ρ' → E.nx σ H
  | .bk ρ' => ∀ O M σ H, Fr' G C O M σ H ρ' → E.bk σ H
  | .ct ρ' => ∀ O M σ H, Fr' G C O M σ H ρ' → E.ct σ H
  | .rt d ρ' => ∀ v O M σ H, Fr' G C O M σ H ρ' → Rep G.K M v d → E.rt v H
  | .rn d ρ' => ∀ p o O M σ H, Fr' G C O M σ H ρ' → C.H p = none → H p = some o → M p = none → RepO G.K M o d → E.rt (.ref p) H
  | .ex c pl ρ' => ∀ cls dd O M σ H, Fr' G C O M σ H ρ' → Exn G c pl cls dd M H → W cls dd σ H
  | .no => False
def ImpS (G : Gx) (W : WX) (t : TS) (f : Sv) : Prop := ∀ C O M σ H ρ E, Fr' G C O M σ H ρ → PostS G W C E (f ρ) → t E σ H
structure SS (G : Gx) (X : Cx) (W : WX) (st : Stmt) (t : TS) (f : Sv) : Prop where
  k : X.K = G.K
  ps : PS X st t
  im : ImpS G W t f
structure SSs (G : Gx) (X : Cx) (W : WX) (st : List Stmt) (t : TS) (f : Sv) : Prop where
  k : X.K = G.K
  ps : PSs X st t
  im : ImpS G W t f
theorem PostS.here {G : Gx} {W : WX} {C : Cc} {E : Ends} {O : Addr → Prop} {M : Hp} {σ : L2.St} {H : Hp} {ρ : List Sl} {r : Fl} (h : PostS G W C E r) (fr : Fr' G C O M σ H ρ) : PostS G W ⟨O, M, H⟩ E r := by
  cases r with
  | nx ρ' => exact fun O M σ H f => h O M σ H (fr.trans f)
  | bk ρ' => exact fun O M σ H f => h O M σ H (fr.trans f)
  | ct ρ' => exact fun O M σ H f => h O M σ H (fr.trans f)
  | rt d ρ' => exact fun v O M σ H f r => h v O M σ H (fr.trans f) r
  | rn d ρ' => exact fun p o O' M' σ' H' f h0 h1 h2 r => h p o O' M' σ' H' (fr.trans f) (by
      cases e : C.H p with
      | none => rfl
      | some u =>
        obtain ⟨o', e'⟩ := fr.st.al p u e
        rw [show H p = none from h0] at e'; cases e') h1 h2 r
  | ex c pl ρ' => exact fun cls dd O M σ H f e => h cls dd O M σ H (fr.trans f) e
  | no => exact h
section
variable {α β : Type} {G : Gx} {W : WX} {C : Cc} {O : Addr → Prop} {M : Hp} {σ : L2.St} {H : Hp} {ρ : List Sl} {E : Ends}
theorem Imp.bindS {Ra : Hp → Hp → β → α → Prop} {ta : L2.St → Hp → (β → Hp → Prop) → Prop} {fa : List Sl → R (α × List Sl)} {k : α → List Sl → Fl} {Q' : β → Hp → Prop}
    (ha : Imp G Ra W ta fa) (fr : Fr' G C O M σ H ρ) (h : PostS G W C E ((fa ρ).bndS k)) (n : ∀ v d ρ1 M1 H1, Fr' G C O M1 σ H1 ρ1 → Stp O M H M1 H1 → Ra M1 H1 v d → PostS G W C E (k d ρ1) → Q' v H1) : ta σ H Q' := by
  refine ha O M σ H ρ Q' fr.ok ?_
  cases e : fa ρ with
  | ok a =>
    obtain ⟨d, ρ1⟩ := a
    rw [e] at h
    exact fun v M1 H1 k1 s1 r1 => n v d ρ1 M1 H1 (fr.ex k1 s1) s1 r1 h
  | ex c pl ρ1 => rw [e] at h; exact fun cls dd M' H' k s q => h cls dd O M' σ H' (fr.ex k s) q
  | no => rw [e] at h; exact h.elim
theorem ImpN.bindS {ta : TE} {fa : Ev} {k : D → List Sl → Fl} {Q' : VK}
    (ha : ImpN G W ta fa) (fr : Fr' G C O M σ H ρ) (h : PostS G W C E ((fa ρ).bndS k)) (n : ∀ p o d ρ1 M1 H1, Fr' G C O M1 σ H1 ρ1 → H p = none → H1 p = some o → M1 p = none → RepO G.K M1 o d → PostS G W C E (k d ρ1) → Q' (.ref p) H1) : ta σ H Q' := by
  refine ha O M σ H ρ Q' fr.ok ?_
  cases e : fa ρ with
  | ok a =>
    obtain ⟨d, ρ1⟩ := a
    rw [e] at h
    exact fun p o M1 H1 k1 s1 hn hp hm r1 => n p o d ρ1 M1 H1 (fr.ex k1 s1) hn hp hm r1 h
  | ex c pl ρ1 => rw [e] at h; exact fun cls dd M' H' k s q => h cls dd O M' σ H' (fr.ex k s) q
  | no => rw [e] at h; exact h.elim
end
def sNx : Sv := fun ρ => .nx ρ
def sSeq (f g : Sv) : Sv := fun ρ => match f ρ with
  | .nx ρ1 => g ρ1
  | r => r
def sDrop (a : Ev) : Sv := fun ρ => (a ρ).bndS fun _ ρ1 => .nx ρ1
def sRet (a : Ev) : Sv := fun ρ => (a ρ).bndS fun d ρ1 => .rt d ρ1
def sIf (c : Tv) (f g : Sv) : Sv := fun ρ => (c ρ).bndS fun b ρ1 => if b = true then f ρ1 else g ρ1
def sAsg (a : Ev) (g : D → List Sl → Option (List Sl)) : Sv := fun ρ => (a ρ).bndS fun d ρ1 => match g d ρ1 with
  | some ρ2 => .nx ρ2
  | none => .no
/-- name = something new, that this name alone holds -/
def sOwn (a : Ev) (i : Nat) : Sv := fun ρ => (a ρ).bndS fun d ρ1 => if Nat.blt i ρ1.length && Nat.blt 0 i then .nx (ρ1.set i (.own d)) else .no
/-- the slot gives up its object: it is frozen -/
def sFre (i : Nat) : Sv := fun ρ => match ρ[i]? with
  | some (.own d) => .nx (ρ.set i (.fro d))
  | _ => .no
def whl (c : Tv) (b : Sv) : Nat → Sv
  | 0 => fun _ => .no
  | n + 1 => fun ρ => (c ρ).bndS fun t ρ1 => if t = true then (match b ρ1 with
    | .nx ρ2 => whl c b n ρ2
    | .ct ρ2 => whl c b n ρ2
    | .bk ρ2 => .nx ρ2
    | r => r) else .nx ρ1
def forL (g : D → List Sl → Option (List Sl)) (b : Sv) : List D → Sv
  | [] => fun ρ => .nx ρ
  | d :: ds => fun ρ => match g d ρ with
    | none => .no
    | some ρ1 => (match b ρ1 with
      | .nx ρ2 => forL g b ds ρ2
      | .ct ρ2 => forL g b ds ρ2
      | .bk ρ2 => .nx ρ2
      | r => r)
def sFor (it : Iv) (g : D → List Sl → Option (List Sl)) (b : Sv) : Sv := fun ρ => (it ρ).bndS fun ds ρ1 => forL g b ds ρ1
/-- slot[i] = e, the slot an owned list -/
def sSet (i : Nat) (ix e : Ev) : Sv := fun ρ => (e ρ).bndS fun d ρ1 => match ρ1[i]? with
  | some (.own _) => (ix ρ1).bndS fun k ρ2 => (match ρ2[i]?, k with
    | some (.own (.lst l)), .int k => (match ixN l.length k with | some j => .nx (ρ2.set i (.own (.lst (l.set j d)))) | none => .no)
    | _, _ => .no)
  | _ => .no
/-- slot.append(e) -/
def sApp (i : Nat) (e : Ev) : Sv := fun ρ => match ρ[i]? with
  | some (.own (.lst _)) => (e ρ).bndS fun d ρ1 => (match ρ1[i]? with
    | some (.own (.lst l)) => if isz (l.length + 1) then .nx (ρ1.set i (.own (.lst (l ++ [d])))) else .no
    | _ => .no)
  | _ => .no
section
variable {G : Gx} {X : Cx} {W : WX} {st : Stmt} {rest : List Stmt} {t u : TS} {f g : Sv} {e : Expr} {te : TE} {fe : Ev} {pos : Pos}
theorem ss_nil (k : X.K = G.K := by rfl) : SSs G X W [] tNext sNx := ⟨k, pss_nil, fun C O M σ H ρ E fr h => h O M σ H fr⟩
theorem ss_cons (h1 : SS G X W st t f) (h2 : SSs G X W rest u g) : SSs G X W (st :: rest) (tSeq t u) (sSeq f g) := by
  refine ⟨h1.k, pss_cons h1.ps h2.ps, fun C O M σ H ρ E fr h => ?_⟩
  refine h1.im C O M σ H ρ { E with nx := u E } fr ?_
  unfold sSeq at h
  cases ef : f ρ with
  | nx ρ1 => rw [ef] at h; exact fun O' M' σ' H' fr' => h2.im C O' M' σ' H' ρ1 E fr' h
  | bk ρ1 => rw [ef] at h; exact h
  | ct ρ1 => rw [ef] at h; exact h
  | rt d ρ1 => rw [ef] at h; exact h
  | rn d ρ1 => rw [ef] at h; exact h
  | ex c pl ρ1 => rw [ef] at h; exact h
  | no => rw [ef] at h; exact h
theorem ss_one (h1 : SS G X W st t f) : SSs G X W [st] t f := ⟨h1.k, pss_one h1.ps, h1.im⟩
theorem ss_pass (k : X.K = G.K := by rfl) : SS G X W (.Pass pos) tNext sNx := ⟨k, ps_pass, fun C O M σ H ρ E fr h => h O M σ H fr⟩
theorem ss_break (k : X.K = G.K := by rfl) : SS G X W (.Break pos) tBreak (fun ρ => .bk ρ) := ⟨k, ps_break, fun C O M σ H ρ E fr h => h O M σ H fr⟩
theorem ss_cont (k : X.K = G.K := by rfl) : SS G X W (.Continue pos) tCont (fun ρ => .ct ρ) := ⟨k, ps_continue, fun C O M σ H ρ E fr h => h O M σ H fr⟩
theorem ss_ret (h : SE G X W e te fe) : SS G X W (.Return (some e) pos) (tRet te) (sRet fe) := by
  refine ⟨h.k, ps_ret h.pe, fun C O M σ H ρ E fr hp => ?_⟩
  exact h.im.bindS fr hp fun v d ρ1 M1 H1 fr1 _ r1 h1 => h1 v O M1 σ H1 fr1 r1
def sRetN (a : Ev) : Sv := fun ρ => (a ρ).bndS fun d ρ1 => .rn d ρ1
theorem ss_retN (h : SN G X W e te fe) : SS G X W (.Return (some e) pos) (tRet te) (sRetN fe) := by
  refine ⟨h.k, ps_ret h.pe, fun C O M σ H ρ E fr hp => ?_⟩
  refine h.im.bindS fr hp fun p o d ρ1 M1 H1 fr1 hn hp hm r1 h1 => h1 p o O M1 σ H1 fr1 ?_ hp hm r1
  cases e : C.H p with
  | none => rfl
  | some u => obtain ⟨o', e'⟩ := fr.st.al p u e; rw [hn] at e'; cases e'
theorem ss_expr (h : SE G X W e te fe) (hs : swapsWith e none pos.line X.env = pure false := by rfl) : SS G X W (.Expr e pos) (tDrop te) (sDrop fe) := by
  refine ⟨h.k, ps_expr h.pe hs, fun C O M σ H ρ E fr hp => ?_⟩
  exact h.im.bindS fr hp fun v d ρ1 M1 H1 fr1 _ r1 h1 => h1 O M1 σ H1 fr1
theorem ss_if {c : Expr} {a b : List Stmt} {tc : TT} {fc : Tv} (hc : ST G X W c tc fc) (ha : SSs G X W a t f) (hb : SSs G X W b u g) : SS G X W (.If c a b pos) (tIfS tc t u) (sIf fc f g) := by
  refine ⟨hc.k, ps_if hc.pt ha.ps hb.ps, fun C O M σ H ρ E fr hp => ?_⟩
  refine hc.im.bindS fr hp fun b' b ρ1 M1 H1 fr1 _ r1 h1 => ?_
  rw [show b' = b from r1]
  cases b with
  | true => exact ha.im C O M1 σ H1 ρ1 E fr1 h1
  | false => exact hb.im C O M1 σ H1 ρ1 E fr1 h1
/-- name = e -/
theorem ss_set {x : Str} {pos' : Pos} (i : Nat) (h : SE G X W e te fe) (hN : X.N.Nodup) (hi : X.N[i]? = some x := by rfl) (hx : Loc X.env.scope x := by first | exact Or.inl rfl | exact Or.inr rfl)
    (hs : swapsWith e (some (.Name x pos')) pos.line X.env = pure false := by rfl) (hf : X.fn x = true ∨ X.env.scope.names.lookup x = some .local := by first | exact .inl rfl | exact .inr rfl) :
    SS G X W (.Assign [.Name x pos'] e pos) (tAsg te (gName i)) (sAsg fe (gtN i)) := by
  refine ⟨h.k, ps_set hN hi hx h.pe hs hf, fun C O M σ H ρ E fr hp => ?_⟩
  refine h.im.bindS fr hp fun v d ρ1 M1 H1 fr1 _ r1 h1 => ?_
  cases eg : gtN i d ρ1 with
  | none => rw [eg] at h1; exact h1.elim
  | some ρ2 =>
    rw [eg] at h1
    exact (im_gName (G := G) (vs := [i]) i (by simp)) O M1 σ H1 ρ1 v d ρ2 _ fr1.ok r1 eg fun σ' k' _ => h1 O M1 σ' H1 ⟨k', fr1.st, fr1.o⟩
theorem im_asg {vs : List Nat} {gg : TG} {fg : D → List Sl → Option (List Sl)} (h : ImpE G W te fe) (hg : ImG G vs gg fg) : ImpS G W (tAsg te gg) (sAsg fe fg) := fun C O M σ H ρ E fr hp => by
  refine h.bindS fr hp fun v d ρ1 M1 H1 fr1 _ r1 h1 => ?_
  cases eg : fg d ρ1 with
  | none => rw [eg] at h1; exact h1.elim
  | some ρ2 =>
    rw [eg] at h1
    exact hg O M1 σ H1 ρ1 v d ρ2 _ fr1.ok r1 eg fun σ' k' _ => h1 O M1 σ' H1 ⟨k', fr1.st, fr1.o⟩
/-- target = e -/
theorem ss_asg {tg : Expr} {vs : List Nat} {gg : TG} {fg : D → List Sl → Option (List Sl)} (h : SE G X W e te fe) (hg : SG G X vs tg gg fg) (hs : swapsWithSole [tg] e pos.line X.env = pure false := by rfl) (hw : swappedStores [tg] e X.env = pure none := by rfl)
    (h1 : (assignEach [tg] X.env).map (·.2) = [assign tg X.env] := by rfl) : SS G X W (.Assign [tg] e pos) (tAsg te gg) (sAsg fe fg) := ⟨h.k, ps_asg h.pe hg.pg hs hw h1, im_asg h.im hg.im⟩
/-- a new object for an own slot -/
theorem Fr'.own {C : Cc} {O : Addr → Prop} {M : Hp} {σ : L2.St} {H : Hp} {ρ : List Sl} {p : Addr} {o : HO} {d : D} {i : Nat} (fr : Fr' G C O M σ H ρ) (hi : i < ρ.length) (h0 : 0 < i) (hC : C.H p = none) (hO : ¬ O p) (hp : H p = some o) (hm : M p = none) (r : RepO G.K M o d) :
    Fr' G C (fun a => O a ∨ a = p) M (σ.set i (some (.ref p))) H (ρ.set i (.own d)) := by
  have k := fr.ok
  have hi' : i < σ.length := by rw [k.len]; exact hi
  refine ⟨⟨k.sub, fun a q => ?_, fun a q => ?_, by simp [k.len], fun j e h => ?_, fun j e h => ?_, fun j j' e e' a h h' ha ha' => ?_, fun e a h ha => ?_⟩, fr.st, fun a q => ?_⟩
  · rcases q with q | q
    · exact k.ow0 a q
    · rw [q]; exact hm
  · rcases q with q | q
    · exact k.oal a q
    · rw [q]; exact ⟨o, hp⟩
  · rw [set_get hi] at h
    rw [set_get hi']
    split at h
    · cases h
    · rename_i hij; rw [if_neg hij]; exact k.fro j e h
  · rw [set_get hi] at h
    rw [set_get hi']
    split at h
    · rename_i hij; cases h; rw [if_pos hij]; exact ⟨p, o, rfl, .inr rfl, hp, r⟩
    · rename_i hij
      rw [if_neg hij]
      obtain ⟨q, oo, a, b, c, d⟩ := k.own j e h
      exact ⟨q, oo, a, .inl b, c, d⟩
  · rw [set_get hi] at h h'
    rw [set_get hi'] at ha ha'
    split at h
    · rename_i h1
      split at h'
      · rename_i h2; rw [← h1, ← h2]
      · rename_i h2
        rw [if_pos h1] at ha
        rw [if_neg h2] at ha'
        cases ha
        obtain ⟨q, oo, a1, b1, _⟩ := k.own j' e' h'
        rw [ha'] at a1
        cases a1
        exact absurd b1 hO
    · rename_i h1
      rw [if_neg h1] at ha
      split at h'
      · rename_i h2
        rw [if_pos h2] at ha'
        cases ha'
        obtain ⟨q, oo, a1, b1, _⟩ := k.own j e h
        rw [ha] at a1
        cases a1
        exact absurd b1 hO
      · rename_i h2
        rw [if_neg h2] at ha'
        exact k.dis j j' e e' a h h' ha ha'
  · rw [set_get hi, if_neg (by omega)] at h
    rw [set_get hi', if_neg (by omega)] at ha
    exact k.bz e a h ha
  · rcases q with q | q
    · exact fr.o a q
    · rw [q]; exact .inr hC
theorem im_own {i : Nat} (h : ImpN G W te fe) : ImpS G W (tAsg te (gName i)) (sOwn fe i) := fun C O M σ H ρ E fr hp => by
  refine h.bindS fr hp fun p o d ρ1 M1 H1 fr1 hn hp1 hm r1 h1 => ?_
  split at h1
  · rename_i hl
    rw [Bool.and_eq_true] at hl
    have h0 := Nat.blt_eq.mp hl.2
    have hl := Nat.blt_eq.mp hl.1
    have hC : C.H p = none := by
      cases e : C.H p with
      | none => rfl
      | some u => obtain ⟨o', e'⟩ := fr.st.al p u e; rw [hn] at e'; cases e'
    exact h1 _ M1 _ H1 (fr1.own hl h0 hC (fr.ok.notO hn) hp1 hm r1)
  · exact h1.elim
theorem ss_own {x : Str} {pos' : Pos} (i : Nat) (h : SN G X W e te fe) (hN : X.N.Nodup) (hi : X.N[i]? = some x := by rfl) (hx : Loc X.env.scope x := by first | exact Or.inl rfl | exact Or.inr rfl)
    (hs : swapsWith e (some (.Name x pos')) pos.line X.env = pure false := by rfl) (hf : X.fn x = true ∨ X.env.scope.names.lookup x = some .local := by first | exact .inl rfl | exact .inr rfl) :
    SS G X W (.Assign [.Name x pos'] e pos) (tAsg te (gName i)) (sOwn fe i) := ⟨h.k, ps_set hN hi hx h.pe hs hf, im_own h.im⟩
theorem fre_eq (i : Nat) (f : Sv) (ρ : List Sl) : sSeq (sFre i) f ρ = match ρ[i]? with
    | some (.own d) => f (ρ.set i (.fro d))
    | _ => .no := by
  unfold sSeq sFre
  cases ρ[i]? with
  | none => rfl
  | some s => cases s <;> rfl
/-- an owned slot's object is frozen from here on -/
theorem im_fre {i : Nat} (h : ImpS G W t f) : ImpS G W t (sSeq (sFre i) f) := fun C O M σ H ρ E fr hp => by
  rw [fre_eq] at hp
  split at hp
  · rename_i d e2
    · obtain ⟨p, o, e3, hO, e4, r4⟩ := fr.ok.own i d e2
      have hil : i < ρ.length := (List.getElem?_eq_some_iff.mp e2).1
      have hM := fr.ok.ow0 p hO
      have sm : Same M (upd M p o) := fun b u e => by rw [upd_ne (ne_of_none e hM)]; exact e
      have k := fr.ok
      refine h C (fun a => O a ∧ a ≠ p) (upd M p o) σ H _ E ⟨⟨fun a u e => ?_, fun a q => ?_, fun a q => k.oal a q.1, by simpa using k.len, fun j e h => ?_, fun j e h => ?_, fun j j' e e' a h h' ha ha' => ?_, fun e a h ha => ?_⟩, ⟨fr.st.m.trans sm, fr.st.h, fr.st.al, fun a u e => ?_⟩, fun a q => fr.o a q.1⟩ hp
      · by_cases ha : a = p
        · subst ha; rw [upd_same] at e; cases e; exact e4
        · rw [upd_ne ha] at e; exact k.sub a u e
      · rw [upd_ne q.2]; exact k.ow0 a q.1
      · rw [set_get hil] at h
        split at h
        · rename_i hij
          cases h
          subst hij
          exact ⟨_, e3, (r4.mono sm).rep upd_same⟩
        · obtain ⟨v, a, b⟩ := k.fro j e h
          exact ⟨v, a, b.mono sm⟩
      · rw [set_get hil] at h
        split at h
        · cases h
        · rename_i hij
          obtain ⟨q, oo, a, b, c, r⟩ := k.own j e h
          refine ⟨q, oo, a, ⟨b, fun z => hij ?_⟩, c, r.mono sm⟩
          rw [z] at a
          exact k.dis i j d e p e2 h e3 a
      · rw [set_get hil] at h h'
        split at h
        · cases h
        · split at h'
          · cases h'
          · exact k.dis j j' e e' a h h' ha ha'
      · rw [set_get hil] at h
        split at h
        · cases h
        · exact k.bz e a h ha
      · by_cases ha : a = p
        · subst ha
          rcases fr.o a hO with q | q
          · exact .inr (.inr q)
          · exact .inr (.inl q)
        · rw [upd_ne ha] at e; exact fr.st.n a u e
  · exact hp.elim
theorem ss_fre (i : Nat) (h : SSs G X W rest t f) : SSs G X W rest t (sSeq (sFre i) f) := ⟨h.k, h.ps, im_fre h.im⟩
end
end Sm
namespace Sm
open PySem PySem.Spec PyProof.Rows L2

section
variable {G : Gx} {X : Cx} {W : WX} {st : Stmt} {rest : List Stmt} {t u : TS} {f g : Sv} {e : Expr} {te : TE} {fe : Ev} {pos : Pos}
/-- the wish behind a turn of a loop -/
theorem turn_post {C : Cc} {E : Ends} {N : L2.St → Hp → Prop} {k : List Sl → Fl} {r : Fl}
    (h : PostS G W C E (match r with | .nx ρ2 => k ρ2 | .ct ρ2 => k ρ2 | .bk ρ2 => .nx ρ2 | r => r))
    (n : ∀ O M σ H ρ2, Fr' G C O M σ H ρ2 → PostS G W C E (k ρ2) → N σ H) : PostS G W C { E with nx := N, ct := N, bk := E.nx } r := by
  cases r with
  | nx ρ' => exact fun O M σ H fr => n O M σ H ρ' fr h
  | ct ρ' => exact fun O M σ H fr => n O M σ H ρ' fr h
  | bk ρ' => exact h
  | rt d ρ' => exact h
  | rn d ρ' => exact h
  | ex c pl ρ' => exact h
  | no => exact h
/-- while; n: more than its turns -/
theorem ss_while {c : Expr} {body : List Stmt} {tc : TT} {fc : Tv} (n : Nat) (hp : PassesOwn (model X.prog X.w) X.A X.env X.xe) (hc : ST G X W c tc fc) (hb : SSs G X W body t f) : SS G X W (.While c body [] pos) (tWhile tc t) (whl fc f n) := by
  refine ⟨hc.k, ps_while hp hc.pt hb.ps, fun C O M σ H ρ E fr h => ?_⟩
  refine ⟨fun m σ H => ∃ O M ρ, Fr' G C O M σ H ρ ∧ PostS G W C E (whl fc f m ρ), ⟨n, O, M, ρ, fr, h⟩, ?_⟩
  rintro m σ H ⟨O, M, ρ, fr, h⟩
  cases m with
  | zero => exact h.elim
  | succ m =>
    refine hc.im.bindS fr h fun b' b ρ1 M1 H1 fr1 _ r1 h1 => ?_
    rw [show b' = b from r1]
    cases b with
    | false => exact h1 O M1 σ H1 fr1
    | true =>
      refine ⟨fun σ' H' => ∃ O M ρ, Fr' G C O M σ' H' ρ ∧ PostS G W C E (whl fc f m ρ), fun σ' H' q => ⟨m, Nat.lt_succ_self m, q⟩, ?_⟩
      exact hb.im C O M1 σ H1 ρ1 _ fr1 (turn_post h1 fun O M σ H ρ2 fr2 h2 => ⟨O, M, ρ2, fr2, h2⟩)
/-- for -/
theorem ss_for {tg iter : Expr} {body : List Stmt} {wi : TI} {gg : TG} {vs : List Nat} {fi : Iv} {fg : D → List Sl → Option (List Sl)} (hp : PassesOwn (model X.prog X.w) X.A X.env X.xe) (hi : SI G X W tg iter wi fi) (hg : SG G X vs tg gg fg) (hb : SSs G X W body t f)
    (hc : X.calm = true := by rfl) (hs : ∀ x, foldedSetIterable iter X.env x = pure x := by intro _; rfl) : SS G X W (.For tg iter body [] pos) (tFor wi gg t) (sFor fi fg f) := by
  refine ⟨hi.k, ps_for hp hc hi.pi hg.pg hb.ps hs, fun C O M σ H ρ E fr h => ?_⟩
  show wi σ H _
  refine hi.im.bindS fr h fun J ds ρ1 M1 H1 fr1 _ ri h1 => ?_
  have h1 := h1.here fr1
  refine ⟨fun i m σ' H' => m = ds.length - i ∧ i ≤ ds.length ∧ ∃ O' M' ρ', Fr' G ⟨O, M1, H1⟩ O' M' σ' H' ρ' ∧ PostS G W ⟨O, M1, H1⟩ E (forL fg f (ds.drop i) ρ'), ⟨ds.length, by simp, Nat.zero_le _, O, M1, ρ1, Fr'.here fr1.ok, h1⟩, ?_⟩
  rintro i m σ' H' ⟨rfl, hil, O', M', ρ', fr', h'⟩
  have sm : Same M1 M' := fr'.st.m
  by_cases hlt : i < ds.length
  · refine .inr ⟨ri.go i M' H' hlt sm fr'.ok.sub, fun σ2 H2 => ∃ O' M' ρ', Fr' G ⟨O, M1, H1⟩ O' M' σ2 H2 ρ' ∧ PostS G W ⟨O, M1, H1⟩ E (forL fg f (ds.drop (i + 1)) ρ'), fun σ2 H2 q => ⟨ds.length - (i + 1), by omega, rfl, hlt, q⟩, fun x H2 hy => ?_⟩
    have edrop : ds.drop i = ds[i] :: ds.drop (i + 1) := by rw [List.drop_eq_getElem_cons hlt]
    rw [edrop] at h'
    simp only [forL] at h'
    have item : ∃ Mj, Ok G O' Mj σ' H2 ρ' ∧ Stp O' M' H' Mj H2 ∧ Rep G.K Mj x ds[i] := by
      rcases ri.yld i ds[i] M' H' x H2 (List.getElem?_eq_getElem hlt) sm fr'.ok.sub hy with ⟨rfl, r⟩ | ⟨T, ws, es, rfl, hT, rfl, e, r⟩
      · exact ⟨M', fr'.ok, Stp.refl, r⟩
      · refine ⟨upd M' T (.tup ws), fr'.ok.new hT, Stp.new hT fr'.ok.sub, ?_⟩
        rw [e]
        exact .tup upd_same r.1 (r.mono (Stp.new (O := O') hT fr'.ok.sub).m).2
    obtain ⟨Mj, okj, sj, rj⟩ := item
    cases eg : fg ds[i] ρ' with
    | none => rw [eg] at h'; exact h'.elim
    | some ρg =>
      rw [eg] at h'
      refine hg.im O' Mj σ' H2 ρ' x ds[i] ρg _ okj rj eg fun σ2 okg _ => ?_
      have frj := fr'.ex okg sj
      exact hb.im _ O' Mj σ2 H2 ρg _ frj (turn_post h' fun O M σ H ρ2 fr2 h2 => ⟨O, M, ρ2, fr2, h2⟩)
  · have e : i = ds.length := by omega
    subst e
    rw [List.drop_length] at h'
    exact .inl ⟨ri.stop M' H' sm fr'.ok.sub, h' O' M' σ' H' fr'⟩
/-- an own slot's object, written -/
theorem Fr'.wr {C : Cc} {O : Addr → Prop} {M : Hp} {σ : L2.St} {H : Hp} {ρ : List Sl} {p : Addr} {o : HO} {c d : D} {i : Nat} (fr : Fr' G C O M σ H ρ) (hi : ρ[i]? = some (.own c)) (hp : σ[i]? = some (some (.ref p))) (r : RepO G.K M o d) :
    Ok G O M σ (upd H p o) (ρ.set i (.own d)) ∧ Stp O M H M (upd H p o) := by
  have k := fr.ok
  obtain ⟨p', o', e1, hO, e2, _⟩ := k.own i c hi
  rw [hp] at e1; cases e1
  have hil : i < ρ.length := (List.getElem?_eq_some_iff.mp hi).1
  have hM := k.ow0 p hO
  refine ⟨⟨fun a u e => ?_, k.ow0, fun a q => ?_, by simpa using k.len, fun j e h => ?_, fun j e h => ?_, fun j j' e e' a h h' ha ha' => ?_, fun e a h ha => ?_⟩, Stp.write hO e2⟩
  · rw [upd_ne (ne_of_none e hM)]; exact k.sub a u e
  · by_cases ha : a = p
    · exact ⟨o, by rw [ha, upd_same]⟩
    · obtain ⟨u, hu⟩ := k.oal a q
      exact ⟨u, by rw [upd_ne ha]; exact hu⟩
  · rw [set_get hil] at h
    split at h
    · cases h
    · exact k.fro j e h
  · rw [set_get hil] at h
    split at h
    · rename_i hij
      cases h
      subst hij
      exact ⟨p, o, hp, hO, upd_same, r⟩
    · rename_i hij
      obtain ⟨q, oo, a, b, c', r'⟩ := k.own j e h
      refine ⟨q, oo, a, b, ?_, r'⟩
      rw [upd_ne (show q ≠ p from fun z => hij (by rw [z] at a; exact k.dis i j c e p hi h hp a))]
      exact c'
  · have gg : ∀ (j : Nat) (e : D), (ρ.set i (Sl.own d))[j]? = some (Sl.own e) → ∃ e2, ρ[j]? = some (Sl.own e2) := fun j e h => by
      rw [set_get hil] at h
      split at h
      · rename_i hij; subst hij; exact ⟨c, hi⟩
      · exact ⟨e, h⟩
    obtain ⟨x1, g1⟩ := gg j e h
    obtain ⟨x2, g2⟩ := gg j' e' h'
    exact k.dis j j' x1 x2 a g1 g2 ha ha'
  · rw [set_get hil] at h
    split at h
    · rename_i hij
      rw [← hij, hp] at ha
      cases ha
      rw [hij] at hi hp
      exact k.bz c p hi hp
    · exact k.bz e a h ha
theorem ix_rep {vs : List V} {ds : List D} {M : Hp} (r : Reps G.K M vs ds) {k : Int} {j : Nat} (h : ixN ds.length k = some j) : ixN vs.length k = some j := by rw [r.1]; exact h
/-- slot[i] = e -/
theorem ss_setI {x : Str} {px pt : Pos} {ie : Expr} {ti : TE} {fi : Ev} (i : Nat) (hv : SE G X W e te fe) (hi : SE G X W ie ti fi) (hN : X.N[i]? = some x := by rfl)
    (hvis : Vis X.env.scope x := by first | exact Or.inl rfl | exact Or.inr (Or.inl rfl) | exact Or.inr (Or.inr rfl)) (hd : (x == ("__debug__" : Str)) = false := by decide) (hcd : (x == ("__classdict__" : Str)) = false := by decide)
    (hs : swapsWithSole [.Subscript (.Name x px) ie pt] e pos.line X.env = pure false := by rfl) (hw : swappedStores [.Subscript (.Name x px) ie pt] e X.env = pure none := by rfl)
    (h1 : (assignEach [.Subscript (.Name x px) ie pt] X.env).map (·.2) = [assign (.Subscript (.Name x px) ie pt) X.env] := by rfl)
    (ha : ∀ v, assign (.Subscript (.Name x px) ie pt) X.env v = (do
      let ov ← holding [v] (eval (.Name x px) X.env)
      let iv ← holding [v, ov] (eval ie X.env)
      standAt pt
      holding [v, ov, iv] (setItem ov iv v)
      release [v, ov, iv] []) := by intro _; rfl) :
    SS G X W (.Assign [.Subscript (.Name x px) ie pt] e pos) (tAsg te (L2.gSub (tVar i) ti rSetL)) (sSet i fi fe) := by
  refine ⟨hv.k, ps_asg hv.pe (pg_sub (pe_var hN hvis hd hcd) hi.pe set_list ha) hs hw h1, fun C O M σ H ρ E fr hp => ?_⟩
  refine hv.im.bindS fr hp fun v d ρ1 M1 H1 fr1 _ r1 h1 => ?_
  split at h1
  · rename_i c0 e0
    obtain ⟨p, o, e1, _, _, _⟩ := fr1.ok.own i c0 e0
    refine ⟨_, e1, ?_⟩
    refine hi.im.bindS fr1 h1 fun k dk ρ2 M2 H2 fr2 s2 r2 h2 => ?_
    split at h2
    · rename_i l kk e2
      obtain ⟨p', o', e3, hO, e4, r4⟩ := fr2.ok.own i _ e2
      rw [e1] at e3; cases e3
      split at h2
      · rename_i j ej
        cases r4 with
        | @lst ws _ r4 =>
          cases r2
          have rr : RepO G.K M2 (.lst (ws.set j v)) (.lst (l.set j d)) := .lst (r4.set (r1.mono s2.m) j)
          obtain ⟨k', s'⟩ := fr2.wr e2 e1 rr
          exact ⟨p, ws, kk, j, rfl, rfl, e4, ix_rep r4 ej, h2 O M2 σ _ (fr2.ex k' s')⟩
      · exact h2.elim
    · exact h2.elim
  · exact h1.elim
/-- slot.append(e) -/
theorem ss_app {x : Str} {px apos cpos : Pos} (i : Nat) (hv : SE G X W e te fe) (hN : X.N[i]? = some x := by rfl)
    (hvis : Vis X.env.scope x := by first | exact Or.inl rfl | exact Or.inr (Or.inl rfl) | exact Or.inr (Or.inr rfl)) (hd : (x == ("__debug__" : Str)) = false := by decide) (hcd : (x == ("__classdict__" : Str)) = false := by decide)
    (he : starEach (e :: []) X.env = (false, eval e X.env) :: starEach [] X.env := by rfl)
    (pe : PE X (.Call (.Attribute (.Name x px) "append" apos) [e] [] cpos) (tBM X.K "list" rAppend (tVar i) (tCons te tNil)))
    (hs : swapsWith (.Call (.Attribute (.Name x px) "append" apos) [e] [] cpos) none pos.line X.env = pure false := by rfl) :
    SS G X W (.Expr (.Call (.Attribute (.Name x px) "append" apos) [e] [] cpos) pos) (tDrop (tBM X.K "list" rAppend (tVar i) (tCons te tNil))) (sApp i fe) := by
  refine ⟨hv.k, ps_expr pe hs, fun C O M σ H ρ E fr hp => ?_⟩
  unfold sApp at hp
  split at hp
  · rename_i l0 e0
    obtain ⟨p, o, e1, _, e10, r10⟩ := fr.ok.own i _ e0
    cases r10 with
    | @lst ws0 _ r10 =>
      refine ⟨_, e1, .inl ⟨rfl, _, SqL.of e10⟩, ?_⟩
      refine hv.im.bindS fr hp fun v d ρ1 M1 H1 fr1 s1 r1 h1 => ?_
      split at h1
      · rename_i l e2
        obtain ⟨p', o', e3, hO, e4, r4⟩ := fr1.ok.own i _ e2
        rw [e1] at e3; cases e3
        split at h1
        · rename_i hz
          cases r4 with
          | @lst ws _ r4 =>
            have rr : RepO G.K M1 (.lst (ws ++ [v])) (.lst (l ++ [d])) := .lst (r4.append (.one r1))
            obtain ⟨k', s'⟩ := fr1.wr e2 e1 rr
            refine ⟨p, ws, v, rfl, rfl, e4, ?_, h1 O M1 σ _ (fr1.ex k' s')⟩
            have := isz_ok hz
            rw [r4.1]
            omega
        · exact h1.elim
      · exact h1.elim
  · exact hp.elim
end

/-! ## 15. a def -/
def slotsOf (N : Nat) (ds : List D) : List Sl := ds.map Sl.fro ++ List.replicate (N - ds.length) Sl.no
def mkFn (n N : Nat) (body : Sv) : List D → R D := fun ds => if Nat.beq ds.length n then (match body (slotsOf N ds) with
  | .rt d _ => .ok d
  | .nx _ => .ok .non
  | .ex c pl _ => .ex c pl []
  | _ => .no) else .no
def mkNw (n N : Nat) (body : Sv) : List D → R D := fun ds => if Nat.beq ds.length n then (match body (slotsOf N ds) with
  | .rn d _ => .ok d
  | .ex c pl _ => .ex c pl []
  | _ => .no) else .no
/-- a def that hands back something new that nobody holds -/
def spN (G : Gx) (f : List D → R D) : Sp := fun vs H Q E => ∃ (M : Hp) (ds : List D), (∀ a o, M a = some o → H a = some o) ∧ Reps G.K M vs ds ∧
  (match f ds with
  | .ok d => ∀ p o M' H', (∀ a o, M' a = some o → H' a = some o) → Stp (fun _ => False) M H M' H' → H p = none → H' p = some o → M' p = none → RepO G.K M' o d → Q (.ref p) H'
  | .ex c pl _ => ∀ cls dd M' H', (∀ a o, M' a = some o → H' a = some o) → Stp (fun _ => False) M H M' H' → Exn G c pl cls dd M' H' → E cls dd H'
  | .no => False)
theorem im_callN {G : Gx} {W : WX} {f : List D → R D} {ta : TA} {fa : Av} (ha : ImpA G W ta fa) : ImpN G W (tCallS (spN G f) (WE W) ta) (xCall f fa) := by
  intro O M σ H ρ Q ok h
  show ta σ H fun vs H1 => spN G f vs H1 Q (WE W σ)
  refine ha.bindN ok h fun vs ds ρ1 M1 H1 ok1 s1 r1 h1 => ?_
  refine ⟨M1, ds, ok1.sub, r1, ?_⟩
  cases e : f ds with
  | ok d =>
    rw [e] at h1
    exact fun p o M' H' sub s h0 hp hm r => h1 p o M' H' (ok1.after sub s) (s.mono fun _ z => z.elim) h0 hp hm r
  | ex c pl ρ' =>
    rw [e] at h1
    exact fun cls dd M' H' sub s r => h1 cls dd M' H' (ok1.after sub s) (s.mono fun _ z => z.elim) r
  | no => rw [e] at h1; exact h1
theorem sn_call {G : Gx} {X : Cx} {W : WX} {f : Addr} {fd : FuncData} {ps : List Str} {k : Nat} {x : Str} {p pos : Pos} {e : Expr} {es : List Expr} {t : TA} {fa : Av} {F : List D → R D}
    (FO : FnOk X.prog X.w X.K X.mg X.base (L2.CX X.prog X.w) k f fd ps (spN G F)) (hr : Room k X.A) (hm : X.mg x = some (.ref f)) (hk : PySem.W.keepIn X.K (.ref f) = true) (hb : Binds X.K fd ps []) (tk : Takes X W) (ha : SA G X W (e :: es) t fa) (hg : Gl X x := by rfl)
    (hdb : (x == ("__debug__" : Str)) = false := by decide) (he : starEach (e :: es) X.env = (false, eval e X.env) :: starEach es X.env := by rfl) (hpl : (backTo pos (starEach es X.env)).any (·.1) = false := by rfl) :
    SN G X W (.Call (.Name x p) (e :: es) [] pos) (tCallS (spN G F) (WE W) t) (xCall F fa) := ⟨ha.k, pe_callS FO hr hg hm hk hb (fun σ => passAt tk σ) ha.pa hdb he hpl, im_callN ha.im⟩
def mkIo (n N : Nat) (body : Sv) : D → List D → R (D × D) := fun c ds => if Nat.beq (ds.length + 1) n then (match body (.own c :: slotsOf (N - 1) ds) with
  | .rt d ρ => (match ρ with | .own c' :: _ => .ok (d, c') | _ => .no)
  | .nx ρ => (match ρ with | .own c' :: _ => .ok (.non, c') | _ => .no)
  | _ => .no) else .no
section
variable {G : Gx} {P : Program} {w : World} {mg : Str → Option Value} {base : Heap}
theorem slots_get {N : Nat} {ds : List D} {i : Nat} {s : Sl} (h : (slotsOf N ds)[i]? = some s) : (∃ d, ds[i]? = some d ∧ s = .fro d) ∨ s = .no := by
  unfold slotsOf at h
  by_cases hi : i < ds.length
  · rw [List.getElem?_append_left (by simpa using hi), List.getElem?_map] at h
    obtain ⟨d, hd, e⟩ := Option.map_eq_some_iff.mp h
    exact .inl ⟨d, hd, e.symm⟩
  · rw [List.getElem?_append_right (by simp; omega)] at h
    have hm := List.mem_of_getElem? h
    exact .inr (List.eq_of_mem_replicate hm)
theorem start_get {N : List Str} {vs : List V} {i : Nat} {v : V} (h : vs[i]? = some v) : (L2.start N vs)[i]? = some (some v) := by
  unfold L2.start
  have hi := (List.getElem?_eq_some_iff.mp h).1
  rw [List.getElem?_append_left (by simpa using hi), List.getElem?_map, h]
  rfl
theorem fn_sim {x qual : Str} {st : Stmt} {f : Addr} {fd : FuncData} {N ps : List Str} {k : Nat} {body : Sv} (F : Fun G.K x qual st f fd) (S : FnScope N ps (defScope st)) (hle : ps.length ≤ N.length)
    (hb : ∀ (cdv : Value) (A : Around) (outer : List Env) (s : Shared) (H : Hp) (E : XK), Room k (A.deeper (envOfC qual (defScope st) s.heap.objs.size f cdv)) →
      ∃ t, SSs G (cxOf (L2.CX P w) P w G.K mg base N qual (defScope st) f cdv A outer s H E) (fun cls d _ H => E cls d H) (defBody st) t body) :
    FnOk P w G.K mg base (L2.CX P w) (k + 1) f fd ps (spF G (mkFn ps.length N.length body)) := by
  refine F.okX S (fun vs H Q E h => ?_) (fun cdv A outer s H vs Q E hr h => ?_)
  · obtain ⟨M, ds, _, r, h⟩ := h
    unfold mkFn at h
    split at h
    · rw [r.1]; rename_i hl; split at hl
      · exact Nat.eq_of_beq_eq_true ‹_›
      · cases hl
    · rename_i hl; split at hl
      · rw [r.1]; exact Nat.eq_of_beq_eq_true ‹_›
      · cases hl
    · exact h.elim
  · obtain ⟨t, hs⟩ := hb cdv A outer s H E hr
    refine ⟨t, hs.ps, ?_⟩
    obtain ⟨M, ds, sub, r, h⟩ := h
    have hlen : ds.length = ps.length := by
      unfold mkFn at h
      by_cases hl : Nat.beq ds.length ps.length = true
      · exact Nat.eq_of_beq_eq_true hl
      · rw [if_neg hl] at h; exact h.elim
    have hbq : Nat.beq ds.length ps.length = true := by rw [hlen]; exact Nat.beq_refl _
    have ok : Ok G (fun _ => False) M (L2.start N vs) H (slotsOf N.length ds) := by
      refine ⟨sub, fun a q => q.elim, fun a q => q.elim, ?_, fun i d e => ?_, fun i d e => ?_, fun i j d e p h1 => ?_, fun d p h1 => ?_⟩
      · unfold L2.start slotsOf; simp [r.1]
      · rcases slots_get e with ⟨d', hd, e'⟩ | e'
        · cases e'
          obtain ⟨v, hv, rv⟩ := r.get hd
          exact ⟨v, start_get hv, rv⟩
        · cases e'
      · rcases slots_get e with ⟨d', hd, e'⟩ | e' <;> cases e'
      · rcases slots_get h1 with ⟨d', hd, e'⟩ | e' <;> cases e'
      · rcases slots_get h1 with ⟨d', hd, e'⟩ | e' <;> cases e'
    refine hs.im _ _ M _ H _ _ (Fr'.here ok) ?_
    unfold mkFn at h
    rw [if_pos hbq] at h
    cases eb : body (slotsOf N.length ds) with
    | rt d ρ => rw [eb] at h; exact fun v O' M' σ' H' fr rv => h v M' H' fr.ok.sub fr.st rv
    | nx ρ => rw [eb] at h; exact fun O' M' σ' H' fr => h .non M' H' fr.ok.sub fr.st .non
    | ex c pl ρ => rw [eb] at h; exact fun cls dd O' M' σ' H' fr ex => h cls dd M' H' fr.ok.sub fr.st ex
    | rn d ρ => rw [eb] at h; exact h.elim
    | bk ρ => rw [eb] at h; exact h.elim
    | ct ρ => rw [eb] at h; exact h.elim
    | no => rw [eb] at h; exact h.elim
theorem nw_sim {x qual : Str} {st : Stmt} {f : Addr} {fd : FuncData} {N ps : List Str} {k : Nat} {body : Sv} (F : Fun G.K x qual st f fd) (S : FnScope N ps (defScope st)) (hle : ps.length ≤ N.length)
    (hb : ∀ (cdv : Value) (A : Around) (outer : List Env) (s : Shared) (H : Hp) (E : XK), Room k (A.deeper (envOfC qual (defScope st) s.heap.objs.size f cdv)) →
      ∃ t, SSs G (cxOf (L2.CX P w) P w G.K mg base N qual (defScope st) f cdv A outer s H E) (fun cls d _ H => E cls d H) (defBody st) t body) :
    FnOk P w G.K mg base (L2.CX P w) (k + 1) f fd ps (spN G (mkNw ps.length N.length body)) := by
  refine F.okX S (fun vs H Q E h => ?_) (fun cdv A outer s H vs Q E hr h => ?_)
  · obtain ⟨M, ds, _, r, h⟩ := h
    unfold mkNw at h
    split at h
    · rw [r.1]; rename_i hl; split at hl
      · exact Nat.eq_of_beq_eq_true ‹_›
      · cases hl
    · rename_i hl; split at hl
      · rw [r.1]; exact Nat.eq_of_beq_eq_true ‹_›
      · cases hl
    · exact h.elim
  · obtain ⟨t, hs⟩ := hb cdv A outer s H E hr
    refine ⟨t, hs.ps, ?_⟩
    obtain ⟨M, ds, sub, r, h⟩ := h
    have hlen : ds.length = ps.length := by
      unfold mkNw at h
      by_cases hl : Nat.beq ds.length ps.length = true
      · exact Nat.eq_of_beq_eq_true hl
      · rw [if_neg hl] at h; exact h.elim
    have hbq : Nat.beq ds.length ps.length = true := by rw [hlen]; exact Nat.beq_refl _
    have ok : Ok G (fun _ => False) M (L2.start N vs) H (slotsOf N.length ds) := by
      refine ⟨sub, fun a q => q.elim, fun a q => q.elim, ?_, fun i d e => ?_, fun i d e => ?_, fun i j d e p h1 => ?_, fun d p h1 => ?_⟩
      · unfold L2.start slotsOf; simp [r.1]
      · rcases slots_get e with ⟨d', hd, e'⟩ | e'
        · cases e'
          obtain ⟨v, hv, rv⟩ := r.get hd
          exact ⟨v, start_get hv, rv⟩
        · cases e'
      · rcases slots_get e with ⟨d', hd, e'⟩ | e' <;> cases e'
      · rcases slots_get h1 with ⟨d', hd, e'⟩ | e' <;> cases e'
      · rcases slots_get h1 with ⟨d', hd, e'⟩ | e' <;> cases e'
    refine hs.im _ _ M _ H _ _ (Fr'.here ok) ?_
    unfold mkNw at h
    rw [if_pos hbq] at h
    cases eb : body (slotsOf N.length ds) with
    | rt d ρ => rw [eb] at h; exact h.elim
    | nx ρ => rw [eb] at h; exact h.elim
    | ex c pl ρ => rw [eb] at h; exact fun cls dd O' M' σ' H' fr ex => h cls dd M' H' fr.ok.sub fr.st ex
    | rn d ρ => rw [eb] at h; exact fun p o O' M' σ' H' fr h0 h1 h2 r => h p o M' H' fr.ok.sub fr.st h0 h1 h2 r
    | bk ρ => rw [eb] at h; exact h.elim
    | ct ρ => rw [eb] at h; exact h.elim
    | no => rw [eb] at h; exact h.elim
theorem io_sim {x qual : Str} {st : Stmt} {f : Addr} {fd : FuncData} {N ps : List Str} {k : Nat} {body : Sv} (F : Fun G.K x qual st f fd) (S : FnScope N ps (defScope st)) (hle : ps.length ≤ N.length)
    (hb : ∀ (B : Addr → Prop) (cdv : Value) (A : Around) (outer : List Env) (s : Shared) (H : Hp) (E : XK), Room k (A.deeper (envOfC qual (defScope st) s.heap.objs.size f cdv)) →
      ∃ t, SSs { G with B := B } (cxOf (L2.CX P w) P w G.K mg base N qual (defScope st) f cdv A outer s H E) (fun cls d _ H => E cls d H) (defBody st) t body) :
    FnOk P w G.K mg base (L2.CX P w) (k + 1) f fd ps (spIo G (mkIo ps.length N.length body)) := by
  refine F.okX S (fun vs H Q E h => ?_) (fun cdv A outer s H vs Q E hr h => ?_)
  · obtain ⟨M, c, ds, p, o, ws, rfl, _, _, _, _, r, h⟩ := h
    unfold mkIo at h
    split at h
    · rename_i hl; split at hl
      · rw [List.length_cons, r.1]; exact Nat.eq_of_beq_eq_true ‹_›
      · cases hl
    · exact h.elim
  · obtain ⟨M, c, ds, p, o, ws, rfl, hM, hp, ro, sub, r, h⟩ := h
    obtain ⟨t, hs⟩ := hb (fun a => a = p) cdv A outer s H E hr
    refine ⟨t, hs.ps, ?_⟩
    have hlen : ds.length + 1 = ps.length := by
      unfold mkIo at h
      by_cases hl : Nat.beq (ds.length + 1) ps.length = true
      · exact Nat.eq_of_beq_eq_true hl
      · rw [if_neg hl] at h; exact h.elim
    have hbq : Nat.beq (ds.length + 1) ps.length = true := by rw [hlen]; exact Nat.beq_refl _
    have hstart : L2.start N (.ref p :: ws) = some (.ref p) :: (ws.map some ++ List.replicate (N.length - 1 - ws.length) none) := by
      unfold L2.start
      rw [List.map_cons, List.cons_append, List.length_cons]
      congr 3
      omega
    have ok : Ok { G with B := fun a => a = p } (fun a => a = p) M (L2.start N (.ref p :: ws)) H (.own c :: slotsOf (N.length - 1) ds) := by
      rw [hstart]
      refine ⟨sub, fun a q => by rw [q]; exact hM, fun a q => by rw [q]; exact ⟨o, hp⟩, ?_, fun i d e => ?_, fun i d e => ?_, fun i j d e a h1 h2 _ _ => ?_, fun d a _ ha => ?_⟩
      · unfold slotsOf; simp [r.1]
      · cases i with
        | zero => cases e
        | succ i =>
          simp only [List.getElem?_cons_succ] at e ⊢
          rcases slots_get e with ⟨d', hd, e'⟩ | e'
          · cases e'
            obtain ⟨v, hv, rv⟩ := r.get hd
            refine ⟨v, ?_, rv⟩
            rw [List.getElem?_append_left (by simpa using (List.getElem?_eq_some_iff.mp hv).1), List.getElem?_map, hv]
            rfl
          · cases e'
      · cases i with
        | zero => cases e; exact ⟨p, o, rfl, rfl, hp, ro⟩
        | succ i =>
          simp only [List.getElem?_cons_succ] at e
          rcases slots_get e with ⟨d', hd, e'⟩ | e' <;> cases e'
      · cases i with
        | succ i =>
          simp only [List.getElem?_cons_succ] at h1
          rcases slots_get h1 with ⟨d', hd, e'⟩ | e' <;> cases e'
        | zero =>
          cases j with
          | zero => rfl
          | succ j =>
            simp only [List.getElem?_cons_succ] at h2
            rcases slots_get h2 with ⟨d', hd, e'⟩ | e' <;> cases e'
      · cases ha; rfl
    refine hs.im ⟨fun a => a = p, M, H⟩ _ M _ H _ _ (Fr'.here ok) ?_
    unfold mkIo at h
    rw [if_pos hbq] at h
    -- the object as it is at the end: slot 0 is still p's
    have fin : ∀ {d c' : D} {v : V} {ρ' : List Sl} {O' : Addr → Prop} {M' : Hp} {σ' : L2.St} {H' : Hp}, (∀ v M' H' o', (∀ a o, M' a = some o → H' a = some o) → Stp (fun a => a = p) M H M' H' → M' p = none → H' p = some o' → RepO G.K M' o' c' → Rep G.K M' v d → Q v H') →
        Fr' { G with B := fun a => a = p } ⟨fun a => a = p, M, H⟩ O' M' σ' H' (.own c' :: ρ') → Rep G.K M' v d → Q v H' := fun {d c' v ρ' O' M' σ' H'} h fr rv => by
      obtain ⟨p', o', e1, hO, e2, r2⟩ := fr.ok.own 0 c' rfl
      have e3 : p' = p := fr.ok.bz c' p' rfl e1
      subst e3
      exact h v M' H' o' fr.ok.sub fr.st (fr.ok.ow0 _ hO) e2 r2 rv
    cases eb : body (.own c :: slotsOf (N.length - 1) ds) with
    | rt d ρ =>
      rw [eb] at h
      cases ρ with
      | nil => exact h.elim
      | cons s0 ρ' =>
        cases s0 with
        | own c' => exact fun v O' M' σ' H' fr rv => fin h fr rv
        | no => exact h.elim
        | fro d' => exact h.elim
    | nx ρ =>
      rw [eb] at h
      cases ρ with
      | nil => exact h.elim
      | cons s0 ρ' =>
        cases s0 with
        | own c' => exact fun O' M' σ' H' fr => fin h fr .non
        | no => exact h.elim
        | fro d' => exact h.elim
    | ex c pl ρ => rw [eb] at h; exact h.elim
    | rn d ρ => rw [eb] at h; exact h.elim
    | bk ρ => rw [eb] at h; exact h.elim
    | ct ρ => rw [eb] at h; exact h.elim
    | no => rw [eb] at h; exact h.elim
end
end Sm
namespace Sm
open PySem PySem.Spec PyProof.Rows L2

/-! ## 16. a, b = x, y: some of them new and owned -/
def owns : List V → List Sl → List Addr
  | .ref p :: vs, .own _ :: ss => p :: owns vs ss
  | _ :: vs, _ :: ss => owns vs ss
  | _, _ => []
inductive RS (G : Gx) (H0 M H : Hp) : List V → List Sl → Prop where
  | nil : RS G H0 M H [] []
  | fro {v : V} {d : D} {vs : List V} {ss : List Sl} (r : Rep G.K M v d) (rs : RS G H0 M H vs ss) : RS G H0 M H (v :: vs) (.fro d :: ss)
  | own {p : Addr} {o : HO} {d : D} {vs : List V} {ss : List Sl} (h0 : H0 p = none) (h : H p = some o) (m : M p = none) (r : RepO G.K M o d) (n : p ∉ owns vs ss) (rs : RS G H0 M H vs ss) : RS G H0 M H (.ref p :: vs) (.own d :: ss)
abbrev Mv := List Sl → R (List Sl × List Sl)
def PostM (G : Gx) (W : WX) (O : Addr → Prop) (M : Hp) (σ : L2.St) (H : Hp) (Q : List V → Hp → Prop) : R (List Sl × List Sl) → Prop
  | .ok (ss, ρ') => ∀ vs M' H', Ok G O M' σ H' ρ' → Stp O M H M' H' → RS G H M' H' vs ss → Q vs H'
  | .ex c pl ρ' => ∀ cls dd M' H', Ok G O M' σ H' ρ' → Stp O M H M' H' → Exn G c pl cls dd M' H' → W cls dd σ H'
  | .no => False
def ImpM (G : Gx) (W : WX) (t : TA) (f : Mv) : Prop := ∀ O M σ H ρ Q, Ok G O M σ H ρ → PostM G W O M σ H Q (f ρ) → t σ H Q
structure SM (G : Gx) (X : Cx) (W : WX) (es : List Expr) (t : TA) (f : Mv) : Prop where
  k : X.K = G.K
  pa : PA X es t
  im : ImpM G W t f
def mNil : Mv := fun ρ => .ok ([], ρ)
def mFro (a : Ev) (r : Mv) : Mv := fun ρ => (a ρ).bnd fun d ρ1 => (r ρ1).bnd fun ss ρ2 => .ok (.fro d :: ss, ρ2)
def mOwn (a : Ev) (r : Mv) : Mv := fun ρ => (a ρ).bnd fun d ρ1 => (r ρ1).bnd fun ss ρ2 => .ok (.own d :: ss, ρ2)
section
variable {G : Gx} {X : Cx} {W : WX} {O : Addr → Prop} {M H : Hp} {σ : L2.St} {ρ : List Sl}
theorem none_back {M' H' : Hp} {p : Addr} (s : Stp O M H M' H') (h : H' p = none) : H p = none := by
  cases e : H p with
  | none => rfl
  | some u => obtain ⟨o, e'⟩ := s.al p u e; rw [h] at e'; cases e'
theorem RS.back {M1 H1 M2 H2 : Hp} {vs : List V} {ss : List Sl} (r : RS G H1 M2 H2 vs ss) (s : Stp O M H M1 H1) : RS G H M2 H2 vs ss := by
  induction r with
  | nil => exact .nil
  | fro r _ ih => exact .fro r ih
  | own h0 h m r n _ ih => exact .own (none_back s h0) h m r n ih
theorem RS.fresh {H0 : Hp} {vs : List V} {ss : List Sl} (r : RS G H0 M H vs ss) : ∀ p, p ∈ owns vs ss → H0 p = none := by
  induction r with
  | nil => intro p h; simp [owns] at h
  | @fro v d vs ss r _ ih =>
    intro p h
    have e : owns (v :: vs) (.fro d :: ss) = owns vs ss := by cases v <;> rfl
    rw [e] at h
    exact ih p h
  | own h0 h m r n _ ih =>
    intro p hp
    simp only [owns, List.mem_cons] at hp
    rcases hp with hp | hp
    · rw [hp]; exact h0
    · exact ih p hp
theorem im_mFro {ta : TE} {fa : Ev} {tr : TA} {fr : Mv} (ha : ImpE G W ta fa) (hr : ImpM G W tr fr) : ImpM G W (tCons ta tr) (mFro fa fr) := by
  intro O M σ H ρ Q ok h
  unfold mFro at h
  refine ha O M σ H ρ _ ok ?_
  cases ea : fa ρ with
  | no => rw [ea] at h; exact h
  | ex c pl ρ' => rw [ea] at h; exact h
  | ok z =>
    obtain ⟨d, ρ1⟩ := z
    rw [ea] at h
    intro v M1 H1 ok1 s1 r1
    refine hr O M1 σ H1 ρ1 _ ok1 ?_
    simp only [bnd_ok] at h
    cases er : fr ρ1 with
    | no => rw [er] at h; exact h
    | ex c pl ρ' => rw [er] at h; exact fun cls dd M' H' k s q => h cls dd M' H' k (s1.trans s) q
    | ok z =>
      obtain ⟨ss, ρ2⟩ := z
      rw [er] at h
      exact fun vs M2 H2 ok2 s2 rs => h (v :: vs) M2 H2 ok2 (s1.trans s2) (.fro (r1.mono s2.m) (rs.back s1))
theorem im_mOwn {ta : TE} {fa : Ev} {tr : TA} {fr : Mv} (ha : ImpN G W ta fa) (hr : ImpM G W tr fr) : ImpM G W (tCons ta tr) (mOwn fa fr) := by
  intro O M σ H ρ Q ok h
  unfold mOwn at h
  refine ha O M σ H ρ _ ok ?_
  cases ea : fa ρ with
  | no => rw [ea] at h; exact h
  | ex c pl ρ' => rw [ea] at h; exact h
  | ok z =>
    obtain ⟨d, ρ1⟩ := z
    rw [ea] at h
    intro p o M1 H1 ok1 s1 hn hp hm r1
    refine hr O M1 σ H1 ρ1 _ ok1 ?_
    simp only [bnd_ok] at h
    cases er : fr ρ1 with
    | no => rw [er] at h; exact h
    | ex c pl ρ' => rw [er] at h; exact fun cls dd M' H' k s q => h cls dd M' H' k (s1.trans s) q
    | ok z =>
      obtain ⟨ss, ρ2⟩ := z
      rw [er] at h
      intro vs M2 H2 ok2 s2 rs
      have hO : ¬ O p := ok.notO hn
      refine h (.ref p :: vs) M2 H2 ok2 (s1.trans s2) (.own hn (s2.h p o hp hO) ?_ (r1.mono s2.m) (fun hm => ?_) (rs.back s1))
      · cases e : M2 p with
        | none => rfl
        | some u =>
          exfalso
          rcases s2.n p u e with q | q | q
          · rw [hm] at q; cases q
          · rw [hp] at q; cases q
          · exact hO q
      · have := rs.fresh p hm
        rw [hp] at this; cases this
section
variable {a : Expr} {es : List Expr} {ta : TE} {fa : Ev} {tr : TA} {fr : Mv}
theorem sm_nil (k : X.K = G.K := by rfl) : SM G X W [] tNil mNil := ⟨k, pa_nil, fun O M σ H ρ Q ok h => h [] M H ok Stp.refl .nil⟩
theorem sm_fro (ha : SE G X W a ta fa) (hr : SM G X W es tr fr) (hs : starEach (a :: es) X.env = (false, eval a X.env) :: starEach es X.env := by rfl) : SM G X W (a :: es) (tCons ta tr) (mFro fa fr) := ⟨ha.k, pa_cons ha.pe hr.pa hs, im_mFro ha.im hr.im⟩
theorem sm_own (ha : SN G X W a ta fa) (hr : SM G X W es tr fr) (hs : starEach (a :: es) X.env = (false, eval a X.env) :: starEach es X.env := by rfl) : SM G X W (a :: es) (tCons ta tr) (mOwn fa fr) := ⟨ha.k, pa_cons ha.pe hr.pa hs, im_mOwn ha.im hr.im⟩
end
def setAll (σ : L2.St) : List Nat → List V → L2.St
  | i :: is, v :: vs => setAll (σ.set i (some v)) is vs
  | _, _ => σ
def setAllR (ρ : List Sl) : List Nat → List Sl → Option (List Sl)
  | i :: is, .fro d :: ss => if Nat.blt i ρ.length then setAllR (ρ.set i (.fro d)) is ss else none
  | i :: is, .own d :: ss => if Nat.blt i ρ.length && Nat.blt 0 i then setAllR (ρ.set i (.own d)) is ss else none
  | [], [] => some ρ
  | _, _ => none
theorem put_all {C : Cc} {H0 : Hp} : ∀ (is : List Nat) (vs : List V) (ss : List Sl) (O : Addr → Prop) (σ : L2.St) (ρ ρ' : List Sl), Fr' G C O M σ H ρ → RS G H0 M H vs ss → (∀ p, H0 p = none → C.H p = none) → (∀ p, p ∈ owns vs ss → ¬ O p) →
    setAllR ρ is ss = some ρ' → ∃ O', Fr' G C O' M (setAll σ is vs) H ρ'
  | [], vs, ss, O, σ, ρ, ρ', fr, rs, hC, hO, e => by
    cases ss with
    | nil => simp only [setAllR, Option.some.injEq] at e; subst e; exact ⟨O, by cases vs <;> exact fr⟩
    | cons s ss => simp [setAllR] at e
  | i :: is, vs, ss, O, σ, ρ, ρ', fr, rs, hC, hO, e => by
    cases rs with
    | nil => simp [setAllR] at e
    | @fro v d vs ss r rs =>
      simp only [setAllR] at e
      split at e
      · rename_i hl
        have eo : owns (v :: vs) (.fro d :: ss) = owns vs ss := by cases v <;> rfl
        exact put_all is vs ss O _ _ ρ' ⟨fr.ok.set (Nat.blt_eq.mp hl) r, fr.st, fr.o⟩ rs hC (fun p hp => hO p (by rw [eo]; exact hp)) e
      · cases e
    | @own p o d vs ss h0 h m r n rs =>
      simp only [setAllR] at e
      split at e
      · rename_i hl
        rw [Bool.and_eq_true] at hl
        refine put_all is vs ss _ _ _ ρ' (fr.own (Nat.blt_eq.mp hl.1) (Nat.blt_eq.mp hl.2) (hC p h0) (hO p (by simp [owns])) h m r) rs hC (fun q hq z => ?_) e
        rcases z with z | z
        · exact hO q (by simp [owns, hq]) z
        · rw [z] at hq; exact n hq
      · cases e
def sPar (is : List Nat) (f : Mv) : Sv := fun ρ => (f ρ).bndS fun ss ρ1 => match setAllR ρ1 is ss with
  | some ρ2 => .nx ρ2
  | none => .no
theorem im_par {ta : TA} {fa : Mv} {is : List Nat} (Z : Ends → L2.St → List V → Hp → Prop) (ha : ImpM G W ta fa) (ht : ∀ (E : Ends) σ vs H1, vs.length = is.length → E.nx (setAll σ is vs) H1 → Z E σ vs H1) : ImpS G W (fun E σ H => ta σ H (Z E σ)) (sPar is fa) := by
  intro C O M σ H ρ E fr h
  refine ha O M σ H ρ _ fr.ok ?_
  unfold sPar at h
  cases ea : fa ρ with
  | no => rw [ea] at h; exact h
  | ex c pl ρ' => rw [ea] at h; exact fun cls dd M' H' k s q => h cls dd O M' σ H' (fr.ex k s) q
  | ok z =>
    obtain ⟨ss, ρ1⟩ := z
    rw [ea] at h
    simp only [bndS_ok] at h
    intro vs M1 H1 ok1 s1 rs
    split at h
    · rename_i ρ2 e
      have fr1 := fr.ex ok1 s1
      obtain ⟨O', fr2⟩ := put_all (H0 := H) is vs ss O σ ρ1 ρ2 fr1 rs (fun p hp => none_back fr.st hp) (fun p hp => fr.ok.notO (rs.fresh p hp)) e
      have hlen : ∀ (is : List Nat) (vs : List V) (ss : List Sl) (ρ1 : List Sl), RS G H M1 H1 vs ss → setAllR ρ1 is ss = some ρ2 → vs.length = is.length := by
        intro is
        induction is with
        | nil =>
          intro vs ss ρ1 rs e
          cases rs with
          | nil => rfl
          | fro r rs => simp [setAllR] at e
          | own h0 h m r n rs => simp [setAllR] at e
        | cons i is ih =>
          intro vs ss ρ1 rs e
          cases rs with
          | nil => simp [setAllR] at e
          | fro r rs =>
            simp only [setAllR] at e
            split at e
            · simp [ih _ _ _ rs e]
            · cases e
          | own h0 h m r n rs =>
            simp only [setAllR] at e
            split at e
            · simp [ih _ _ _ rs e]
            · cases e
      exact ht E σ vs H1 (hlen is vs ss ρ1 rs e) (h O' M1 _ H1 fr2)
    · exact h.elim
theorem ss_par {x y : Str} {a b : Expr} {ta : TA} {fa : Mv} {px py pt pos : Pos} {kt k2 pt2} (i j : Nat) (ha : SM G X W [a, b] ta fa) (hN : X.N.Nodup) (hij : i ≠ j := by decide) (hc : X.calm = true := by rfl) (hi : X.N[i]? = some x := by rfl) (hj : X.N[j]? = some y := by rfl)
    (hx : X.env.scope.names.lookup x = some .local := by rfl) (hy : X.env.scope.names.lookup y = some .local := by rfl)
    (hw : swappedStores [.Tuple [.Name x px, .Name y py] kt pt] (.Tuple [a, b] k2 pt2) X.env = pure (some [x, y]) := by rfl)
    (hs : swapsWithSole [.Tuple [.Name x px, .Name y py] kt pt] (.Tuple [a, b] k2 pt2) pos.line X.env = pure false := by rfl) :
    SS G X W (.Assign [.Tuple [.Name x px, .Name y py] kt pt] (.Tuple [a, b] k2 pt2) pos) (tPar i j ta) (sPar [i, j] fa) := by
  refine ⟨ha.k, ps_par hc hN hi hj hij hx hy ha.pa hw hs, im_par (is := [i, j]) (fun E σ vs H1 => ∃ v w, vs = [v, w] ∧ E.nx ((σ.set i (some v)).set j (some w)) H1) ha.im fun E σ vs H1 hl h => ?_⟩
  match vs, hl with
  | [v, w], _ => exact ⟨v, w, rfl, h⟩
theorem ss_par3 {x y z : Str} {a b c : Expr} {ta : TA} {fa : Mv} {px py pz pt pos : Pos} {kt k2 pt2} (i j l : Nat) (ha : SM G X W [a, b, c] ta fa) (hN : X.N.Nodup) (hij : i ≠ j := by decide) (hil : i ≠ l := by decide) (hjl : j ≠ l := by decide) (hc : X.calm = true := by rfl)
    (hi : X.N[i]? = some x := by rfl) (hj : X.N[j]? = some y := by rfl) (hl : X.N[l]? = some z := by rfl)
    (hx : X.env.scope.names.lookup x = some .local := by rfl) (hy : X.env.scope.names.lookup y = some .local := by rfl) (hz : X.env.scope.names.lookup z = some .local := by rfl)
    (hw : swappedStores [.Tuple [.Name x px, .Name y py, .Name z pz] kt pt] (.Tuple [a, b, c] k2 pt2) X.env = pure (some [x, y, z]) := by rfl)
    (hs : swapsWithSole [.Tuple [.Name x px, .Name y py, .Name z pz] kt pt] (.Tuple [a, b, c] k2 pt2) pos.line X.env = pure false := by rfl) :
    SS G X W (.Assign [.Tuple [.Name x px, .Name y py, .Name z pz] kt pt] (.Tuple [a, b, c] k2 pt2) pos) (tPar3 i j l ta) (sPar [i, j, l] fa) := by
  refine ⟨ha.k, ps_par3 hc hN hi hj hl hij hil hjl hx hy hz ha.pa hw hs, im_par (is := [i, j, l]) (fun E σ vs H1 => ∃ u v w, vs = [u, v, w] ∧ E.nx (((σ.set i (some u)).set j (some v)).set l (some w)) H1) ha.im fun E σ vs H1 hl h => ?_⟩
  match vs, hl with
  | [u, v, w], _ => exact ⟨u, v, w, rfl, h⟩
end
end Sm
namespace Sm
open PySem PySem.Spec PyProof.Rows L2

section
variable {G : Gx} {X : Cx} {W : WX} {st : Stmt} {rest : List Stmt} {t u : TS} {f g : Sv} {e a b : Expr} {te ta tb : TE} {fe fa fb : Ev} {pos : Pos}
theorem ss_never (k : X.K = G.K := by rfl) : SS G X W st tNever (fun _ => .no) := ⟨k, ps_never, fun C O M σ H ρ E fr h => h.elim⟩
/-- slot.append(e) -/
theorem ss_append {x : Str} {px apos cpos : Pos} (i : Nat) (hv : SE G X W e te fe) (hN : X.N[i]? = some x := by rfl)
    (hvis : Vis X.env.scope x := by first | exact Or.inl rfl | exact Or.inr (Or.inl rfl) | exact Or.inr (Or.inr rfl)) (hd : (x == ("__debug__" : Str)) = false := by decide) (hcd : (x == ("__classdict__" : Str)) = false := by decide)
    (he : starEach (e :: []) X.env = (false, eval e X.env) :: starEach [] X.env := by rfl)
    (hbase : attributeBase (.Name x px) "append" X.env (eval (.Name x px) X.env) = eval (.Name x px) X.env := by rfl)
    (hfew : ((backTo cpos (starEach (e :: []) X.env)).all (fun x => !x.1) && (backToKw cpos (keywordEach [] X.env)).all (fun x => x.1.isSome)
      && decide ((e :: []).length + ([] : List Keyword).length + (if ([] : List Keyword).isEmpty then 0 else 1) < 30)) = true := by rfl)
    (hline : (apos.endLine == cpos.line) = true := by rfl) (hplain : (backTo cpos (starEach [] X.env)).any (·.1) = false := by rfl)
    (hs : swapsWith (.Call (.Attribute (.Name x px) "append" apos) [e] [] cpos) none pos.line X.env = pure false := by rfl) :
    SS G X W (.Expr (.Call (.Attribute (.Name x px) "append" apos) [e] [] cpos) pos) (tDrop (tBM X.K "list" rAppend (tVar i) (tCons te tNil))) (sApp i fe) :=
  ss_app i hv hN hvis hd hcd he (pe_bm PySem.F.plainAttrs_list PySem.F.slot_list_append PySem.F.type_list_append mt_append (pe_var hN hvis hd hcd) (pa_cons hv.pe pa_nil he) hbase hfew hline he hplain) hs
section
variable {elt tg iter : Expr} {ifs : List Expr} {scope : Scope} {vs : List Nat} {wi : TI} {gg : TG} {tt : TT} {fi : Iv} {fg : D → List Sl → Option (List Sl)} {ft : Tv}
/-- y = [..], on one line, y a local: within the comprehension's frame -/
theorem ss_setLc {y : Str} {py cpos : Pos} (i : Nat) (own : List (Str × Nat)) (hv : own.map (·.2) = vs) (hN : X.N.Nodup) (hi : SI G X W tg iter wi fi) (ok : BlkOk X.N X.env.scope scope own)
    (hg : ∀ (s : Shared) (H : Hp) (C : Addr) (cl : List (Str × Addr)) (fp : List Addr), SG G (X.blk s H scope (compEnvC scope cl C X.env) fp) vs tg gg fg)
    (ht : ∀ (s : Shared) (H : Hp) (C : Addr) (cl : List (Str × Addr)) (fp : List Addr), SPt G (X.blk s H scope (compEnvC scope cl C X.env) fp) W0 ifs tt ft)
    (he : ∀ (s : Shared) (H : Hp) (C : Addr) (cl : List (Str × Addr)) (fp : List Addr), SE G (X.blk s H scope (compEnvC scope cl C X.env) fp) W0 elt te fe)
    (hc : X.calm = true := by rfl) (hy : X.N[i]? = some y := by rfl) (hyl : X.env.scope.names.lookup y = some .local := by rfl)
    (hsw : swapsWith (.ListComp elt [⟨tg, iter, ifs, 0⟩] scope cpos) (some (.Name y py)) pos.line X.env = pure true := by exact sw_true rfl rfl rfl (by decide +kernel))
    (hs : ∀ x, foldedSetIterable iter X.env x = pure x := by intro _; rfl) : SS G X W (.Assign [.Name y py] (.ListComp elt [⟨tg, iter, ifs, 0⟩] scope cpos) pos) (tAsg (tLc wi gg tt te vs) (gName i)) (sAsg (xLc fi fg ft fe vs) (gtN i)) := by
  subst hv
  exact ⟨hi.k, ps_setLc hc hN hy hyl hsw hi.pi ok (fun s H C cl fp => (hg s H C cl fp).pg) (fun s H C cl fp => (ht s H C cl fp).pt) (fun s H C cl fp => (he s H C cl fp).pe) hs,
    im_asg (vs := [i]) (im_lc hi.im (hg {} (fun _ => none) 0 [] []).im (ht {} (fun _ => none) 0 [] []).im (he {} (fun _ => none) 0 [] []).im).imp (im_gName i (by simp))⟩
theorem ss_ownLc {y : Str} {py cpos : Pos} (i : Nat) (own : List (Str × Nat)) (hv : own.map (·.2) = vs) (hN : X.N.Nodup) (hi : SI G X W tg iter wi fi) (ok : BlkOk X.N X.env.scope scope own)
    (hg : ∀ (s : Shared) (H : Hp) (C : Addr) (cl : List (Str × Addr)) (fp : List Addr), SG G (X.blk s H scope (compEnvC scope cl C X.env) fp) vs tg gg fg)
    (ht : ∀ (s : Shared) (H : Hp) (C : Addr) (cl : List (Str × Addr)) (fp : List Addr), SPt G (X.blk s H scope (compEnvC scope cl C X.env) fp) W0 ifs tt ft)
    (he : ∀ (s : Shared) (H : Hp) (C : Addr) (cl : List (Str × Addr)) (fp : List Addr), SE G (X.blk s H scope (compEnvC scope cl C X.env) fp) W0 elt te fe)
    (hc : X.calm = true := by rfl) (hy : X.N[i]? = some y := by rfl) (hyl : X.env.scope.names.lookup y = some .local := by rfl)
    (hsw : swapsWith (.ListComp elt [⟨tg, iter, ifs, 0⟩] scope cpos) (some (.Name y py)) pos.line X.env = pure true := by exact sw_true rfl rfl rfl (by decide +kernel))
    (hs : ∀ x, foldedSetIterable iter X.env x = pure x := by intro _; rfl) : SS G X W (.Assign [.Name y py] (.ListComp elt [⟨tg, iter, ifs, 0⟩] scope cpos) pos) (tAsg (tLc wi gg tt te vs) (gName i)) (sOwn (xLc fi fg ft fe vs) i) := by
  subst hv
  exact ⟨hi.k, ps_setLc hc hN hy hyl hsw hi.pi ok (fun s H C cl fp => (hg s H C cl fp).pg) (fun s H C cl fp => (ht s H C cl fp).pt) (fun s H C cl fp => (he s H C cl fp).pe) hs,
    im_own (im_lc hi.im (hg {} (fun _ => none) 0 [] []).im (ht {} (fun _ => none) 0 [] []).im (he {} (fun _ => none) 0 [] []).im)⟩
end

/-! ## 17. in; lists and tuples of ranges -/
def D.flat : D → Bool
  | .non => true
  | .bl _ => true
  | .int _ => true
  | .str _ => true
  | _ => false
theorem flat_rep {K : PySem.W.Frag} {M : Hp} {v : V} {d : D} (r : Rep K M v d) (h : d.flat = true) : flatV v = true := by
  cases r <;> first | rfl | simp [D.flat] at h
theorem eqv_flat {K : PySem.W.Frag} {M : Hp} {v w : V} {d e : D} (r : Rep K M v d) (r2 : Rep K M w e) (h : d.flat = true) (h2 : e.flat = true) : eqV v w = d.eqv e := by
  cases r <;> first | (simp [D.flat] at h; done) | skip
  all_goals cases r2 <;> first | (simp [D.flat] at h2; done) | rfl | simp [eqV, D.eqv]
theorem inV_flat {K : PySem.W.Frag} {M : Hp} {v : V} {d : D} (r : Rep K M v d) (h : d.flat = true) : ∀ {vs : List V} {ds : List D}, Reps K M vs ds → ds.all D.flat = true → (inV v vs = ds.any fun y => D.eqv y d) ∧ vs.all flatV = true
  | [], [], _, _ => ⟨rfl, rfl⟩
  | [], _ :: _, rs, _ => by have := rs.1; simp at this
  | _ :: _, [], rs, _ => by have := rs.1; simp at this
  | w :: vs, e :: ds, rs, hf => by
    obtain ⟨r1, r2⟩ := Reps.tail rs
    simp only [List.all_cons, Bool.and_eq_true] at hf
    obtain ⟨i1, i2⟩ := inV_flat r h r2 hf.2
    refine ⟨?_, by simp [flat_rep r1 hf.1, i2]⟩
    show (eqV w v || inV v vs) = _
    rw [i1, eqv_flat r1 r hf.1 h]
    simp
def gIn (neg : Bool) : D → D → Option D
  | x, .lst l => if x.lay 63 && D.layL 63 l then some (.bl (if neg then !(l.any fun y => D.eqv y x) else l.any fun y => D.eqv y x)) else none
  | x, .tup l => if x.flat && l.all D.flat then some (.bl (if neg then !(l.any fun y => D.eqv y x) else l.any fun y => D.eqv y x)) else none
  | _, _ => none
theorem any_py : ∀ (ds : List D) (d : D), D.layL 63 ds = true → d.lay 63 = true → ((D.pyL ds).any fun z => PyData.eqv z d.py) = ds.any fun y => D.eqv y d
  | [], d, _, _ => rfl
  | x :: xs, d, h, hd => by
    have h' : x.lay 63 = true ∧ D.layL 63 xs = true := by simpa [D.layL] using h
    simp only [D.pyL, List.any_cons]
    rw [py_eqv 63 63 x d h'.1 hd, any_py xs d h'.2 hd]
mutual
theorem lay_up : ∀ (d : D) (n : Nat), d.lay n = true → d.lay (n + 1) = true
  | .non, _, _ => rfl
  | .bl _, _, _ => rfl
  | .int _, _, _ => rfl
  | .str x, n, h => by simpa [D.lay] using h
  | .lst l, 0, h => by simp [D.lay] at h
  | .lst l, n + 1, h => by
    have h' : D.layL n l = true := by simpa [D.lay] using h
    show D.layL (n + 1) l = true
    exact lay_upL l n h'
  | .tup l, 0, h => by simp [D.lay] at h
  | .tup l, n + 1, h => by
    have h' : D.layL n l = true := by simpa [D.lay] using h
    show D.layL (n + 1) l = true
    exact lay_upL l n h'
  | .dic _ _, _, h => by simp [D.lay] at h
  | .scr _, _, h => by simp [D.lay] at h
theorem lay_upL : ∀ (l : List D) (n : Nat), D.layL n l = true → D.layL (n + 1) l = true
  | [], _, _ => rfl
  | x :: xs, n, h => by
    have h' : x.lay n = true ∧ D.layL n xs = true := by simpa [D.layL] using h
    simp [D.layL, lay_up x n h'.1, lay_upL xs n h'.2]
end
abbrev rInX (K : PySem.W.Frag) : R2 := fun x y H Q => rIn K false x y H Q ∨ rInD K x y H Q
abbrev rNotInX (K : PySem.W.Frag) : R2 := fun x y H Q => rIn K true x y H Q ∨ rNotInD K x y H Q
theorem oIn (hu : X.A.units + 64 < cLine) (hu2 : X.A.units + 65 < cLine) (k : X.K = G.K := by rfl) : OpR X (compareOp .In) (rInX G.K) := by
  have h := (@op_in_seq X).or (@op_inD X hu2)
  rw [k] at h
  exact h
theorem oNotIn (hu : X.A.units + 64 < cLine) (hu2 : X.A.units + 65 < cLine) (k : X.K = G.K := by rfl) : OpR X (compareOp .NotIn) (rNotInX G.K) := by
  have h := (@op_notIn_seq X).or (@op_notInD X hu2)
  rw [k] at h
  exact h
theorem in_rd {O : Addr → Prop} {M : Hp} {σ : L2.St} {H : Hp} {ρ : List Sl} {x y : V} {dx dy d : D} {neg : Bool} (k : Ok G O M σ H ρ) (rx : Rep G.K M x dx) (ry : Rep G.K M y dy) (h : gIn neg dx dy = some d) :
    (∃ p xs, y = .ref p ∧ (SqL G.K H p xs ∨ SqT G.K H p xs) ∧ flatV x = true ∧ xs.all flatV = true ∧ d = .bl (if neg then !inV x xs else inV x xs)) ∨
    ∃ dd ds, Dp G.K H x dd ∧ Dp G.K H y (.list ds) ∧ SeqAt.shaped dd = true ∧ SeqAt.shaped (.list ds) = true ∧ d = .bl (if neg then !(ds.any fun z => PyData.eqv z dd) else ds.any fun z => PyData.eqv z dd) := by
  cases dy with
  | lst l =>
    simp only [gIn] at h
    split at h
    · rename_i z
      cases h
      rw [Bool.and_eq_true] at z
      have z3 : (D.lst l).lay 64 = true := by simpa [D.lay] using z.2
      refine .inr ⟨dx.py, D.pyL l, dp_of k.sub 63 dx x z.1 rx, dp_of k.sub 64 (.lst l) y z3 ry, shaped_py (lay_up dx 63 z.1), shaped_py z3, ?_⟩
      rw [any_py l dx z.2 z.1]
    · cases h
  | tup l =>
    simp only [gIn] at h
    split at h
    · rename_i z
      cases h
      rw [Bool.and_eq_true] at z
      cases ry with
      | @tup p vs _ e l1 r1 =>
        obtain ⟨i1, i2⟩ := inV_flat rx z.1 ⟨l1, r1⟩ z.2
        exact .inl ⟨p, vs, rfl, .inr (SqT.of (k.sub _ _ e)), flat_rep rx z.1, i2, by rw [i1]⟩
    · cases h
  | _ => simp [gIn] at h
theorem sIn : OpS G (rInX G.K) (gIn false) := by
  intro O M σ H ρ x y dx dy d Q k rx ry h q
  rcases in_rd k rx ry h with ⟨p, xs, rfl, hs, f1, f2, rfl⟩ | ⟨dd, ds, d1, d2, s1, s2, rfl⟩
  · exact .inl ⟨p, xs, rfl, hs, f1, f2, fin_old k (.bl _) q⟩
  · exact .inr ⟨dd, ds, d1, d2, s1, s2, fin_old k (.bl _) q⟩
theorem sNotIn : OpS G (rNotInX G.K) (gIn true) := by
  intro O M σ H ρ x y dx dy d Q k rx ry h q
  rcases in_rd k rx ry h with ⟨p, xs, rfl, hs, f1, f2, rfl⟩ | ⟨dd, ds, d1, d2, s1, s2, rfl⟩
  · exact .inl ⟨p, xs, rfl, hs, f1, f2, fin_old k (.bl _) q⟩
  · exact .inr ⟨dd, ds, d1, d2, s1, s2, fin_old k (.bl _) q⟩
/-- list(range(..)), tuple(range(..)) -/
theorem rg_reps {M : Hp} (i j : Int) : Reps G.K M (rgV i j) (rangeD i (j - i).toNat) := by
  refine ⟨by rw [rgV_length, rangeD_len], fun k v d h1 h2 => ?_⟩
  rw [rangeD_get _ _ _ _ h2]
  unfold rgV at h1
  rw [List.getElem?_map] at h1
  obtain ⟨m, hm, rfl⟩ := Option.map_eq_some_iff.mp h1
  have := (List.getElem?_eq_some_iff.mp hm)
  obtain ⟨h3, h4⟩ := this
  rw [List.getElem_range] at h4
  subst h4
  exact .int _
def rgOk (i j : Int) : Bool := inR i && inR j && Nat.ble (j - i).toNat 16777216
theorem rgOk_ok {i j : Int} (h : rgOk i j = true) : RgOk i j := by
  unfold rgOk at h
  rw [Bool.and_eq_true, Bool.and_eq_true] at h
  have h1 := inR_ok h.1.1
  have h2 := inR_ok h.1.2
  have h3 := Nat.le_of_ble_eq_true h.2
  exact ⟨h1.1, h1.2, h2.1, h2.2, by omega⟩
def gLRg1 : D → Option D
  | .int n => if rgOk 0 n then some (.lst (rangeD 0 n.toNat)) else none
  | _ => none
def gTRg1 : D → Option D
  | .int n => if rgOk 0 n then some (.tup (rangeD 0 n.toNat)) else none
  | _ => none
def gLRg2 : D → D → Option D
  | .int i, .int j => if rgOk i j then some (.lst (rangeD i (j - i).toNat)) else none
  | _, _ => none
def gTRg2 : D → D → Option D
  | .int i, .int j => if rgOk i j then some (.tup (rangeD i (j - i).toNat)) else none
  | _, _ => none
theorem sn_lrg1 {p p2 pos2 : Pos} (ha : SE G X W a ta fa) (hml : X.mg "list" = none) (hmr : X.mg "range" = none) (hc : X.calm = true := by rfl) (hgl : Gl X "list" := by rfl) (hgr : Gl X "range" := by rfl)
    (na : starEach [a] X.env = (false, eval a X.env) :: starEach [] X.env := by rfl) (na2 : starEach [.Call (.Name "range" p2) [a] [] pos2] X.env = (false, eval (.Call (.Name "range" p2) [a] [] pos2) X.env) :: starEach [] X.env := by rfl) :
    SN G X W (.Call (.Name "list" p) [.Call (.Name "range" p2) [a] [] pos2] [] pos) (tLstRg (tRg1 ta)) (xUn gLRg1 fa) := by
  refine ⟨ha.k, pe_listRg hc hgl hml (prg_1 hgr hmr ha.pe na) na2, fun O M σ H ρ Q ok h => ?_⟩
  refine ha.im.bindN ok h fun x dx ρ1 M1 H1 ok1 s1 r1 h1 => ?_
  cases r1 with
  | int n =>
    simp only [gLRg1] at h1
    split at h1
    · rename_i z
      refine ⟨n, rfl, rgOk_ok z, fun q hq => PostN.here ok1 h1 hq (.lst ?_)⟩
      have := rg_reps (G := G) (M := M1) 0 n
      rw [Int.sub_zero] at this
      exact this
    · exact h1.elim
  | _ => exact h1.elim
theorem se_trg1 {p p2 pos2 : Pos} (ha : SE G X W a ta fa) (hml : X.mg "tuple" = none) (hmr : X.mg "range" = none) (hc : X.calm = true := by rfl) (hgl : Gl X "tuple" := by rfl) (hgr : Gl X "range" := by rfl)
    (na : starEach [a] X.env = (false, eval a X.env) :: starEach [] X.env := by rfl) (na2 : starEach [.Call (.Name "range" p2) [a] [] pos2] X.env = (false, eval (.Call (.Name "range" p2) [a] [] pos2) X.env) :: starEach [] X.env := by rfl) :
    SE G X W (.Call (.Name "tuple" p) [.Call (.Name "range" p2) [a] [] pos2] [] pos) (tTupRg (tRg1 ta)) (xUn gTRg1 fa) := by
  refine ⟨ha.k, pe_tupRg hc hgl hml (prg_1 hgr hmr ha.pe na) na2, fun O M σ H ρ Q ok h => ?_⟩
  refine ha.im.bind ok h fun x dx ρ1 M1 H1 ok1 s1 r1 h1 => ?_
  cases r1 with
  | int n =>
    simp only [gTRg1] at h1
    split at h1
    · rename_i z
      have := rg_reps (G := G) (M := M1) 0 n
      rw [Int.sub_zero] at this
      exact ⟨n, rfl, rgOk_ok z, fin_newT ok1 this h1⟩
    · exact h1.elim
  | _ => exact h1.elim
end
theorem fn_none {G : Gx} {P : Program} {w : World} {mg : Str → Option Value} {base : Heap} {CXX : CXT} {k : Nat} {f : Addr} {fd : FuncData} {ps : List Str} : FnOk P w G.K mg base CXX k f fd ps (spF G fun _ => .no) :=
  ⟨fun vs H Q E ⟨_, _, _, _, h⟩ => h.elim, fun A outer s H args us vs Q E _ _ _ _ ⟨_, _, _, _, h⟩ => h.elim⟩
end Sm
namespace Sm
open PySem PySem.Spec PyProof.Rows L2
theorem hu65 {k : Nat} {A : Around} (hr : Room k A) : A.units + 65 < cLine := by have := hr.un; omega
/-- the end of a law: the law's def answers true at each script -/
theorem walk_sm {l : PySem.W.OpenLaw} {n k : Nat} {q : Program} {loose : List Str} {XP : (Str → Option Value) → Heap → Prop} {YP : World → Heap → Prop} {d : DefRec} {K : Params → PySem.W.Frag} {x : Str} (f : List D → R D)
    (hn : l.most = some n) (hn2 : n ≤ sizeLine) (hdf : d.params.defaults = []) (hr : Room k callerA)
    (hY : ∀ (w : World) (h : Heap), YP w h → (K w.params).In h) (hf : ∀ ns : List Int, ns.length ≤ n → f [.scr ns] = .ok (.bl true))
    (F : ∀ (w : World) (mg : Str → Option Value) (fa : Addr) (h : Heap), (K w.params).In h → h.Ns mainGlobals mg → mg d.name = some (.ref fa) →
      ∃ (fd : FuncData) (xc : Nat → Nat), (∀ (s : Shared) (u : Value), BindsTo s fd ⟨[u], []⟩ [(x, u)]) ∧
        ∀ base : Heap, (K w.params).In base → base.Ns mainGlobals mg → FnOk l.prog w (K w.params) mg base (L2.CX l.prog w) k fa fd [x] (spF ⟨K w.params, xc, fun _ => True⟩ f)) :
    PySem.W.WalkO q loose XP YP l.row.toRowW d [] (fun f vs => PySem.call f vs) := by
  refine Att.attach_call hn hdf fun w s₀ s₁ mg mb fa o pm cd doc a vs ns G Y ho hd hcd hmg hobj hints hlen hg => ?_
  have KX := hY w _ Y
  obtain ⟨fd, xc, hb, hF⟩ := F w mg fa _ KX G.T.g hmg
  refine law_call KX G.T.g G.T.b G.T.builtins G.T.nolimit hg hobj hints (Nat.le_trans hlen hn2) hr hF hb (fun H hO hS => ?_) fun H e s' ⟨_, _, _, _, _, _, _, _, _, _, _, _, z⟩ => z
  refine ⟨H, [.scr ns], fun _ _ e => e, Reps.cons (.scr hS) .nil, ?_⟩
  rw [hf ns hlen]
  intro v M' H' _ _ r
  cases r
  rfl
end Sm
namespace Sm
open PySem PySem.Spec PyProof.Rows L2
/-- x[::-1] -/
def gRev : D → Option D
  | .lst l => some (.lst l.reverse)
  | .tup l => some (.tup l.reverse)
  | _ => none
/-- range(i, j, k) with k > 0 or k < 0 -/
def rangeK (k : Int) : Int → Nat → List D
  | _, 0 => []
  | lo, n + 1 => .int lo :: rangeK k (lo + k) n
def cnt3 (i j k : Int) : Nat := if 0 < k then ((j - i + k - 1) / k).toNat else ((i - j - k - 1) / (-k)).toNat
def xRng3 (a b c : Ev) : Iv := fun ρ => (a ρ).bnd fun x ρ1 => (b ρ1).bnd fun y ρ2 => (c ρ2).bnd fun z ρ3 => match x, y, z with
  | .int i, .int j, .int k => if inR i && inR j && inR k && decide (k ≠ 0) then .ok (rangeK k i (cnt3 i j k), ρ3) else .no
  | _, _, _ => .no
def enumD : Int → List D → List D
  | _, [] => []
  | i, x :: xs => .tup [.int i, x] :: enumD (i + 1) xs
def xEnum (a : Ev) : Iv := fun ρ => (a ρ).bnd fun x ρ1 => match iOf x with
  | some l => .ok (enumD 0 l, ρ1)
  | none => .no
end Sm
set_option maxHeartbeats 4000000
namespace Sm
open PySem PySem.Spec PyProof.Rows L2 HT
section
variable {prog : Program} {w : World} {A : Around} {E : Value → Shared → Prop} {s : Shared}
theorem adjust_rev (n : Nat) : Builtin.Slice.sliceAdjust none none (-1) (n : Int) = ((n : Int) - 1, -1) := by
  unfold Builtin.Slice.sliceAdjust
  simp
theorem places_rev (n : Nat) : Builtin.Slice.slicePlaces ((n : Int) - 1) (-1) (-1) = n := by
  unfold Builtin.Slice.slicePlaces
  simp
  omega
theorem sliceApplied_rev {sl : Addr} {vl vu vs : Value} {n : Nat} {Q : Int × Int × Nat → Shared → Prop} (hs : s.heap.IsSliceOf sl vl vu vs) (pl : IsPart vl none) (pu : IsPart vu none) (ps : IsPart vs (some (-1)))
    (h : Q ((n : Int) - 1, -1, n) s) : wpAny (model prog w) A (Builtin.Slice.sliceApplied (.ref sl) (pure (n : Int))) Q E s := by
  obtain ⟨os, hos, hcs, hds⟩ := id hs
  unfold Builtin.Slice.sliceApplied Builtin.Slice.sliceFields
  refine wpAny_bind (wpAny_bind (wpAny_field hos hds (x := vl) rfl (wpAny_bind (wpAny_field hos hds (x := vu) rfl (wpAny_bind (wpAny_field hos hds (x := vs) rfl (wpAny_pure ?_)))))))
  refine wpAny_bind (slicePart_ ps ?_)
  show wpAny _ _ (if ((-1 : Int) == 0) = true then _ else _) _ _ s
  rw [if_neg (by decide)]
  refine wpAny_bind (slicePart_ pl (wpAny_bind (slicePart_ pu (wpAny_bind (wpAny_pure ?_)))))
  show wpAny _ _ (match Builtin.Slice.sliceAdjust none none (-1) (n : Int) with | (lo, hi) => pure (lo, (-1 : Int), Builtin.Slice.slicePlaces lo hi (-1))) _ _ s
  rw [adjust_rev n]
  show wpAny _ _ (pure ((n : Int) - 1, (-1 : Int), Builtin.Slice.slicePlaces ((n : Int) - 1) (-1) (-1))) _ _ s
  rw [places_rev]
  exact wpAny_pure h
theorem fm_map {α β : Type} (f : α → Option β) (g : α → β) : ∀ l : List α, (∀ x ∈ l, f x = some (g x)) → l.filterMap f = l.map g
  | [], _ => rfl
  | x :: l, h => by
    rw [List.filterMap_cons, h x (by simp), List.map_cons, fm_map f g l fun y hy => h y (by simp [hy])]
theorem pick_rev (xs : Array Value) : ((List.range xs.size).filterMap fun (k : Nat) => xs[((xs.size : Int) - 1 + (k : Int) * (-1)).toNat]?).toArray = xs.toList.reverse.toArray := by
  congr 1
  refine List.ext_getElem? fun i => ?_
  have : (List.range xs.size).filterMap (fun (k : Nat) => xs[((xs.size : Int) - 1 + (k : Int) * (-1)).toNat]?) = (List.range xs.size).map (fun (k : Nat) => xs.getD (xs.size - 1 - k) .none) := by
    refine fm_map _ _ _ fun k hk => ?_
    have := List.mem_range.mp hk
    rw [show ((xs.size : Int) - 1 + (k : Int) * (-1)).toNat = xs.size - 1 - k by omega]
    rw [Array.getD_eq_getD_getElem?, Array.getElem?_eq_getElem (by omega)]
    rfl
  rw [this, List.getElem?_map]
  by_cases h : i < xs.size
  · rw [List.getElem?_range h]
    rw [List.getElem?_reverse (by simpa using h)]
    simp only [Option.map_some, Array.length_toList]
    rw [Array.getD_eq_getD_getElem?, Array.getElem?_eq_getElem (by omega), List.getElem?_eq_getElem (by simp; omega)]
    simp
  · rw [List.getElem?_eq_none (by simp; omega), List.getElem?_eq_none (by simp; omega)]
    rfl
theorem getItem_tuple_rev {t sl : Addr} {items : Array Value} {vl vu vs : Value} {Q : Value → Shared → Prop} (ht : IsTup s.heap t items) (hs : s.heap.IsSliceOf sl vl vu vs) (pl : IsPart vl none) (pu : IsPart vu none) (ps : IsPart vs (some (-1)))
    (h : Q (.ref s.heap.objs.size) { s with heap := s.heap.push { cls := .type "tuple", data := .seq items.toList.reverse.toArray } })
    (hsz : items.size ≤ sizeLine) : wpAny (model prog w) A (getItem (.ref t) (.ref sl)) Q E s := by
  have htake : sizeOk (.seq items.toList.reverse.toArray) := by
    show items.toList.reverse.toArray.size ≤ sizeLine
    rw [List.size_toArray, List.length_reverse, Array.length_toList]
    exact hsz
  obtain ⟨os, hos, hcs, hds⟩ := id hs
  have hTs : s.TypeIs (.ref sl) "slice" := ⟨os, hos, hcs⟩
  unfold getItem
  try with_reducible refine wpAny_holding ?_
  first | refine wpAny_bind (wpAny_pure ?_) | skip
  refine wpAny_bind (wpAny_sequenceKey ht.typeIs (by decide) ?_)
  refine wpAny_bind (wpAny_callSpecial?_slot (name := Str.ofString "__getitem__") ht.typeIs PyProof.Rows.slot_tuple_getitem
    (wpAny_call_entry PyProof.Rows.slot_tuple_getitem ht.typeIs entry_tuple_getitem ?_ (args_tuple_getitem _ _)))
  show wpAny _ _ (Builtin.Tuple.tupleItemsOf (.ref t) >>= _) _ _ s
  refine wpAny_bind (tupleItemsOf_ ht ?_)
  refine wpAny_bind (wpAny_typeOf hTs ?_)
  rw [if_pos (by decide)]
  refine wpAny_bind (sliceApplied_rev hs pl pu ps ?_)
  have hno : ¬ ((((items.size : Int) - 1) == 0 && (-1 : Int) == 1 && items.size == items.size) = true) := by
    rw [show ((-1 : Int) == 1) = false from rfl]
    simp
  show wpAny _ _ (if (((items.size : Int) - 1) == 0 && (-1 : Int) == 1 && items.size == items.size) = true then _ else _) _ _ s
  rw [if_neg hno, pick_rev]
  first
    | exact wpAny_bind (m := Builtin.Tuple.tupleExact _) (wpAny_newObj_type (wpAny_pure ⟨_, rfl, wpAny_pure h⟩) htake)
    | exact wpAny_bind (m := Builtin.Tuple.tupleExact _) (wpAny_newObj_type (wpAny_bind (wpAny_pure (wpAny_pure ⟨_, rfl, wpAny_pure h⟩))) htake)
    | exact wpAny_bind (wpAny_bind (m := Builtin.Tuple.tupleExact _) (wpAny_newObj_type (wpAny_pure (wpAny_pure ⟨_, rfl, wpAny_pure h⟩)) htake))
    | exact wpAny_bind (wpAny_bind (m := Builtin.Tuple.tupleExact _) (wpAny_newObj_type (wpAny_pure ⟨_, rfl, wpAny_pure h⟩) htake))
end
section
variable {X : Cx} {e : Expr} {te : TE} {k : Nat} {p1 p2 p3 pos : Pos}
def tRevX (K : PySem.W.Frag) (te : TE) : TE := fun σ H Q => te σ H fun x H1 => ∃ a xs, x = .ref a ∧ ((SqL K H1 a xs ∧ ∀ p, H1 p = none → Q (.ref p) (upd H1 p (.lst xs.reverse))) ∨ (SqT K H1 a xs ∧ ∀ p, H1 p = none → Q (.ref p) (upd H1 p (.tup xs.reverse))))
/-- x[::-1] of a list or a tuple -/
theorem pe_revX (he : PE X e te) : PE X (.Subscript e (.Slice none none (some (.UnaryOp .USub (.Constant (.int 1) k p1) p2)) p3) pos) (tRevX X.K te) := by
  refine ⟨fun pins s σ H Q I h => ?_⟩
  refine Subscript_ (thn (he.run pins s σ H _ I h) fun v s1 ⟨x, H1, I1, r1, q1⟩ => ?_)
  obtain ⟨a, xs, ex, q⟩ := q1
  subst ex
  cases r1
  have hst : PO X (some (.UnaryOp .USub (.Constant (.int 1) k p1) p2)) (tPart (tUn (rU fun i => .int (-i)) (tC (.int 1)))) := po_some (pe_un un_neg pe_int)
  refine wpAny_Slice (thn (po_none.run pins s1 σ H1 (fun o H2 => o = none ∧ H2 = H1) I1 ⟨rfl, rfl⟩) fun vl s2 ⟨l, H2, I2, pl, el, e2⟩ => ?_)
  subst el e2
  refine thn (po_none.run pins s2 σ H2 (fun o H3 => o = none ∧ H3 = H2) I2 ⟨rfl, rfl⟩) fun vu s3 ⟨u, H3, I3, pu, eu, e3⟩ => ?_
  subst eu e3
  refine thn (hst.run pins s3 σ H3 (fun o H4 => o = some (-1) ∧ H4 = H3) I3 ⟨1, rfl, -1, rfl, rfl, rfl⟩) fun vs s4 ⟨o, H4, I4, ps, eo, e4⟩ => ?_
  subst eo e4
  have I5 : Inv X pins σ H4 { s4 with heap := s4.heap.push { cls := .type "slice", data := .fields #[vl, vu, vs] } } := I4.kept (t' := s4.toks) fun b ob q => Heap.get?_push_of_some _ q
  show wpAny (model X.prog X.w) X.A (subscriptTail e (.Slice none none (some (.UnaryOp .USub (.Constant (.int 1) k p1) p2)) p3) (.ref a) (.ref s4.heap.objs.size)) (EP X pins σ Q) X.xe { s4 with heap := s4.heap.push { cls := .type "slice", data := .fields #[vl, vu, vs] } }
  rcases q with ⟨hx, q⟩ | ⟨hx, q⟩
  · obtain ⟨its, r, ht, hz⟩ := I5.list hx
    have hlen := r.length
    refine tail_any (ops := [.ref a, .ref s4.heap.objs.size]) ht.isList.typeIs (PySem.slot_list_getitem.lookup) ?_ (by with_unfolding_all rfl)
    refine wpAny_getItem_list_slice ht.isList (Heap.IsSliceOf.new _ vl vu vs) pl pu ps (by decide) ?_ (by rw [List.size_toArray]; omega)
    rw [PySem.W.krv_pick]
    refine ⟨.ref _, _, I5.laid (t' := s4.toks) (o := .lst xs.reverse) (fun b ob q => Heap.get?_push_of_some _ q) (Nat.le_refl _) ?_, rfl, q _ (I5.hok.fresh (Nat.le_refl _))⟩
    exact ⟨by rw [List.length_reverse]; exact hz, _, 0, r.reverse, Heap.get?_push_size _ rfl⟩
  · obtain ⟨its, r, ht, hz⟩ := I5.tuple hx
    have hlen := r.length
    refine tail_any (ops := [.ref a, .ref s4.heap.objs.size]) ht.typeIs (PyProof.Rows.slot_tuple_getitem.lookup) ?_ (by with_unfolding_all rfl)
    refine getItem_tuple_rev ht (Heap.IsSliceOf.new _ vl vu vs) pl pu ps ?_ (by rw [List.size_toArray]; omega)
    refine ⟨.ref _, _, I5.laid (t' := s4.toks) (o := .tup xs.reverse) (fun b ob q => Heap.get?_push_of_some _ q) (Nat.le_refl _) ?_, rfl, q _ (I5.hok.fresh (Nat.le_refl _))⟩
    exact ⟨by rw [List.length_reverse]; exact hz, _, r.reverse, IsTup.new _ _⟩
end
section
variable {G : Gx} {X : Cx} {W : WX} {a : Expr} {ta : TE} {fa : Ev}
theorem Reps.rev {K : PySem.W.Frag} {M : Hp} {vs : List V} {ds : List D} (r : Reps K M vs ds) : Reps K M vs.reverse ds.reverse := by
  refine ⟨by simp [r.1], fun i v d h1 h2 => ?_⟩
  have hi : i < vs.length := by have := (List.getElem?_eq_some_iff.mp h1).1; simpa using this
  rw [List.getElem?_reverse hi] at h1
  rw [List.getElem?_reverse (by rw [← r.1]; exact hi), ← r.1] at h2
  exact r.2 _ v d h1 h2
theorem se_rev {k : Nat} {p1 p2 p3 pos : Pos} (ha : SW G X W a ta fa) : SE G X W (.Subscript a (.Slice none none (some (.UnaryOp .USub (.Constant (.int 1) k p1) p2)) p3) pos) (tRevX G.K ta) (xUn gRev fa) := by
  refine ⟨ha.k, ?_, fun O M σ H ρ Q ok h => ?_⟩
  · have h := pe_revX (k := k) (p1 := p1) (p2 := p2) (p3 := p3) (pos := pos) ha.pe
    rw [ha.k] at h
    exact h
  · refine ha.im.bind ok h fun x dx ρ1 M1 H1 ok1 s1 r1 h1 => ?_
    cases dx with
    | lst l =>
      obtain ⟨p, vs, rfl, e, r⟩ := wLst ok1 r1
      exact ⟨p, vs, rfl, .inl ⟨SqL.of e, fin_new ok1 (.lst r.rev) h1⟩⟩
    | tup l =>
      obtain ⟨_, p, vs, rfl, e, r⟩ := wTup ok1 r1
      exact ⟨p, vs, rfl, .inr ⟨SqT.of e, fin_newT ok1 r.rev h1⟩⟩
    | _ => exact h1.elim
end
end Sm
namespace LB
open PySem PySem.Spec PyProof.Rows L2 Sm
def b__law_break : Sv := (sSeq (sFor (xRng1 (xUn gLen (xVar 0))) (gtN 2) (sFor (xRng1 (xVar 2)) (gtN 3) (sIf (tvAnd (tvOf (xOp gEq (xOp gMod (xUn gInt (xOp gSub (xVar 2) (xVar 3))) (xVar 1)) (xC (.int 0)))) (tvOf (xOp gNe (xOp gMod (xUn gInt (xOp gSub (xOp gIdx (xVar 0) (xVar 2)) (xOp gIdx (xVar 0) (xVar 3)))) (xVar 1)) (xC (.int 0))))) (sRet (xTup (xCons (xVar 1) (xCons (xVar 3) (xCons (xVar 2) xNil))))) sNx)))
    (sRet (xC .non)))
def f__law_break : List D → R D := mkFn 2 4 b__law_break
def b__law_common_2 : Sv := (sRet (xUn gMax (xLc (xRng2 (xC (.int 1)) (xOp gAdd (xVar 0) (xC (.int 1)))) (gtN 2) (tvAnd (tvOf (xOp gEq (xOp gMod (xUn gInt (xVar 0)) (xVar 2)) (xC (.int 0)))) (tvOf (xOp gEq (xOp gMod (xUn gInt (xVar 1)) (xVar 2)) (xC (.int 0))))) (xVar 2) [2])))
def f__law_common_2 : List D → R D := mkFn 2 3 b__law_common_2
def b__law_divisors : Sv := (sRet (xLc (xRng2 (xC (.int 1)) (xOp gAdd (xVar 0) (xC (.int 1)))) (gtN 1) (tvOf (xOp gEq (xOp gMod (xUn gInt (xVar 0)) (xVar 1)) (xC (.int 0)))) (xVar 1) [1]))
def f__law_divisors : List D → R D := mkFn 1 2 b__law_divisors
def b__law_every : Sv := (sSeq (sAsg (xLst (xCons (xTup xNil) xNil)) (gtN 1))
    (sSeq (sFor (xRng1 (xVar 0)) (gtN 2) (sSeq (sAsg (xLst xNil) (gtN 3))
    (sSeq (sFor (xIt (xVar 1)) (gtN 4) (sAsg (xOp gAdd (xVar 3) (xLc (xRng1 (xVar 0)) (gtN 5) tvYes (xOp gAdd (xVar 4) (xTup (xCons (xVar 5) xNil))) [5])) (gtN 3)))
    (sAsg (xVar 3) (gtN 1)))))
    (sRet (xVar 1))))
def f__law_every : List D → R D := mkFn 1 6 b__law_every
def b__law_first_2 : Sv := (sSeq (sAsg (xLc (xIt (xCall f__law_divisors (xCons (xVar 0) xNil))) (gtN 3) tvYes (xCall f__law_break (xCons (xVar 1) (xCons (xVar 3) xNil))) [3]) (gtN 2))
    (sRet (xOp gIdx (xOp gAdd (xLc (xIt (xVar 2)) (gtN 4) (tvOf (xUn gNotN (xVar 4))) (xVar 4) [4]) (xLst (xCons (xC .non) xNil))) (xC (.int 0)))))
def f__law_first_2 : List D → R D := mkFn 2 5 b__law_first_2
def b__law_multiple : Sv := (sSeq (sAsg (xC (.int 1)) (gtN 1))
    (sSeq (sFor (xRng2 (xC (.int 1)) (xOp gAdd (xVar 0) (xC (.int 1)))) (gtN 2) (sAsg (xOp gDiv (xOp gMul (xVar 1) (xVar 2)) (xCall f__law_common_2 (xCons (xVar 2) (xCons (xVar 1) xNil)))) (gtN 1)))
    (sRet (xVar 1))))
def f__law_multiple : List D → R D := mkFn 1 3 b__law_multiple
def b__law_gauges : Sv := (sSeq (sOwn (xLst xNil) 1)
    (sSeq (sFor (xRng1 (xOp gAdd (xVar 0) (xC (.int 1)))) (gtN 2) (sSeq (sAsg (xCall f__law_common_2 (xCons (xVar 0) (xCons (xCall f__law_multiple (xCons (xVar 2) xNil)) xNil))) (gtN 3))
    (sSeq (sIf (tvOf (xOp gEq (xVar 3) (xVar 0))) (fun ρ => .bk ρ) sNx)
    (sApp 1 (xVar 3)))))
    (sSeq (sFre 1) (sRet (xVar 1)))))
def f__law_gauges : List D → R D := mkFn 1 4 b__law_gauges
def b__law_is_keeping : Sv := (sSeq (sFor (xRng1 (xVar 0)) (gtN 2) (sFor (xRng1 (xVar 2)) (gtN 3) (sIf (tvOf (xOp gNe (xLc (xRng2 (xC (.int 1)) (xVar 0)) (gtN 4) (tvAnd (tvOf (xOp gEq (xOp gMod (xUn gInt (xVar 0)) (xVar 4)) (xC (.int 0)))) (tvAnd (tvOf (xOp gEq (xOp gMod (xUn gInt (xOp gSub (xVar 2) (xVar 3))) (xVar 4)) (xC (.int 0)))) (tvOf (xOp gNe (xOp gMod (xUn gInt (xOp gSub (xOp gIdx (xVar 1) (xVar 2)) (xOp gIdx (xVar 1) (xVar 3)))) (xVar 4)) (xC (.int 0)))))) (xVar 4) [4]) (xLst xNil))) (sRet (xC (.bl false))) sNx)))
    (sRet (xC (.bl true))))
def f__law_is_keeping : List D → R D := mkFn 2 5 b__law_is_keeping
def b__law_is_round : Sv := (sSeq (sPar [1, 2] (mFro (xOp gIdx (xVar 0) (xC (.int 0))) (mFro (xC (.int 1)) mNil)))
    (sSeq (sFor (xRng1 (xUn gLen (xVar 0))) (gtN 3) (sAsg (xIte (tvOf (xOp gEq (xVar 1) (xC (.int 0)))) (xTup (xCons (xVar 1) (xCons (xVar 2) xNil))) (xTup (xCons (xOp gIdx (xVar 0) (xVar 1)) (xCons (xOp gAdd (xVar 2) (xC (.int 1))) xNil)))) (gtT 2 (gsC (gtN 1) (gsC (gtN 2) gsN)))))
    (sRet (xAnd (xOp gEq (xVar 1) (xC (.int 0))) (xOp gEq (xVar 2) (xUn gLen (xVar 0)))))))
def f__law_is_round : List D → R D := mkFn 1 4 b__law_is_round
def b__law_joined : Sv := (sSeq (sOwn (xLst xNil) 4)
    (sSeq (sFor (xRng1 (xOp gMul (xVar 2) (xVar 3))) (gtN 5) (sSeq (sAsg (xLc (xRng1 (xOp gMul (xVar 2) (xVar 3))) (gtN 7) (tvAnd (tvOf (xOp gEq (xOp gMod (xUn gInt (xOp gSub (xVar 7) (xOp gIdx (xVar 0) (xOp gMod (xUn gInt (xVar 5)) (xVar 2))))) (xVar 2)) (xC (.int 0)))) (tvOf (xOp gEq (xOp gMod (xUn gInt (xOp gSub (xVar 7) (xOp gIdx (xVar 1) (xOp gMod (xUn gInt (xVar 5)) (xVar 3))))) (xVar 3)) (xC (.int 0))))) (xVar 7) [7]) (gtN 6))
    (sApp 4 (xOp gIdx (xVar 6) (xC (.int 0))))))
    (sRet (xUn gTuple (xVarO 4)))))
def f__law_joined : List D → R D := mkFn 4 8 b__law_joined
def b__law_sort : Sv := (sSeq (sIf (tvOf (xUn (gIsi .bool) (xVar 0))) (sRet (xC (.int 1))) sNx)
    (sSeq (sIf (tvOf (xUn (gIsi .int) (xVar 0))) (sRet (xC (.int 2))) sNx)
    (sSeq (sIf (tvOf (xUn (gIsi .tuple) (xVar 0))) (sRet (xC (.int 3))) sNx)
    (sRet (xIte (tvOf (xUn (gIsi .list) (xVar 0))) (xC (.int 4)) (xC (.int 0)))))))
def f__law_sort : List D → R D := mkFn 1 1 b__law_sort
def b__law_like_2 (rec : List D → R D) : Sv := (sSeq (sIf (tvOf (xOp gNe (xCall f__law_sort (xCons (xVar 0) xNil)) (xCall f__law_sort (xCons (xVar 1) xNil)))) (sRet (xC (.bl false))) sNx)
    (sSeq (sIf (tvOf (xOp (gIn true) (xCall f__law_sort (xCons (xVar 0) xNil)) (xTup (xCons (xC (.int 3)) (xCons (xC (.int 4)) xNil))))) (sRet (xOp gEq (xVar 0) (xVar 1))) sNx)
    (sRet (xAnd (xOp gEq (xUn gLen (xVar 0)) (xUn gLen (xVar 1))) (xOp gEq (xLc (xZip (xVar 0) (xVar 1)) (gtT 2 (gsC (gtN 2) (gsC (gtN 3) gsN))) (tvNot (tvOf (xCall rec (xCons (xVar 2) (xCons (xVar 3) xNil))))) (xC (.int 1)) [2, 3]) (xLst xNil))))))
def f__law_like_2 : Nat → List D → R D
  | 0 => fun _ => .no
  | k + 1 => mkFn 2 4 (b__law_like_2 (f__law_like_2 k))
def b__law_sort_2 : Sv := (sSeq (sIf (tvOr (tvOf (xUn gIsN (xVar 0))) (tvOf (xUn (gIsi .bool) (xVar 0)))) (sRet (xIte (tvOf (xUn gIsN (xVar 0))) (xC (.int 0)) (xC (.int 1)))) sNx)
    (sSeq (sIf (tvOr (tvOf (xUn (gIsi .int) (xVar 0))) (tvOf (xUn (gIsi .str) (xVar 0)))) (sRet (xIte (tvOf (xUn (gIsi .int) (xVar 0))) (xC (.int 2)) (xC (.int 3)))) sNx)
    (sRet (xIte (tvOf (xUn (gIsi .tuple) (xVar 0))) (xC (.int 4)) (xIte (tvOf (xUn (gIsi .list) (xVar 0))) (xC (.int 5)) (xC (.int 6)))))))
def f__law_sort_2 : List D → R D := mkFn 1 1 b__law_sort_2
def b__law_like_3 (rec : List D → R D) : Sv := (sSeq (sAsg (xCall f__law_sort_2 (xCons (xVar 1) xNil)) (gtN 2))
    (sSeq (sIf (tvOr (tvOf (xOp gNe (xCall f__law_sort_2 (xCons (xVar 0) xNil)) (xVar 2))) (tvOf (xOp gEq (xVar 2) (xC (.int 6))))) (sRet (xC (.bl false))) sNx)
    (sSeq (sIf (tvOf (xOp (gIn false) (xVar 2) (xTup (xCons (xC (.int 4)) (xCons (xC (.int 5)) xNil))))) (sRet (xAnd (xOp gEq (xUn gLen (xVar 0)) (xUn gLen (xVar 1))) (xOp gEq (xLc (xZip (xVar 0) (xVar 1)) (gtT 2 (gsC (gtN 3) (gsC (gtN 4) gsN))) (tvNot (tvOf (xCall rec (xCons (xVar 3) (xCons (xVar 4) xNil))))) (xC (.int 1)) [3, 4]) (xLst xNil)))) sNx)
    (sRet (xOp gEq (xVar 0) (xVar 1))))))
def f__law_like_3 : Nat → List D → R D
  | 0 => fun _ => .no
  | k + 1 => mkFn 2 5 (b__law_like_3 (f__law_like_3 k))
def b__law_over : Sv := (sSeq (sAsg (xTup (xCons (xC (.int 1)) (xCons (xC (.int 1)) xNil))) (gtT 2 (gsC (gtN 2) (gsC (gtN 3) gsN))))
    (sSeq (sFor (xRng1 (xVar 1)) (gtN 4) (sPar [2, 3] (mFro (xOp gMul (xVar 2) (xOp gSub (xVar 0) (xVar 4))) (mFro (xOp gMul (xVar 3) (xOp gAdd (xVar 4) (xC (.int 1)))) mNil))))
    (sRet (xOp gDiv (xVar 2) (xVar 3)))))
def f__law_over : List D → R D := mkFn 2 5 b__law_over
def b__law_map : Sv := (sSeq (sAsg (xLc (xZip (xVar 2) (xVar 1)) (gtT 2 (gsC (gtN 4) (gsC (gtN 5) gsN))) tvYes (xOp gMul (xVar 4) (xVar 5)) [4, 5]) (gtN 3))
    (sRet (xUn gTuple (xLc (xRng1 (xVar 0)) (gtN 6) tvYes (xOp gMod (xUn gInt (xUn gSum (xLc (xEnum (xVar 3)) (gtT 2 (gsC (gtN 7) (gsC (gtN 4) gsN))) tvYes (xOp gMul (xVar 4) (xCall f__law_over (xCons (xVar 6) (xCons (xVar 7) xNil)))) [7, 4]))) (xVar 0)) [6]))))
def f__law_map : List D → R D := mkFn 3 8 b__law_map
def b__law_roll : Sv := (sSeq (sIf (tvOf (xOp gGt (xOpO gIdx 0 (xC (.int 0))) (xC (.int 0)))) (sSeq (sAsg (xOp gMod (xUn gInt (xOpO gIdx 0 (xC (.int 0)))) (xVar 1)) (gtN 2))
    (sSeq (sSet 0 (xC (.int 0)) (xOp gDiv (xOpO gIdx 0 (xC (.int 0))) (xVar 1)))
    (sRet (xVar 2)))) sNx)
    (sSeq (sSet 0 (xC (.int 1)) (xOp gMod (xUn gInt (xOp gAdd (xOp gMul (xOpO gIdx 0 (xC (.int 1))) (xC (.int 30881))) (xC (.int 8929)))) (xC (.int 2147483549))))
    (sSeq (sAsg (xOp gMod (xUn gInt (xOp gMul (xOpO gIdx 0 (xC (.int 1))) (xOp gAdd (xOpO gIdx 0 (xC (.int 1))) (xC (.int 701))))) (xC (.int 2147483543))) (gtN 3))
    (sRet (xOp gMod (xUn gInt (xOp gDiv (xVar 3) (xC (.int 1171)))) (xVar 1))))))
def f__law_roll : D → List D → R (D × D) := mkIo 2 4 b__law_roll
def b__law_pairs : Sv := (sSeq (sPar [1, 2, 3] (mOwn (xLst xNil) (mFro (xC (.int 1)) (mOwn (xLst xNil) mNil))))
    (sSeq (sFor (xIt (xTup (xCons (xTup (xCons (xC (.int 2)) (xCons (xC (.int 7)) xNil))) (xCons (xTup (xCons (xC (.int 3)) (xCons (xC (.int 4)) xNil))) (xCons (xTup (xCons (xC (.int 5)) (xCons (xC (.int 3)) xNil))) (xCons (xTup (xCons (xC (.int 7)) (xCons (xC (.int 2)) xNil))) (xCons (xTup (xCons (xC (.int 11)) (xCons (xC (.int 2)) xNil))) (xCons (xTup (xCons (xC (.int 13)) (xCons (xC (.int 2)) xNil))) (xCons (xTup (xCons (xC (.int 17)) (xCons (xC (.int 1)) xNil))) (xCons (xTup (xCons (xC (.int 101)) (xCons (xC (.int 1)) xNil))) (xCons (xTup (xCons (xC (.int 239)) (xCons (xC (.int 1)) xNil))) xNil))))))))))) (gtT 2 (gsC (gtN 4) (gsC (gtN 5) gsN))) (sIf (tvOf (xOp gEq (xCallIo f__law_roll 0 (xCons (xC (.int 3)) xNil)) (xC (.int 0)))) (sSeq (sPar [6, 7] (mFro (xOp gAdd (xC (.int 1)) (xCallIo f__law_roll 0 (xCons (xVar 5) xNil))) (mFro (xC (.int 1)) mNil)))
    (sSeq (sFor (xRng1 (xVar 6)) (gtN 8) (sAsg (xOp gMul (xVar 7) (xVar 4)) (gtN 7)))
    (sSeq (sApp 1 (xTup (xCons (xVar 4) (xCons (xVar 6) xNil))))
    (sSeq (sApp 3 (xVar 7))
    (sAsg (xOp gMul (xVar 2) (xVar 7)) (gtN 2)))))) sNx))
    (sSeq (sFre 3) (sRet (xTup (xCons (xUn gTuple (xVarO 1)) (xCons (xVar 2) (xCons (xVar 3) xNil))))))))
def f__law_pairs : D → List D → R (D × D) := mkIo 1 9 b__law_pairs
def b__law_tidied : Sv := (sSeq (sAsg (xUn gLen (xVar 0)) (gtN 1))
    (sSeq (sFor (xRng1 (xUn gLen (xVar 0))) (gtN 2) (sIf (tvAnd (tvOf (xOp gEq (xOp gIdx (xVar 0) (xOp gSub (xVar 1) (xC (.int 1)))) (xC (.int 0)))) (tvOf (xOp gEq (xVar 1) (xOp gSub (xUn gLen (xVar 0)) (xVar 2))))) (sAsg (xOp gSub (xVar 1) (xC (.int 1))) (gtN 1)) sNx))
    (sRet (xUn gTuple (xSl (xVar 0) oNone (oSome (xVar 1)))))))
def f__law_tidied : List D → R D := mkFn 1 3 b__law_tidied
def b__law_poly_2 : Sv := (sSeq (sOwn (xLst xNil) 2)
    (sSeq (sFor (xRng1 (xCallIo f__law_roll 0 (xCons (xOp gAdd (xVar 1) (xC (.int 1))) xNil))) (gtN 3) (sSeq (sAsg (xOp gSub (xCallIo f__law_roll 0 (xCons (xC (.int 41)) xNil)) (xC (.int 20))) (gtN 4))
    (sApp 2 (xIte (tvOf (xOp gEq (xCallIo f__law_roll 0 (xCons (xC (.int 4)) xNil)) (xC (.int 0)))) (xOp gMul (xVar 4) (xOp gAdd (xC (.int 1)) (xCallIo f__law_roll 0 (xCons (xOp gPow (xC (.int 10)) (xC (.int 9))) xNil)))) (xVar 4)))))
    (sSeq (sFre 2) (sRet (xCall f__law_tidied (xCons (xVar 2) xNil))))))
def f__law_poly_2 : D → List D → R (D × D) := mkIo 2 5 b__law_poly_2
def b__law_powers_2 : Sv := (sSeq (sPar [1, 2] (mOwn (xLst xNil) (mFro (xVar 0) mNil)))
    (sSeq (sFor (xRng2 (xC (.int 2)) (xOp gAdd (xVar 0) (xC (.int 1)))) (gtN 3) (sSeq (sAsg (xC (.int 1)) (gtN 4))
    (sSeq (sFor (xRng1 (xC (.int 8))) (gtN 5) (sIf (tvOf (xOp gEq (xOp gMod (xUn gInt (xVar 2)) (xVar 3)) (xC (.int 0)))) (sPar [4, 2] (mFro (xOp gMul (xVar 4) (xVar 3)) (mFro (xOp gDiv (xVar 2) (xVar 3)) mNil))) sNx))
    (sIf (tvOf (xOp gGt (xVar 4) (xC (.int 1)))) (sApp 1 (xVar 4)) sNx))))
    (sSeq (sFre 1) (sRet (xVar 1)))))
def f__law_powers_2 : List D → R D := mkFn 1 6 b__law_powers_2
def b__law_row : Sv := (sRet (xUn gTuple (xLc (xIt (xVar 2)) (gtN 3) tvYes (xCallIo f__law_roll 0 (xCons (xOp gDiv (xVar 1) (xVar 3)) xNil)) [3])))
def f__law_row : D → List D → R (D × D) := mkIo 3 4 b__law_row
def b__law_rows : Sv := (sSeq (sAsg (xLst (xCons (xTup xNil) xNil)) (gtN 2))
    (sSeq (sFor (xIt (xVar 1)) (gtN 3) (sSeq (sAsg (xLst xNil) (gtN 4))
    (sSeq (sFor (xIt (xVar 2)) (gtN 5) (sAsg (xOp gAdd (xVar 4) (xLc (xRng1 (xOp gDiv (xVar 0) (xVar 3))) (gtN 6) tvYes (xOp gAdd (xVar 5) (xTup (xCons (xVar 6) xNil))) [6])) (gtN 4)))
    (sAsg (xVar 4) (gtN 2)))))
    (sRet (xVar 2))))
def f__law_rows : List D → R D := mkFn 2 7 b__law_rows
def b__law_size : Sv := (sSeq (sAsg (xC (.int 1)) (gtN 2))
    (sSeq (sFor (xRng1 (xVar 1)) (gtN 3) (sAsg (xOp gMul (xVar 2) (xVar 0)) (gtN 2)))
    (sRet (xVar 2))))
def f__law_size : List D → R D := mkFn 2 4 b__law_size
def b__law_some : Sv := (sRet (xOp gIdx (xVar 1) (xCallIo f__law_roll 0 (xCons (xUn gLen (xVar 1)) xNil))))
def f__law_some : D → List D → R (D × D) := mkIo 2 2 b__law_some
def b__law_times_3 : Sv := (sRet (xLc (xZip (xOp gAdd (xLst (xCons (xC (.int 0)) xNil)) (xVar 0)) (xOp gAdd (xVar 0) (xLst (xCons (xC (.int 0)) xNil)))) (gtT 2 (gsC (gtN 2) (gsC (gtN 3) gsN))) tvYes (xOp gSub (xVar 2) (xOp gMul (xVar 1) (xVar 3))) [2, 3]))
def f__law_times_3 : List D → R D := mkFn 2 4 b__law_times_3
def b__law_value_2 : Sv := (sSeq (sAsg (xC (.int 0)) (gtN 2))
    (sSeq (sFor (xIt (xUn gRev (xVar 0))) (gtN 3) (sAsg (xOp gAdd (xOp gMul (xVar 2) (xVar 1)) (xVar 3)) (gtN 2)))
    (sRet (xVar 2))))
def f__law_value_2 : List D → R D := mkFn 2 4 b__law_value_2
def b__law_whole : Sv := (sSeq (sAsg (xC (.int 1)) (gtN 1))
    (sSeq (sFor (xRng2 (xC (.int 1)) (xOp gAdd (xVar 0) (xC (.int 1)))) (gtN 2) (sAsg (xOp gMul (xVar 1) (xVar 2)) (gtN 1)))
    (sRet (xVar 1))))
def f__law_whole : List D → R D := mkFn 1 3 b__law_whole
def b_is_tuple_of : Sv := (sRet (xAnd (xUn (gIsi .tuple) (xVar 0)) (xChain gLe gLe (xVar 1) (xUn gLen (xVar 0)) (xVar 2))))
def f_is_tuple_of : List D → R D := mkFn 3 3 b_is_tuple_of
def b_is_whole : Sv := (sRet (xAnd (xUn (gIsi .int) (xVar 0)) (xAnd (xUn gNot (xUn (gIsi .bool) (xVar 0))) (xChain gLe gLe (xVar 1) (xVar 0) (xVar 2)))))
def f_is_whole : List D → R D := mkFn 3 3 b_is_whole
def b_are_wholes : Sv := (sRet (xAnd (xCall f_is_tuple_of (xCons (xVar 0) (xCons (xVar 1) (xCons (xVar 1) xNil)))) (xUn gAll (xLc (xIt (xVar 0)) (gtN 4) tvYes (xCall f_is_whole (xCons (xVar 4) (xCons (xVar 2) (xCons (xVar 3) xNil)))) [4]))))
def f_are_wholes : List D → R D := mkFn 4 5 b_are_wholes
def b_need_whole : Sv := (sIf (tvNot (tvOf (xCall f_is_whole (xCons (xVar 0) (xCons (xVar 1) (xCons (xVar 2) xNil)))))) (fun _ => .no) sNx)
def f_need_whole : List D → R D := mkFn 3 3 b_need_whole
def b_need_n : Sv := (sDrop (xCall f_need_whole (xCons (xVar 0) (xCons (xC (.int 1)) (xCons (xC (.int 240)) xNil)))))
def f_need_n : List D → R D := mkFn 1 1 b_need_n
def b_prime_powers : Sv := (sSeq (sDrop (xCall f_need_n (xCons (xVar 0) xNil)))
    (sSeq (sOwn (xLst xNil) 1)
    (sSeq (sFor (xRng2 (xC (.int 2)) (xOp gAdd (xVar 0) (xC (.int 1)))) (gtN 2) (sSeq (sAsg (xC (.int 0)) (gtN 3))
    (sSeq (whl (tvOf (xOp gEq (xOp gMod (xUn gInt (xVar 0)) (xVar 2)) (xC (.int 0)))) (sPar [0, 3] (mFro (xOp gDiv (xVar 0) (xVar 2)) (mFro (xOp gAdd (xVar 3) (xC (.int 1))) mNil))) 1000)
    (sIf (tvOf (xOp gGt (xVar 3) (xC (.int 0)))) (sApp 1 (xTup (xCons (xVar 2) (xCons (xVar 3) xNil)))) sNx))))
    (sRet (xUn gTuple (xVarO 1))))))
def f_prime_powers : List D → R D := mkFn 1 4 b_prime_powers
def b_raised : Sv := (sSeq (sAsg (xC (.int 1)) (gtN 2))
    (sSeq (sFor (xRng1 (xVar 1)) (gtN 3) (sAsg (xOp gMul (xVar 2) (xVar 0)) (gtN 2)))
    (sRet (xVar 2))))
def f_raised : List D → R D := mkFn 2 4 b_raised
def b_powers_in : Sv := (sRet (xUn gTuple (xLc (xIt (xCall f_prime_powers (xCons (xVar 0) xNil))) (gtT 2 (gsC (gtN 1) (gsC (gtN 2) gsN))) tvYes (xCall f_raised (xCons (xVar 1) (xCons (xVar 2) xNil))) [1, 2])))
def f_powers_in : List D → R D := mkFn 1 3 b_powers_in
def b_rest_in : Sv := (sRet (xOp gMod (xUn gInt (xVar 0)) (xVar 1)))
def f_rest_in : List D → R D := mkFn 2 2 b_rest_in
def b_bar_in : Sv := (sSeq (sFor (xIt (xCall f_powers_in (xCons (xVar 0) xNil))) (gtN 2) (sFor (xRng2 (xVar 2) (xVar 0)) (gtN 3) (sIf (tvOf (xOp gNe (xCall f_rest_in (xCons (xOp gSub (xOp gIdx (xVar 1) (xVar 3)) (xOp gIdx (xVar 1) (xCall f_rest_in (xCons (xVar 3) (xCons (xVar 2) xNil))))) (xCons (xVar 2) xNil))) (xC (.int 0)))) (sRet (xTup (xCons (xVar 2) (xCons (xCall f_rest_in (xCons (xVar 3) (xCons (xVar 2) xNil))) (xCons (xVar 3) xNil))))) sNx)))
    (sRet (xC .non)))
def f_bar_in : List D → R D := mkFn 2 4 b_bar_in
def b_behind_in : Sv := (sRet (xUn gTuple (xLc (xIt (xVar 1)) (gtN 2) tvYes (xOp gIdx (xVar 0) (xVar 2)) [2])))
def f_behind_in : List D → R D := mkFn 2 3 b_behind_in
def b_break_by : Sv := (sSeq (sFor (xRng1 (xUn gLen (xVar 0))) (gtN 2) (sFor (xRng3 (xOp gMod (xUn gInt (xVar 2)) (xVar 1)) (xVar 2) (xVar 1)) (gtN 3) (sIf (tvOf (xOp gNe (xOp gMod (xUn gInt (xOp gSub (xOp gIdx (xVar 0) (xVar 2)) (xOp gIdx (xVar 0) (xVar 3)))) (xVar 1)) (xC (.int 0)))) (sRet (xTup (xCons (xVar 1) (xCons (xVar 3) (xCons (xVar 2) xNil))))) sNx)))
    (sRet (xC .non)))
def f_break_by : List D → R D := mkFn 2 4 b_break_by
def b_divisors : Sv := (sSeq (sDrop (xCall f_need_n (xCons (xVar 0) xNil)))
    (sRet (xUn gTuple (xLc (xRng2 (xC (.int 1)) (xOp gAdd (xVar 0) (xC (.int 1)))) (gtN 1) (tvOf (xOp gEq (xOp gMod (xUn gInt (xVar 0)) (xVar 1)) (xC (.int 0)))) (xVar 1) [1]))))
def f_divisors : List D → R D := mkFn 1 2 b_divisors
def b_break_in : Sv := (sSeq (sFor (xIt (xCall f_divisors (xCons (xVar 0) xNil))) (gtN 2) (sSeq (sAsg (xCall f_break_by (xCons (xVar 1) (xCons (xVar 2) xNil))) (gtN 3))
    (sIf (tvOf (xUn gNotN (xVar 3))) (sRet (xVar 3)) sNx)))
    (sRet (xC .non)))
def f_break_in : List D → R D := mkFn 2 4 b_break_in
def b_common_in : Sv := (sSeq (whl (tvOf (xOp gNe (xVar 1) (xC (.int 0)))) (sPar [0, 1] (mFro (xVar 1) (mFro (xOp gMod (xUn gInt (xVar 0)) (xVar 1)) mNil))) 1000)
    (sRet (xVar 0)))
def f_common_in : List D → R D := mkFn 2 2 b_common_in
def b_is_poly : Sv := (sSeq (sIf (tvOr (tvNot (tvOf (xCall f_is_tuple_of (xCons (xVar 0) (xCons (xC (.int 0)) (xCons (xC (.int 240)) xNil)))))) (tvNot (tvOf (xUn gAll (xLc (xIt (xVar 0)) (gtN 1) tvYes (xCall f_is_whole (xCons (xVar 1) (xCons (xUn gNeg (xC (.int 1000000000000000000000000000000000000000000000000000000000000))) (xCons (xC (.int 1000000000000000000000000000000000000000000000000000000000000)) xNil)))) [1]))))) (sRet (xC (.bl false))) sNx)
    (sRet (xOr (xOp gEq (xVar 0) (xTup xNil)) (xOp gNe (xOp gIdx (xVar 0) (xUn gNeg (xC (.int 1)))) (xC (.int 0))))))
def f_is_poly : List D → R D := mkFn 1 2 b_is_poly
def b_need_poly : Sv := (sIf (tvNot (tvOf (xCall f_is_poly (xCons (xVar 0) xNil)))) (fun _ => .no) sNx)
def f_need_poly : List D → R D := mkFn 1 1 b_need_poly
def b_value_at : Sv := (sSeq (sDrop (xCall f_need_poly (xCons (xVar 0) xNil)))
    (sSeq (sDrop (xCall f_need_whole (xCons (xVar 1) (xCons (xUn gNeg (xC (.int 1000000000000000000000000000000000000000000000000000000000000))) (xCons (xC (.int 1000000000000000000000000000000000000000000000000000000000000)) xNil)))))
    (sSeq (sAsg (xC (.int 0)) (gtN 2))
    (sSeq (sFor (xIt (xUn gRev (xVar 0))) (gtN 3) (sAsg (xOp gAdd (xOp gMul (xVar 2) (xVar 1)) (xVar 3)) (gtN 2)))
    (sRet (xVar 2))))))
def f_value_at : List D → R D := mkFn 2 4 b_value_at
def b_constant_in : Sv := (sSeq (sPar [1, 2] (mFro (xC (.int 0)) (mFro (xCall f_value_at (xCons (xVar 0) (xCons (xC (.int 0)) xNil))) mNil)))
    (sSeq (sFor (xRng2 (xC (.int 1)) (xUn gLen (xVar 0))) (gtN 3) (sAsg (xCall f_common_in (xCons (xVar 1) (xCons (xUn gAbs (xOp gSub (xCall f_value_at (xCons (xVar 0) (xCons (xVar 3) xNil))) (xVar 2))) xNil))) (gtN 1)))
    (sRet (xVar 1))))
def f_constant_in : List D → R D := mkFn 1 4 b_constant_in
def b_constant_by : Sv := (sSeq (sDrop (xCall f_need_poly (xCons (xVar 0) xNil)))
    (sSeq (sAsg (xCall f_constant_in (xCons (xVar 0) xNil)) (gtN 1))
    (sRet (xUn gTuple (xLc (xRng2 (xC (.int 1)) (xOp gAdd (xC (.int 240)) (xC (.int 1)))) (gtN 2) (tvOf (xOp gEq (xCall f_rest_in (xCons (xVar 1) (xCons (xVar 2) xNil))) (xC (.int 0)))) (xVar 2) [2])))))
def f_constant_by : List D → R D := mkFn 1 3 b_constant_by
def b_constant_part : Sv := (sSeq (sDrop (xCall f_need_poly (xCons (xVar 0) xNil)))
    (sRet (xCall f_constant_in (xCons (xVar 0) xNil))))
def f_constant_part : List D → R D := mkFn 1 1 b_constant_part
def b_differences_in : Sv := (sSeq (sPar [2, 3] (mOwn (xLst xNil) (mFro (xUn gList (xVar 1)) mNil)))
    (sSeq (sFor (xRng1 (xUn gLen (xVar 1))) (gtN 4) (sSeq (sApp 2 (xOp gIdx (xVar 3) (xC (.int 0))))
    (sAsg (xLc (xZip (xVar 3) (xSl (xVar 3) (oSome (xC (.int 1))) oNone)) (gtT 2 (gsC (gtN 5) (gsC (gtN 6) gsN))) tvYes (xCall f_rest_in (xCons (xOp gSub (xVar 6) (xVar 5)) (xCons (xVar 0) xNil))) [5, 6]) (gtN 3))))
    (sRet (xUn gTuple (xVarO 2)))))
def f_differences_in : List D → R D := mkFn 2 7 b_differences_in
def b_parted : Sv := (sSeq (sPar [2, 3] (mOwn (xLst xNil) (mFro (xC (.int 0)) mNil)))
    (sSeq (sFor (xIt (xUn gRev (xVar 0))) (gtN 4) (sSeq (sAsg (xOp gAdd (xOp gMul (xVar 3) (xVar 1)) (xVar 4)) (gtN 3))
    (sApp 2 (xVar 3))))
    (sRet (xTup (xCons (xUn gRev (xSlO 2 oNone (oSome (xUn gNeg (xC (.int 1)))))) (xCons (xVar 3) xNil))))))
def f_parted : List D → R D := mkFn 2 5 b_parted
def b_tidied : Sv := (sSeq (sAsg (xUn gLen (xVar 0)) (gtN 1))
    (sSeq (whl (tvAnd (tvOf (xOp gGt (xVar 1) (xC (.int 0)))) (tvOf (xOp gEq (xOp gIdx (xVar 0) (xOp gSub (xVar 1) (xC (.int 1)))) (xC (.int 0))))) (sAsg (xOp gSub (xVar 1) (xC (.int 1))) (gtN 1)) 1000)
    (sRet (xUn gList (xSl (xVar 0) oNone (oSome (xVar 1)))))))
def f_tidied : List D → R D := mkFn 1 2 b_tidied
def b_told : Sv := (sSeq (sAsg (xUn gTuple (xCall f_tidied (xCons (xVar 0) xNil))) (gtN 1))
    (sSeq (sIf (tvOf (xOp gGt (xUn gLen (xVar 1)) (xC (.int 240)))) (fun _ => .no) sNx)
    (sSeq (sIf (tvNot (tvOf (xUn gAll (xLc (xIt (xVar 1)) (gtN 2) tvYes (xChain gLe gLe (xUn gNeg (xC (.int 1000000000000000000000000000000000000000000000000000000000000))) (xVar 2) (xC (.int 1000000000000000000000000000000000000000000000000000000000000))) [2])))) (fun _ => .no) sNx)
    (sRet (xVar 1)))))
def f_told : List D → R D := mkFn 1 3 b_told
def b_divided : Sv := (sSeq (sDrop (xCall f_need_poly (xCons (xVar 0) xNil)))
    (sSeq (sDrop (xCall f_need_whole (xCons (xVar 1) (xCons (xUn gNeg (xC (.int 1000000000000000000000000000000000000000000000000000000000000))) (xCons (xC (.int 1000000000000000000000000000000000000000000000000000000000000)) xNil)))))
    (sSeq (sAsg (xCall f_parted (xCons (xVar 0) (xCons (xVar 1) xNil))) (gtT 2 (gsC (gtN 2) (gsC (gtN 3) gsN))))
    (sRet (xTup (xCons (xCall f_told (xCons (xVar 2) xNil)) (xCons (xVar 3) xNil)))))))
def f_divided : List D → R D := mkFn 2 4 b_divided
def b_level_in : Sv := (sSeq (sAsg (xC (.int 1)) (gtN 2))
    (sSeq (sFor (xRng2 (xC (.int 1)) (xOp gAdd (xVar 1) (xC (.int 1)))) (gtN 3) (sAsg (xCall f_common_in (xCons (xVar 0) (xCons (xOp gMul (xVar 2) (xVar 3)) xNil))) (gtN 2)))
    (sRet (xVar 2))))
def f_level_in : List D → R D := mkFn 2 4 b_level_in
def b_first_barred : Sv := (sSeq (sFor (xEnum (xVar 1)) (gtT 2 (gsC (gtN 2) (gsC (gtN 3) gsN))) (sIf (tvOf (xOp gNe (xCall f_rest_in (xCons (xVar 3) (xCons (xCall f_level_in (xCons (xVar 0) (xCons (xVar 2) xNil))) xNil))) (xC (.int 0)))) (sRet (xVar 2)) sNx))
    (sRet (xC .non)))
def f_first_barred : List D → R D := mkFn 2 4 b_first_barred
def b_taken_in : Sv := (sRet (xUn gTuple (xCall f_tidied (xCons (xLc (xIt (xVar 0)) (gtN 2) tvYes (xCall f_rest_in (xCons (xVar 2) (xCons (xVar 1) xNil))) [2]) xNil))))
def f_taken_in : List D → R D := mkFn 2 3 b_taken_in
def b_left_in : Sv := (sRet (xCall f_taken_in (xCons (xOp gIdx (xCall f_parted (xCons (xVar 0) (xCons (xVar 2) xNil))) (xC (.int 0))) (xCons (xVar 1) xNil))))
def f_left_in : List D → R D := mkFn 3 3 b_left_in
def b_rest_at : Sv := (sSeq (sAsg (xC (.int 0)) (gtN 3))
    (sSeq (sFor (xIt (xUn gRev (xVar 0))) (gtN 4) (sAsg (xCall f_rest_in (xCons (xOp gAdd (xOp gMul (xVar 3) (xVar 1)) (xVar 4)) (xCons (xVar 2) xNil))) (gtN 3)))
    (sRet (xVar 3))))
def f_rest_at : List D → R D := mkFn 3 5 b_rest_at
def b_roots_in : Sv := (sRet (xLc (xRng1 (xVar 1)) (gtN 2) (tvOf (xOp gEq (xCall f_rest_at (xCons (xVar 0) (xCons (xVar 2) (xCons (xVar 1) xNil)))) (xC (.int 0)))) (xVar 2) [2]))
def f_roots_in : List D → R D := mkFn 2 3 b_roots_in
def b_first_factors : Sv := (sSeq (sDrop (xCall f_need_poly (xCons (xVar 0) xNil)))
    (sSeq (sDrop (xCall f_need_n (xCons (xVar 1) xNil)))
    (sSeq (sPar [2, 3] (mFro (xCall f_taken_in (xCons (xVar 0) (xCons (xVar 1) xNil))) (mOwn (xLst xNil) mNil)))
    (sSeq (sIf (tvOf (xOp gEq (xVar 2) (xTup xNil))) (fun _ => .no) sNx)
    (sSeq (sAsg (xCall f_roots_in (xCons (xVar 2) (xCons (xVar 1) xNil))) (gtN 4))
    (sSeq (whl (tvOf (xOp gNe (xVar 4) (xLst xNil))) (sSeq (sApp 3 (xOp gIdx (xVar 4) (xC (.int 0))))
    (sSeq (sAsg (xCall f_left_in (xCons (xVar 2) (xCons (xVar 1) (xCons (xOp gIdx (xVar 4) (xC (.int 0))) xNil)))) (gtN 2))
    (sAsg (xCall f_roots_in (xCons (xVar 2) (xCons (xVar 1) xNil))) (gtN 4)))) 1000)
    (sRet (xTup (xCons (xUn gTuple (xVarO 3)) (xCons (xVar 2) xNil))))))))))
def f_first_factors : List D → R D := mkFn 2 5 b_first_factors
def b_first_other : Sv := (sSeq (sDrop (xCall f_need_poly (xCons (xVar 0) xNil)))
    (sSeq (sDrop (xCall f_need_n (xCons (xVar 1) xNil)))
    (sSeq (sAsg (xCall f_rest_at (xCons (xVar 0) (xCons (xC (.int 0)) (xCons (xVar 1) xNil)))) (gtN 2))
    (sSeq (sFor (xRng1 (xVar 1)) (gtN 3) (sIf (tvOf (xOp gNe (xCall f_rest_at (xCons (xVar 0) (xCons (xVar 3) (xCons (xVar 1) xNil)))) (xVar 2))) (sRet (xVar 3)) sNx))
    (sRet (xC .non))))))
def f_first_other : List D → R D := mkFn 2 4 b_first_other
def b_next_gauge : Sv := (sSeq (sAsg (xCall f_common_in (xCons (xVar 0) (xCons (xVar 2) xNil))) (gtN 3))
    (sRet (xOp gDiv (xOp gMul (xVar 1) (xVar 3)) (xCall f_common_in (xCons (xVar 1) (xCons (xVar 3) xNil))))))
def f_next_gauge : List D → R D := mkFn 3 4 b_next_gauge
def b_gauges_in : Sv := (sSeq (sPar [1, 2] (mOwn (xLst xNil) (mFro (xC (.int 1)) mNil)))
    (sSeq (whl (tvOf (xOp gNe (xVar 2) (xVar 0))) (sSeq (sApp 1 (xVar 2))
    (sAsg (xCall f_next_gauge (xCons (xVar 0) (xCons (xVar 2) (xCons (xUn gLen (xVarO 1)) xNil)))) (gtN 2))) 1000)
    (sSeq (sFre 1) (sRet (xVar 1)))))
def f_gauges_in : List D → R D := mkFn 1 3 b_gauges_in
def b_is_ascending : Sv := (sRet (xUn gAll (xLc (xZip (xVar 0) (xSl (xVar 0) (oSome (xC (.int 1))) oNone)) (gtT 2 (gsC (gtN 1) (gsC (gtN 2) gsN))) tvYes (xOp gLt (xVar 1) (xVar 2)) [1, 2])))
def f_is_ascending : List D → R D := mkFn 1 3 b_is_ascending
def b_is_constant : Sv := (sSeq (sDrop (xCall f_need_poly (xCons (xVar 0) xNil)))
    (sSeq (sDrop (xCall f_need_n (xCons (xVar 1) xNil)))
    (sRet (xOp gEq (xCall f_rest_in (xCons (xCall f_constant_in (xCons (xVar 0) xNil)) (xCons (xVar 1) xNil))) (xC (.int 0))))))
def f_is_constant : List D → R D := mkFn 2 2 b_is_constant
def b_is_map : Sv := (sSeq (sDrop (xCall f_need_n (xCons (xVar 0) xNil)))
    (sRet (xCall f_are_wholes (xCons (xVar 1) (xCons (xVar 0) (xCons (xC (.int 0)) (xCons (xOp gSub (xVar 0) (xC (.int 1))) xNil)))))))
def f_is_map : List D → R D := mkFn 2 2 b_is_map
def b_need_map : Sv := (sIf (tvNot (tvOf (xCall f_is_map (xCons (xVar 0) (xCons (xVar 1) xNil))))) (fun _ => .no) sNx)
def f_need_map : List D → R D := mkFn 2 2 b_need_map
def b_is_keeping : Sv := (sSeq (sDrop (xCall f_need_map (xCons (xVar 0) (xCons (xVar 1) xNil))))
    (sRet (xUn gIsN (xCall f_break_in (xCons (xVar 0) (xCons (xVar 1) xNil))))))
def f_is_keeping : List D → R D := mkFn 2 2 b_is_keeping
def b_is_row_in : Sv := (sSeq (sAsg (xCall f_gauges_in (xCons (xVar 0) xNil)) (gtN 2))
    (sSeq (sIf (tvNot (tvOf (xCall f_is_tuple_of (xCons (xVar 1) (xCons (xUn gLen (xVar 2)) (xCons (xUn gLen (xVar 2)) xNil)))))) (sRet (xC (.bl false))) sNx)
    (sRet (xUn gAll (xLc (xZip (xVar 1) (xVar 2)) (gtT 2 (gsC (gtN 3) (gsC (gtN 4) gsN))) tvYes (xCall f_is_whole (xCons (xVar 3) (xCons (xC (.int 0)) (xCons (xOp gSub (xOp gDiv (xVar 0) (xVar 4)) (xC (.int 1))) xNil)))) [3, 4])))))
def f_is_row_in : List D → R D := mkFn 2 5 b_is_row_in
def b_is_keeping_row : Sv := (sSeq (sDrop (xCall f_need_n (xCons (xVar 0) xNil)))
    (sRet (xCall f_is_row_in (xCons (xVar 0) (xCons (xVar 1) xNil)))))
def f_is_keeping_row : List D → R D := mkFn 2 2 b_is_keeping_row
def b_is_made : Sv := (sSeq (sDrop (xCall f_need_map (xCons (xVar 0) (xCons (xVar 1) xNil))))
    (sRet (xUn gIsN (xCall f_first_barred (xCons (xVar 0) (xCons (xCall f_differences_in (xCons (xVar 0) (xCons (xVar 1) xNil))) xNil))))))
def f_is_made : List D → R D := mkFn 2 2 b_is_made
def b_is_prime : Sv := (sRet (xAnd (xCall f_is_whole (xCons (xVar 0) (xCons (xC (.int 2)) (xCons (xC (.int 240)) xNil)))) (xOp gEq (xCall f_prime_powers (xCons (xVar 0) xNil)) (xTup (xCons (xTup (xCons (xVar 0) (xCons (xC (.int 1)) xNil))) xNil)))))
def f_is_prime : List D → R D := mkFn 1 1 b_is_prime
def b_is_pair : Sv := (sSeq (sIf (tvOr (tvNot (tvOf (xCall f_is_tuple_of (xCons (xVar 0) (xCons (xC (.int 2)) (xCons (xC (.int 2)) xNil)))))) (tvOr (tvNot (tvOf (xCall f_is_prime (xCons (xOp gIdx (xVar 0) (xC (.int 0))) xNil)))) (tvNot (tvOf (xCall f_is_whole (xCons (xOp gIdx (xVar 0) (xC (.int 1))) (xCons (xC (.int 1)) (xCons (xC (.int 240)) xNil)))))))) (sRet (xC (.bl false))) sNx)
    (sRet (xAnd (xOp gLt (xOp gIdx (xVar 0) (xC (.int 1))) (xC (.int 8))) (xOp gLe (xCall f_raised (xCons (xOp gIdx (xVar 0) (xC (.int 0))) (xCons (xOp gIdx (xVar 0) (xC (.int 1))) xNil))) (xC (.int 240))))))
def f_is_pair : List D → R D := mkFn 1 1 b_is_pair
def b_join_in : Sv := (sSeq (sAsg (xTup (xCons (xC (.int 0)) (xCons (xC (.int 1)) xNil))) (gtT 2 (gsC (gtN 2) (gsC (gtN 3) gsN))))
    (sSeq (sFor (xZip (xCall f_powers_in (xCons (xVar 0) xNil)) (xVar 1)) (gtT 2 (gsC (gtN 4) (gsC (gtN 5) gsN))) (sSeq (sFor (xRng1 (xVar 4)) (gtN 6) (sSeq (sIf (tvOf (xOp gEq (xCall f_rest_in (xCons (xVar 2) (xCons (xVar 4) xNil))) (xVar 5))) (fun ρ => .bk ρ) sNx)
    (sAsg (xOp gAdd (xVar 2) (xVar 3)) (gtN 2))))
    (sAsg (xOp gMul (xVar 3) (xVar 4)) (gtN 3))))
    (sRet (xVar 2))))
def f_join_in : List D → R D := mkFn 2 7 b_join_in
def b_join_maps : Sv := (sSeq (sDrop (xCall f_need_n (xCons (xVar 0) xNil)))
    (sSeq (sAsg (xCall f_powers_in (xCons (xVar 0) xNil)) (gtN 2))
    (sSeq (sIf (tvOr (tvNot (tvOf (xCall f_is_tuple_of (xCons (xVar 1) (xCons (xUn gLen (xVar 2)) (xCons (xUn gLen (xVar 2)) xNil)))))) (tvNot (tvOf (xUn gAll (xLc (xZip (xVar 2) (xVar 1)) (gtT 2 (gsC (gtN 5) (gsC (gtN 6) gsN))) tvYes (xCall f_is_map (xCons (xVar 5) (xCons (xVar 6) xNil))) [5, 6]))))) (fun _ => .no) sNx)
    (sSeq (sOwn (xLst xNil) 3)
    (sSeq (sFor (xRng1 (xVar 0)) (gtN 4) (sApp 3 (xCall f_join_in (xCons (xVar 0) (xCons (xUn gTuple (xLc (xZip (xVar 2) (xVar 1)) (gtT 2 (gsC (gtN 5) (gsC (gtN 6) gsN))) tvYes (xOp gIdx (xVar 6) (xCall f_rest_in (xCons (xVar 4) (xCons (xVar 5) xNil)))) [5, 6])) xNil)))))
    (sRet (xUn gTuple (xVarO 3))))))))
def f_join_maps : List D → R D := mkFn 2 7 b_join_maps
def b_join_polys : Sv := (sSeq (sDrop (xCall f_need_n (xCons (xVar 0) xNil)))
    (sSeq (sAsg (xCall f_powers_in (xCons (xVar 0) xNil)) (gtN 2))
    (sSeq (sIf (tvOr (tvNot (tvOf (xCall f_is_tuple_of (xCons (xVar 1) (xCons (xUn gLen (xVar 2)) (xCons (xUn gLen (xVar 2)) xNil)))))) (tvNot (tvOf (xUn gAll (xLc (xIt (xVar 1)) (gtN 6) tvYes (xCall f_is_poly (xCons (xVar 6) xNil)) [6]))))) (fun _ => .no) sNx)
    (sSeq (sAsg (xUn gMax (xOp gAdd (xLc (xIt (xVar 1)) (gtN 6) tvYes (xUn gLen (xVar 6)) [6]) (xLst (xCons (xC (.int 0)) xNil)))) (gtN 3))
    (sSeq (sOwn (xLst xNil) 4)
    (sSeq (sFor (xRng1 (xVar 3)) (gtN 5) (sApp 4 (xCall f_join_in (xCons (xVar 0) (xCons (xUn gTuple (xLc (xZip (xVar 2) (xVar 1)) (gtT 2 (gsC (gtN 7) (gsC (gtN 6) gsN))) tvYes (xIte (tvOf (xOp gLt (xVar 5) (xUn gLen (xVar 6)))) (xCall f_rest_in (xCons (xOp gIdx (xVar 6) (xVar 5)) (xCons (xVar 7) xNil))) (xC (.int 0))) [7, 6])) xNil)))))
    (sSeq (sFre 4) (sRet (xUn gTuple (xCall f_tidied (xCons (xVar 4) xNil)))))))))))
def f_join_polys : List D → R D := mkFn 2 8 b_join_polys
def b_join_rests : Sv := (sSeq (sDrop (xCall f_need_n (xCons (xVar 0) xNil)))
    (sSeq (sAsg (xCall f_powers_in (xCons (xVar 0) xNil)) (gtN 2))
    (sSeq (sIf (tvNot (tvOf (xCall f_is_tuple_of (xCons (xVar 1) (xCons (xUn gLen (xVar 2)) (xCons (xUn gLen (xVar 2)) xNil)))))) (fun _ => .no) sNx)
    (sSeq (sIf (tvNot (tvOf (xUn gAll (xLc (xZip (xVar 1) (xVar 2)) (gtT 2 (gsC (gtN 3) (gsC (gtN 4) gsN))) tvYes (xCall f_are_wholes (xCons (xTup (xCons (xVar 3) xNil)) (xCons (xC (.int 1)) (xCons (xC (.int 0)) (xCons (xOp gSub (xVar 4) (xC (.int 1))) xNil))))) [3, 4])))) (fun _ => .no) sNx)
    (sRet (xCall f_join_in (xCons (xVar 0) (xCons (xVar 1) xNil))))))))
def f_join_rests : List D → R D := mkFn 2 5 b_join_rests
def b_product_of : Sv := (sSeq (sAsg (xC (.int 1)) (gtN 1))
    (sSeq (sFor (xIt (xVar 0)) (gtN 2) (sAsg (xOp gMul (xVar 1) (xVar 2)) (gtN 1)))
    (sRet (xVar 1))))
def f_product_of : List D → R D := mkFn 1 3 b_product_of
def b_rooms_in_2 : Sv := (sRet (xLc (xIt (xCall f_gauges_in (xCons (xVar 0) xNil))) (gtN 1) tvYes (xOp gDiv (xVar 0) (xVar 1)) [1]))
def f_rooms_in_2 : List D → R D := mkFn 1 2 b_rooms_in_2
def b_keeping_count : Sv := (sSeq (sDrop (xCall f_need_n (xCons (xVar 0) xNil)))
    (sRet (xCall f_product_of (xCons (xCall f_rooms_in_2 (xCons (xVar 0) xNil)) xNil))))
def f_keeping_count : List D → R D := mkFn 1 1 b_keeping_count
def b_over : Sv := (sSeq (sOwn (xLst (xCons (xC (.int 1)) xNil)) 2)
    (sSeq (sFor (xRng1 (xOp gSub (xVar 1) (xC (.int 1)))) (gtN 3) (sApp 2 (xOp gDiv (xOp gMul (xOpO gIdx 2 (xUn gNeg (xC (.int 1)))) (xOp gSub (xVar 0) (xVar 3))) (xOp gAdd (xVar 3) (xC (.int 1))))))
    (sRet (xSlO 2 oNone (oSome (xVar 1))))))
def f_over : List D → R D := mkFn 2 4 b_over
def b_map_in : Sv := (sSeq (sAsg (xLc (xZip (xVar 1) (xCall f_gauges_in (xCons (xVar 0) xNil))) (gtT 2 (gsC (gtN 3) (gsC (gtN 4) gsN))) tvYes (xOp gMul (xVar 3) (xVar 4)) [3, 4]) (gtN 2))
    (sRet (xUn gTuple (xLc (xRng1 (xVar 0)) (gtN 5) tvYes (xCall f_rest_in (xCons (xUn gSum (xLc (xZip (xVar 2) (xCall f_over (xCons (xVar 5) (xCons (xUn gLen (xVar 2)) xNil)))) (gtT 2 (gsC (gtN 3) (gsC (gtN 6) gsN))) tvYes (xOp gMul (xVar 3) (xVar 6)) [3, 6])) (xCons (xVar 0) xNil))) [5]))))
def f_map_in : List D → R D := mkFn 2 7 b_map_in
def b_need_row : Sv := (sSeq (sDrop (xCall f_need_n (xCons (xVar 0) xNil)))
    (sIf (tvNot (tvOf (xCall f_is_row_in (xCons (xVar 0) (xCons (xVar 1) xNil))))) (fun _ => .no) sNx))
def f_need_row : List D → R D := mkFn 2 2 b_need_row
def b_keeping_map : Sv := (sSeq (sDrop (xCall f_need_row (xCons (xVar 0) (xCons (xVar 1) xNil))))
    (sRet (xCall f_map_in (xCons (xVar 0) (xCons (xVar 1) xNil)))))
def f_keeping_map : List D → R D := mkFn 2 2 b_keeping_map
def b_row_in : Sv := (sSeq (sPar [2, 3] (mOwn (xLst xNil) (mFro (xUn gList (xVar 1)) mNil)))
    (sSeq (sFor (xIt (xCall f_gauges_in (xCons (xVar 0) xNil))) (gtN 4) (sSeq (sApp 2 (xOp gDiv (xCall f_rest_in (xCons (xOp gIdx (xVar 3) (xC (.int 0))) (xCons (xVar 0) xNil))) (xVar 4)))
    (sAsg (xLc (xZip (xVar 3) (xSl (xVar 3) (oSome (xC (.int 1))) oNone)) (gtT 2 (gsC (gtN 5) (gsC (gtN 6) gsN))) tvYes (xOp gSub (xVar 6) (xVar 5)) [5, 6]) (gtN 3))))
    (sRet (xUn gTuple (xVarO 2)))))
def f_row_in : List D → R D := mkFn 2 7 b_row_in
def b_keeping_row : Sv := (sSeq (sDrop (xCall f_need_map (xCons (xVar 0) (xCons (xVar 1) xNil))))
    (sSeq (sIf (tvOf (xUn gNotN (xCall f_break_in (xCons (xVar 0) (xCons (xVar 1) xNil))))) (fun _ => .no) sNx)
    (sRet (xCall f_row_in (xCons (xVar 0) (xCons (xVar 1) xNil))))))
def f_keeping_row : List D → R D := mkFn 2 2 b_keeping_row
def b_power : Sv := (sSeq (sDrop (xCall f_need_whole (xCons (xVar 1) (xCons (xC (.int 0)) (xCons (xC (.int 600)) xNil)))))
    (sSeq (sAsg (xC (.int 1)) (gtN 2))
    (sSeq (sFor (xRng1 (xVar 1)) (gtN 3) (sAsg (xOp gMul (xVar 2) (xVar 0)) (gtN 2)))
    (sRet (xVar 2)))))
def f_power : List D → R D := mkFn 2 4 b_power
def b_rooms_in : Sv := (sSeq (sPar [1, 2] (mOwn (xLst xNil) (mFro (xC (.int 1)) mNil)))
    (sSeq (sFor (xRng2 (xC (.int 1)) (xOp gAdd (xVar 0) (xC (.int 1)))) (gtN 3) (sSeq (sIf (tvOf (xOp gEq (xVar 2) (xVar 0))) (fun ρ => .bk ρ) sNx)
    (sSeq (sApp 1 (xOp gDiv (xVar 0) (xVar 2)))
    (sAsg (xCall f_common_in (xCons (xVar 0) (xCons (xOp gMul (xVar 2) (xVar 3)) xNil))) (gtN 2)))))
    (sRet (xUn gTuple (xVarO 1)))))
def f_rooms_in : List D → R D := mkFn 1 4 b_rooms_in
def b_top_in : Sv := (sRet (xUn gLen (xCall f_rooms_in (xCons (xVar 0) xNil))))
def f_top_in : List D → R D := mkFn 1 1 b_top_in
def b_lifts : Sv := (sSeq (sAsg (xC (.int 1)) (gtN 2))
    (sSeq (sFor (xRng2 (xC (.int 3)) (xOp gAdd (xVar 1) (xC (.int 1)))) (gtN 3) (sAsg (xOp gMul (xVar 2) (xCall f_power (xCons (xVar 0) (xCons (xCall f_top_in (xCons (xCall f_power (xCons (xVar 0) (xCons (xVar 3) xNil))) xNil)) xNil)))) (gtN 2)))
    (sRet (xVar 2))))
def f_lifts : List D → R D := mkFn 2 4 b_lifts
def b_lifts_in : Sv := (sSeq (sAsg (xCall f_raised (xCons (xVar 1) (xCons (xVar 2) xNil))) (gtN 4))
    (sRet (xLc (xRng1 (xVar 1)) (gtN 5) (tvOf (xOp gEq (xCall f_rest_at (xCons (xVar 0) (xCons (xOp gAdd (xVar 3) (xOp gMul (xVar 5) (xVar 4))) (xCons (xOp gMul (xVar 4) (xVar 1)) xNil)))) (xC (.int 0)))) (xOp gAdd (xVar 3) (xOp gMul (xVar 5) (xVar 4))) [5])))
def f_lifts_in : List D → R D := mkFn 4 6 b_lifts_in
def b_map_of : Sv := (sSeq (sDrop (xCall f_need_poly (xCons (xVar 0) xNil)))
    (sSeq (sDrop (xCall f_need_n (xCons (xVar 1) xNil)))
    (sRet (xUn gTuple (xLc (xRng1 (xVar 1)) (gtN 2) tvYes (xCall f_rest_at (xCons (xVar 0) (xCons (xVar 2) (xCons (xVar 1) xNil)))) [2])))))
def f_map_of : List D → R D := mkFn 2 3 b_map_of
def b_need_pairs : Sv := (sSeq (sIf (tvOr (tvNot (tvOf (xCall f_is_tuple_of (xCons (xVar 0) (xCons (xC (.int 0)) (xCons (xC (.int 52)) xNil)))))) (tvNot (tvOf (xUn gAll (xLc (xIt (xVar 0)) (gtN 1) tvYes (xCall f_is_pair (xCons (xVar 1) xNil)) [1]))))) (fun _ => .no) sNx)
    (sIf (tvNot (tvOf (xCall f_is_ascending (xCons (xUn gTuple (xLc (xIt (xVar 0)) (gtT 2 (gsC (gtN 2) (gsC (gtN 3) gsN))) tvYes (xVar 2) [2, 3])) xNil)))) (fun _ => .no) sNx))
def f_need_pairs : List D → R D := mkFn 1 4 b_need_pairs
def b_need_power : Sv := (sIf (tvOr (tvNot (tvOf (xCall f_is_whole (xCons (xVar 1) (xCons (xC (.int 1)) (xCons (xC (.int 200)) xNil)))))) (tvOf (xOp gGt (xCall f_raised (xCons (xVar 0) (xCons (xVar 1) xNil))) (xVar 2)))) (fun _ => .no) sNx)
def f_need_power : List D → R D := mkFn 3 3 b_need_power
def b_need_prime_2 : Sv := (sIf (tvNot (tvOf (xCall f_is_prime (xCons (xVar 0) xNil)))) (fun _ => .no) sNx)
def f_need_prime_2 : List D → R D := mkFn 1 1 b_need_prime_2
def b_product_to : Sv := (sSeq (sAsg (xC (.int 1)) (gtN 1))
    (sSeq (sFor (xRng2 (xC (.int 2)) (xOp gAdd (xVar 0) (xC (.int 1)))) (gtN 2) (sAsg (xOp gMul (xVar 1) (xVar 2)) (gtN 1)))
    (sRet (xVar 1))))
def f_product_to : List D → R D := mkFn 1 3 b_product_to
def b_one_round_by : Sv := (sSeq (sIf (tvOf (xOp gEq (xVar 1) (xC (.int 1)))) (sRet (xCall f_product_to (xCons (xOp gSub (xVar 0) (xC (.int 1))) xNil))) sNx)
    (sSeq (sAsg (xOp gMul (xOp gMul (xOp gMul (xCall f_product_to (xCons (xOp gSub (xVar 0) (xC (.int 1))) xNil)) (xCall f_power (xCons (xOp gSub (xVar 0) (xC (.int 1))) (xCons (xVar 0) xNil)))) (xCall f_power (xCons (xVar 0) (xCons (xOp gSub (xVar 0) (xC (.int 1))) xNil)))) (xCall f_lifts (xCons (xVar 0) (xCons (xVar 1) xNil)))) (gtN 2))
    (sRet (xIte (tvAnd (tvOf (xOp gGt (xVar 1) (xC (.int 2)))) (tvOf (xOp gLt (xVar 0) (xC (.int 4))))) (xOp gDiv (xOp gMul (xVar 2) (xOp gSub (xVar 0) (xC (.int 1)))) (xVar 0)) (xVar 2)))))
def f_one_round_by : List D → R D := mkFn 2 3 b_one_round_by
def b_power_row : Sv := (sSeq (sDrop (xCall f_need_n (xCons (xVar 0) xNil)))
    (sRet (xCall f_powers_in (xCons (xVar 0) xNil))))
def f_power_row : List D → R D := mkFn 1 1 b_power_row
def b_root_split : Sv := (sSeq (sDrop (xCall f_need_poly (xCons (xVar 0) xNil)))
    (sSeq (sDrop (xCall f_need_n (xCons (xVar 1) xNil)))
    (sRet (xUn gTuple (xLc (xIt (xCall f_powers_in (xCons (xVar 1) xNil))) (gtN 2) tvYes (xUn gTuple (xCall f_roots_in (xCons (xVar 0) (xCons (xVar 2) xNil)))) [2])))))
def f_root_split : List D → R D := mkFn 2 3 b_root_split
def b_roots : Sv := (sSeq (sDrop (xCall f_need_poly (xCons (xVar 0) xNil)))
    (sSeq (sDrop (xCall f_need_n (xCons (xVar 1) xNil)))
    (sRet (xUn gTuple (xCall f_roots_in (xCons (xVar 0) (xCons (xVar 1) xNil)))))))
def f_roots : List D → R D := mkFn 2 2 b_roots
def b_roots_many : Sv := (sSeq (sDrop (xCall f_need_poly (xCons (xVar 0) xNil)))
    (sSeq (sDrop (xCall f_need_pairs (xCons (xVar 1) xNil)))
    (sSeq (sAsg (xC (.int 1)) (gtN 2))
    (sSeq (sFor (xIt (xVar 1)) (gtT 2 (gsC (gtN 3) (gsC (gtN 4) gsN))) (sAsg (xOp gMul (xVar 2) (xUn gLen (xCall f_roots_in (xCons (xVar 0) (xCons (xCall f_raised (xCons (xVar 3) (xCons (xVar 4) xNil))) xNil))))) (gtN 2)))
    (sRet (xVar 2))))))
def f_roots_many : List D → R D := mkFn 2 5 b_roots_many
def b_slope_at : Sv := (sRet (xCall f_rest_at (xCons (xSl (xLc (xEnum (xVar 0)) (gtT 2 (gsC (gtN 3) (gsC (gtN 4) gsN))) tvYes (xOp gMul (xVar 3) (xVar 4)) [3, 4]) (oSome (xC (.int 1))) oNone) (xCons (xVar 1) (xCons (xVar 2) xNil)))))
def f_slope_at : List D → R D := mkFn 3 5 b_slope_at
def b_simple_root : Sv := (sSeq (sDrop (xCall f_need_poly (xCons (xVar 0) xNil)))
    (sSeq (sDrop (xCall f_need_prime_2 (xCons (xVar 1) xNil)))
    (sSeq (sDrop (xCall f_need_power (xCons (xVar 1) (xCons (xVar 2) (xCons (xC (.int 1000000000000000000000000000000000000000000000000000000000000)) xNil)))))
    (sSeq (sDrop (xCall f_need_whole (xCons (xVar 3) (xCons (xC (.int 0)) (xCons (xOp gSub (xVar 1) (xC (.int 1))) xNil)))))
    (sSeq (sIf (tvOf (xOp gNe (xCall f_rest_at (xCons (xVar 0) (xCons (xVar 3) (xCons (xVar 1) xNil)))) (xC (.int 0)))) (fun _ => .no) sNx)
    (sSeq (sIf (tvOf (xOp gEq (xCall f_slope_at (xCons (xVar 0) (xCons (xVar 3) (xCons (xVar 1) xNil)))) (xC (.int 0)))) (fun _ => .no) sNx)
    (sSeq (sAsg (xVar 3) (gtN 4))
    (sSeq (sFor (xRng2 (xC (.int 1)) (xVar 2)) (gtN 5) (sAsg (xOp gIdx (xCall f_lifts_in (xCons (xVar 0) (xCons (xVar 1) (xCons (xVar 5) (xCons (xVar 4) xNil))))) (xC (.int 0))) (gtN 4)))
    (sRet (xCall f_rest_in (xCons (xVar 4) (xCons (xCall f_raised (xCons (xVar 1) (xCons (xVar 2) xNil))) xNil))))))))))))
def f_simple_root : List D → R D := mkFn 4 6 b_simple_root
def b_split_bar : Sv := (sSeq (sDrop (xCall f_need_n (xCons (xVar 0) xNil)))
    (sSeq (sDrop (xCall f_need_map (xCons (xVar 0) (xCons (xVar 1) xNil))))
    (sRet (xCall f_bar_in (xCons (xVar 0) (xCons (xVar 1) xNil))))))
def f_split_bar : List D → R D := mkFn 2 2 b_split_bar
def b_split_in : Sv := (sRet (xUn gTuple (xLc (xIt (xCall f_powers_in (xCons (xVar 1) xNil))) (gtN 2) tvYes (xCall f_rest_in (xCons (xVar 0) (xCons (xVar 2) xNil))) [2])))
def f_split_in : List D → R D := mkFn 2 3 b_split_in
def b_split_map : Sv := (sSeq (sDrop (xCall f_need_n (xCons (xVar 0) xNil)))
    (sSeq (sDrop (xCall f_need_map (xCons (xVar 0) (xCons (xVar 1) xNil))))
    (sSeq (sIf (tvOf (xUn gNotN (xCall f_bar_in (xCons (xVar 0) (xCons (xVar 1) xNil))))) (fun _ => .no) sNx)
    (sRet (xUn gTuple (xLc (xIt (xCall f_powers_in (xCons (xVar 0) xNil))) (gtN 2) tvYes (xUn gTuple (xLc (xRng1 (xVar 2)) (gtN 3) tvYes (xCall f_rest_in (xCons (xOp gIdx (xVar 1) (xVar 3)) (xCons (xVar 2) xNil))) [3])) [2]))))))
def f_split_map : List D → R D := mkFn 2 4 b_split_map
def b_split_poly : Sv := (sSeq (sDrop (xCall f_need_poly (xCons (xVar 0) xNil)))
    (sSeq (sDrop (xCall f_need_n (xCons (xVar 1) xNil)))
    (sRet (xUn gTuple (xLc (xIt (xCall f_powers_in (xCons (xVar 1) xNil))) (gtN 2) tvYes (xCall f_taken_in (xCons (xVar 0) (xCons (xVar 2) xNil))) [2])))))
def f_split_poly : List D → R D := mkFn 2 3 b_split_poly
def b_split_rest : Sv := (sSeq (sDrop (xCall f_need_whole (xCons (xVar 0) (xCons (xUn gNeg (xC (.int 1000000000000000000000000000000000000000000000000000000000000))) (xCons (xC (.int 1000000000000000000000000000000000000000000000000000000000000)) xNil)))))
    (sSeq (sDrop (xCall f_need_n (xCons (xVar 1) xNil)))
    (sRet (xCall f_split_in (xCons (xVar 0) (xCons (xVar 1) xNil))))))
def f_split_rest : List D → R D := mkFn 2 2 b_split_rest
def b_taken : Sv := (sSeq (sDrop (xCall f_need_poly (xCons (xVar 0) xNil)))
    (sSeq (sDrop (xCall f_need_n (xCons (xVar 1) xNil)))
    (sRet (xCall f_taken_in (xCons (xVar 0) (xCons (xVar 1) xNil))))))
def f_taken : List D → R D := mkFn 2 2 b_taken
def b_turning_by : Sv := (sSeq (sIf (tvOf (xOp gEq (xVar 1) (xC (.int 1)))) (sRet (xCall f_product_to (xCons (xVar 0) xNil))) sNx)
    (sRet (xOp gMul (xOp gMul (xOp gMul (xCall f_product_to (xCons (xVar 0) xNil)) (xCall f_power (xCons (xOp gSub (xVar 0) (xC (.int 1))) (xCons (xVar 0) xNil)))) (xCall f_power (xCons (xVar 0) (xCons (xVar 0) xNil)))) (xCall f_lifts (xCons (xVar 0) (xCons (xVar 1) xNil))))))
def f_turning_by : List D → R D := mkFn 2 2 b_turning_by
end LB
namespace Lk63
open PySem PySem.Spec PyProof.Rows L2 Sm
def b__law_cup : Sv := (sSeq (sAsg (xUn gAbs (xOp gIdx (xOp gAdd (xUn gList (xVar 0)) (xLst (xCons (xC (.int 0)) xNil))) (xC (.int 0)))) (gtN 1))
    (sRetN (xLst (xCons (xIte (tvOf (xOp gGe (xVar 1) (xOp gPow (xC (.int 10)) (xC (.int 18))))) (xOp gDiv (xVar 1) (xC (.int 403))) (xC (.int 0))) (xCons (xOp gAdd (xOp gMod (xUn gInt (xOp gAdd (xOp gMul (xVar 1) (xC (.int 622))) (xC (.int 6703)))) (xC (.int 1994060489))) (xC (.int 443))) xNil)))))
def f__law_cup : List D → R D := mkNw 1 2 b__law_cup
def b__law_part : Sv := (sSeq (sFor (xRng1 (xC (.int 2000))) (gtN 2) (sSeq (sIf (tvOf (xOp gEq (xVar 1) (xC (.int 0)))) (sRet (xVar 0)) sNx)
    (sPar [0, 1] (mFro (xVar 1) (mFro (xOp gMod (xUn gInt (xVar 0)) (xVar 1)) mNil)))))
    (sRet (xVar 0)))
def f__law_part : List D → R D := mkFn 2 3 b__law_part
def b__law_falls : Sv := (sSeq (sPar [1, 2] (mFro (xLst (xCons (xOp gSub (xCallIo LB.f__law_roll 0 (xCons (xC (.int 99)) xNil)) (xC (.int 49))) xNil)) (mFro (xLst (xCons (xC (.int 1)) xNil)) mNil)))
    (sSeq (sFor (xRng1 (xOp gAdd (xC (.int 1)) (xCallIo LB.f__law_roll 0 (xCons (xC (.int 5)) xNil)))) (gtN 3) (sSeq (sAsg (xLc (xZip (xOp gAdd (xLst (xCons (xC (.int 0)) xNil)) (xVar 2)) (xOp gAdd (xVar 2) (xLst (xCons (xC (.int 0)) xNil)))) (gtT 2 (gsC (gtN 5) (gsC (gtN 6) gsN))) tvYes (xOp gSub (xVar 5) (xOp gMul (xVar 3) (xVar 6))) [5, 6]) (gtN 2))
    (sSeq (sAsg (xCallIo LB.f__law_some 0 (xCons (xLst (xCons (xC (.int 0)) (xCons (xC (.int 1)) (xCons (xC (.int 2)) (xCons (xC (.int 6)) (xCons (xC (.int 12)) (xCons (xC (.int 60)) (xCons (xUn gNeg (xC (.int 30))) (xCons (xOp gAdd (xC (.int 1)) (xCallIo LB.f__law_roll 0 (xCons (xC (.int 40)) xNil))) xNil))))))))) xNil)) (gtN 4))
    (sAsg (xLc (xZip (xOp gAdd (xVar 1) (xOp gMul (xLst (xCons (xC (.int 0)) xNil)) (xOp gSub (xUn gLen (xVar 2)) (xUn gLen (xVar 1))))) (xVar 2)) (gtT 2 (gsC (gtN 5) (gsC (gtN 6) gsN))) tvYes (xOp gAdd (xVar 5) (xOp gMul (xVar 4) (xVar 6))) [5, 6]) (gtN 1)))))
    (sRet (xCall LB.f__law_tidied (xCons (xVar 1) xNil)))))
def f__law_falls : D → List D → R (D × D) := mkIo 1 7 b__law_falls
def b__law_fixed_right : Sv := (sSeq (sAsg (xTup (xCons (xC (.int 0)) (xCons (xUn gNeg (xC (.int 1))) (xCons (xC (.int 0)) (xCons (xC (.int 1)) xNil))))) (gtN 1))
    (sSeq (sAsg (xLst (xCons (xCall LB.f_is_constant (xCons (xTup (xCons (xC (.int 5)) (xCons (xUn gNeg (xC (.int 1))) (xCons (xC (.int 0)) (xCons (xC (.int 1)) xNil))))) (xCons (xC (.int 6)) xNil))) (xCons (xCall LB.f_is_constant (xCons (xVar 1) (xCons (xC (.int 4)) xNil))) (xCons (xCall LB.f_first_other (xCons (xVar 1) (xCons (xC (.int 4)) xNil))) (xCons (xCall LB.f_first_other (xCons (xVar 1) (xCons (xC (.int 6)) xNil))) (xCons (xCall LB.f_constant_part (xCons (xVar 1) xNil)) (xCons (xCall LB.f_constant_by (xCons (xVar 1) xNil)) xNil))))))) (gtN 2))
    (sSeq (sIf (tvNot (tvOf (xCall (LB.f__law_like_2 8) (xCons (xVar 2) (xCons (xLst (xCons (xC (.bl true)) (xCons (xC (.bl false)) (xCons (xC (.int 2)) (xCons (xC .non) (xCons (xC (.int 6)) (xCons (xTup (xCons (xC (.int 1)) (xCons (xC (.int 2)) (xCons (xC (.int 3)) (xCons (xC (.int 6)) xNil))))) xNil))))))) xNil))))) (sRet (xC (.bl false))) sNx)
    (sSeq (sAsg (xLst (xCons (xCall LB.f_constant_part (xCons (xTup (xCons (xC (.int 7)) xNil)) xNil)) (xCons (xCall LB.f_constant_by (xCons (xTup (xCons (xC (.int 7)) xNil)) xNil)) (xCons (xCall LB.f_constant_part (xCons (xTup (xCons (xC (.int 0)) (xCons (xC (.int 0)) (xCons (xC (.int 1)) xNil)))) xNil)) (xCons (xCall LB.f_constant_part (xCons (xTup (xCons (xC (.int 0)) (xCons (xUn gNeg (xC (.int 1))) (xCons (xC (.int 0)) (xCons (xC (.int 0)) (xCons (xC (.int 0)) (xCons (xC (.int 1)) xNil))))))) xNil)) (xCons (xCall LB.f_constant_by (xCons (xTup (xCons (xC (.int 0)) (xCons (xC (.int 0)) (xCons (xC (.int 1)) xNil)))) xNil)) xNil)))))) (gtN 2))
    (sSeq (sAsg (xLst (xCons (xC (.int 0)) (xCons (xUn gTuple (xLc (xRng2 (xC (.int 1)) (xC (.int 241))) (gtN 4) tvYes (xVar 4) [4])) (xCons (xC (.int 1)) (xCons (xC (.int 30)) (xCons (xTup (xCons (xC (.int 1)) xNil)) xNil)))))) (gtN 3))
    (sSeq (sAsg (xOp gAdd (xVar 2) (xLst (xCons (xCall LB.f_constant_part (xCons (xTup xNil) xNil)) (xCons (xCall LB.f_is_constant (xCons (xTup xNil) (xCons (xC (.int 240)) xNil))) (xCons (xCall LB.f_first_other (xCons (xTup (xCons (xC (.int 0)) (xCons (xC (.int 1)) xNil))) (xCons (xC (.int 1)) xNil))) (xCons (xCall LB.f_first_other (xCons (xTup (xCons (xC (.int 0)) (xCons (xC (.int 1)) xNil))) (xCons (xC (.int 2)) xNil))) (xCons (xCall LB.f_constant_by (xCons (xTup (xCons (xC (.int 0)) (xCons (xC (.int 240)) xNil))) xNil)) xNil))))))) (gtN 2))
    (sSeq (sAsg (xOp gAdd (xVar 3) (xLst (xCons (xC (.int 0)) (xCons (xC (.bl true)) (xCons (xC .non) (xCons (xC (.int 1)) (xCons (xUn gTuple (xLc (xRng2 (xC (.int 1)) (xC (.int 241))) (gtN 4) (tvOf (xOp gEq (xOp gMod (xUn gInt (xC (.int 240))) (xVar 4)) (xC (.int 0)))) (xVar 4) [4])) xNil))))))) (gtN 3))
    (sRet (xAnd (xCall (LB.f__law_like_2 8) (xCons (xVar 2) (xCons (xVar 3) xNil))) (xCall (LB.f__law_like_2 8) (xCons (xCall LB.f_constant_part (xCons (xTup (xCons (xC (.int 3)) (xCons (xOp gPow (xC (.int 10)) (xC (.int 60))) xNil))) xNil)) (xCons (xOp gPow (xC (.int 10)) (xC (.int 60))) xNil))))))))))))
def f__law_fixed_right : List D → R D := mkFn 0 5 b__law_fixed_right
def b__law_right : Sv := (sSeq (sAsg (xIte (tvOf (xOp gGt (xCallIo LB.f__law_roll 0 (xCons (xC (.int 3)) xNil)) (xC (.int 0)))) (xCallIo f__law_falls 0 xNil) (xCallIo LB.f__law_poly_2 0 (xCons (xC (.int 5)) xNil))) (gtN 1))
    (sSeq (sAsg (xTup (xCons (xCall LB.f__law_value_2 (xCons (xVar 1) (xCons (xC (.int 0)) xNil))) (xCons (xC (.int 0)) xNil))) (gtT 2 (gsC (gtN 2) (gsC (gtN 3) gsN))))
    (sSeq (sFor (xRng2 (xUn gNeg (xC (.int 9))) (xC (.int 30))) (gtN 4) (sAsg (xCall f__law_part (xCons (xVar 3) (xCons (xUn gAbs (xOp gSub (xCall LB.f__law_value_2 (xCons (xVar 1) (xCons (xVar 4) xNil))) (xVar 2))) xNil))) (gtN 3)))
    (sSeq (sIf (tvNot (tvOf (xCall (LB.f__law_like_2 8) (xCons (xLst (xCons (xCall LB.f_constant_part (xCons (xVar 1) xNil)) (xCons (xCall LB.f_constant_by (xCons (xVar 1) xNil)) xNil))) (xCons (xLst (xCons (xVar 3) (xCons (xUn gTuple (xLc (xRng2 (xC (.int 1)) (xC (.int 241))) (gtN 6) (tvOf (xOp gEq (xOp gMod (xUn gInt (xVar 3)) (xVar 6)) (xC (.int 0)))) (xVar 6) [6])) xNil))) xNil))))) (sRet (xC (.bl false))) sNx)
    (sSeq (sFor (xRng1 (xC (.int 4))) (gtN 5) (sSeq (sAsg (xCallIo LB.f__law_some 0 (xCons (xLst (xCons (xOp gAdd (xC (.int 1)) (xCallIo LB.f__law_roll 0 (xCons (xC (.int 240)) xNil))) (xCons (xOp gAdd (xC (.int 1)) (xCallIo LB.f__law_roll 0 (xCons (xC (.int 12)) xNil))) xNil))) xNil)) (gtN 6))
    (sSeq (sAsg (xLc (xRng1 (xVar 6)) (gtN 4) (tvOf (xOp gNe (xOp gMod (xUn gInt (xOp gSub (xCall LB.f__law_value_2 (xCons (xVar 1) (xCons (xVar 4) xNil))) (xVar 2))) (xVar 6)) (xC (.int 0)))) (xVar 4) [4]) (gtN 7))
    (sIf (tvNot (tvOf (xCall (LB.f__law_like_2 8) (xCons (xLst (xCons (xCall LB.f_is_constant (xCons (xVar 1) (xCons (xVar 6) xNil))) (xCons (xCall LB.f_first_other (xCons (xVar 1) (xCons (xVar 6) xNil))) xNil))) (xCons (xLst (xCons (xOp gEq (xVar 7) (xLst xNil)) (xCons (xIte (tvOf (xOp gNe (xVar 7) (xLst xNil))) (xOp gIdx (xVar 7) (xC (.int 0))) (xC .non)) xNil))) xNil))))) (sRet (xC (.bl false))) sNx))))
    (sRet (xC (.bl true))))))))
def f__law_right : D → List D → R (D × D) := mkIo 1 8 b__law_right
def b_law : Sv := (sSeq (sIf (tvNot (tvOf (xCall f__law_fixed_right xNil))) (sRet (xC (.bl false))) sNx)
    (sSeq (sOwn (xCall f__law_cup (xCons (xVar 0) xNil)) 1)
    (sSeq (sFor (xRng1 (xC (.int 8))) (gtN 2) (sIf (tvNot (tvOf (xCallIo f__law_right 1 xNil))) (sRet (xC (.bl false))) sNx))
    (sRet (xC (.bl true))))))
def f_law : List D → R D := mkFn 1 3 b_law
end Lk63
namespace Lk63
open PySem PySem.Spec PyProof.Rows L2 Sm
def topS (i : Nat) : Stmt := PySem.Challenge.pw_restsmapped_k63_whole_constant_polynomia.main.body.getD i (.Pass ⟨0, 0, 0, 0⟩)
abbrev s_is_whole : Stmt := topS 5
abbrev s_need_whole : Stmt := topS 6
abbrev s_is_tuple_of : Stmt := topS 7
abbrev s_is_poly : Stmt := topS 11
abbrev s_need_poly : Stmt := topS 12
abbrev s_value_at : Stmt := topS 13
abbrev s_need_n : Stmt := topS 16
abbrev s_rest_in : Stmt := topS 17
abbrev s_rest_at : Stmt := topS 18
abbrev s_common_in : Stmt := topS 19
abbrev s_constant_in : Stmt := topS 21
abbrev s_is_constant : Stmt := topS 22
abbrev s_first_other : Stmt := topS 23
abbrev s_constant_part : Stmt := topS 24
abbrev s_constant_by : Stmt := topS 25
abbrev s__law_cup : Stmt := topS 27
abbrev s__law_roll : Stmt := topS 28
abbrev s__law_some : Stmt := topS 29
abbrev s__law_sort : Stmt := topS 30
abbrev s__law_like : Stmt := topS 31
abbrev s__law_value : Stmt := topS 32
abbrev s__law_tidied : Stmt := topS 33
abbrev s__law_poly : Stmt := topS 34
abbrev s__law_part : Stmt := topS 35
abbrev s__law_falls : Stmt := topS 36
abbrev s__law_fixed_right : Stmt := topS 37
abbrev s__law_right : Stmt := topS 38
abbrev s_law : Stmt := topS 39
theorem sc_is_whole : FnScope ["value", "low", "high"] ["value", "low", "high"] (defScope s_is_whole) := ⟨rfl, rfl, rfl, by decide +kernel, rfl, by decide +kernel, by decide +kernel⟩
theorem sc_need_whole : FnScope ["value", "low", "high"] ["value", "low", "high"] (defScope s_need_whole) := ⟨rfl, rfl, rfl, by decide +kernel, rfl, by decide +kernel, by decide +kernel⟩
theorem sc_is_tuple_of : FnScope ["value", "low", "high"] ["value", "low", "high"] (defScope s_is_tuple_of) := ⟨rfl, rfl, rfl, by decide +kernel, rfl, by decide +kernel, by decide +kernel⟩
theorem sc_is_poly : FnScope ["value", "part"] ["value"] (defScope s_is_poly) := ⟨rfl, rfl, rfl, by decide +kernel, rfl, by decide +kernel, by decide +kernel⟩
theorem sc_need_poly : FnScope ["f"] ["f"] (defScope s_need_poly) := ⟨rfl, rfl, rfl, by decide +kernel, rfl, by decide +kernel, by decide +kernel⟩
theorem sc_value_at : FnScope ["f", "number", "found", "part"] ["f", "number"] (defScope s_value_at) := ⟨rfl, rfl, rfl, by decide +kernel, rfl, by decide +kernel, by decide +kernel⟩
theorem sc_need_n : FnScope ["n"] ["n"] (defScope s_need_n) := ⟨rfl, rfl, rfl, by decide +kernel, rfl, by decide +kernel, by decide +kernel⟩
theorem sc_rest_in : FnScope ["number", "n"] ["number", "n"] (defScope s_rest_in) := ⟨rfl, rfl, rfl, by decide +kernel, rfl, by decide +kernel, by decide +kernel⟩
theorem sc_rest_at : FnScope ["parts", "number", "n", "found", "part"] ["parts", "number", "n"] (defScope s_rest_at) := ⟨rfl, rfl, rfl, by decide +kernel, rfl, by decide +kernel, by decide +kernel⟩
theorem sc_common_in : FnScope ["one", "other"] ["one", "other"] (defScope s_common_in) := ⟨rfl, rfl, rfl, by decide +kernel, rfl, by decide +kernel, by decide +kernel⟩
theorem sc_constant_in : FnScope ["f", "found", "first", "x"] ["f"] (defScope s_constant_in) := ⟨rfl, rfl, rfl, by decide +kernel, rfl, by decide +kernel, by decide +kernel⟩
theorem sc_is_constant : FnScope ["f", "n"] ["f", "n"] (defScope s_is_constant) := ⟨rfl, rfl, rfl, by decide +kernel, rfl, by decide +kernel, by decide +kernel⟩
theorem sc_first_other : FnScope ["f", "n", "first", "x"] ["f", "n"] (defScope s_first_other) := ⟨rfl, rfl, rfl, by decide +kernel, rfl, by decide +kernel, by decide +kernel⟩
theorem sc_constant_part : FnScope ["f"] ["f"] (defScope s_constant_part) := ⟨rfl, rfl, rfl, by decide +kernel, rfl, by decide +kernel, by decide +kernel⟩
theorem sc_constant_by : FnScope ["f", "part", "n"] ["f"] (defScope s_constant_by) := ⟨rfl, rfl, rfl, by decide +kernel, rfl, by decide +kernel, by decide +kernel⟩
theorem sc__law_cup : FnScope ["script", "cell"] ["script"] (defScope s__law_cup) := ⟨rfl, rfl, rfl, by decide +kernel, rfl, by decide +kernel, by decide +kernel⟩
theorem sc__law_roll : FnScope ["cup", "many", "found", "deep"] ["cup", "many"] (defScope s__law_roll) := ⟨rfl, rfl, rfl, by decide +kernel, rfl, by decide +kernel, by decide +kernel⟩
theorem sc__law_some : FnScope ["cup", "things"] ["cup", "things"] (defScope s__law_some) := ⟨rfl, rfl, rfl, by decide +kernel, rfl, by decide +kernel, by decide +kernel⟩
theorem sc__law_sort : FnScope ["value"] ["value"] (defScope s__law_sort) := ⟨rfl, rfl, rfl, by decide +kernel, rfl, by decide +kernel, by decide +kernel⟩
theorem sc__law_like : FnScope ["one", "other", "left", "right"] ["one", "other"] (defScope s__law_like) := ⟨rfl, rfl, rfl, by decide +kernel, rfl, by decide +kernel, by decide +kernel⟩
theorem sc__law_value : FnScope ["f", "x", "found", "part"] ["f", "x"] (defScope s__law_value) := ⟨rfl, rfl, rfl, by decide +kernel, rfl, by decide +kernel, by decide +kernel⟩
theorem sc__law_tidied : FnScope ["parts", "many", "turn"] ["parts"] (defScope s__law_tidied) := ⟨rfl, rfl, rfl, by decide +kernel, rfl, by decide +kernel, by decide +kernel⟩
theorem sc__law_poly : FnScope ["cup", "most", "parts", "turn", "part"] ["cup", "most"] (defScope s__law_poly) := ⟨rfl, rfl, rfl, by decide +kernel, rfl, by decide +kernel, by decide +kernel⟩
theorem sc__law_part : FnScope ["one", "other", "turn"] ["one", "other"] (defScope s__law_part) := ⟨rfl, rfl, rfl, by decide +kernel, rfl, by decide +kernel, by decide +kernel⟩
theorem sc__law_falls : FnScope ["cup", "found", "fall", "k", "many", "left", "right"] ["cup"] (defScope s__law_falls) := ⟨rfl, rfl, rfl, by decide +kernel, rfl, by decide +kernel, by decide +kernel⟩
theorem sc__law_fixed_right : FnScope ["_dummy", "c", "told", "due", "n"] [] (defScope s__law_fixed_right) := ⟨rfl, rfl, rfl, by decide +kernel, rfl, by decide +kernel, by decide +kernel⟩
theorem sc__law_right : FnScope ["cup", "f", "first", "part", "x", "turn", "n", "others"] ["cup"] (defScope s__law_right) := ⟨rfl, rfl, rfl, by decide +kernel, rfl, by decide +kernel, by decide +kernel⟩
theorem sc_law : FnScope ["script", "cup", "turn"] ["script"] (defScope s_law) := ⟨rfl, rfl, rfl, by decide +kernel, rfl, by decide +kernel, by decide +kernel⟩
structure Txt (K : PySem.W.Frag) (mg : Str → Option Value) : Type where
  a_is_whole : Addr
  d_is_whole : FuncData
  F_is_whole : Fun K "is_whole" "is_whole" s_is_whole a_is_whole d_is_whole
  g_is_whole : mg "is_whole" = some (.ref a_is_whole)
  b_is_whole : Binds K d_is_whole ["value", "low", "high"] []
  a_need_whole : Addr
  d_need_whole : FuncData
  F_need_whole : Fun K "need_whole" "need_whole" s_need_whole a_need_whole d_need_whole
  g_need_whole : mg "need_whole" = some (.ref a_need_whole)
  b_need_whole : Binds K d_need_whole ["value", "low", "high"] []
  a_is_tuple_of : Addr
  d_is_tuple_of : FuncData
  F_is_tuple_of : Fun K "is_tuple_of" "is_tuple_of" s_is_tuple_of a_is_tuple_of d_is_tuple_of
  g_is_tuple_of : mg "is_tuple_of" = some (.ref a_is_tuple_of)
  b_is_tuple_of : Binds K d_is_tuple_of ["value", "low", "high"] []
  a_is_poly : Addr
  d_is_poly : FuncData
  F_is_poly : Fun K "is_poly" "is_poly" s_is_poly a_is_poly d_is_poly
  g_is_poly : mg "is_poly" = some (.ref a_is_poly)
  b_is_poly : Binds K d_is_poly ["value"] []
  a_need_poly : Addr
  d_need_poly : FuncData
  F_need_poly : Fun K "need_poly" "need_poly" s_need_poly a_need_poly d_need_poly
  g_need_poly : mg "need_poly" = some (.ref a_need_poly)
  b_need_poly : Binds K d_need_poly ["f"] []
  a_value_at : Addr
  d_value_at : FuncData
  F_value_at : Fun K "value_at" "value_at" s_value_at a_value_at d_value_at
  g_value_at : mg "value_at" = some (.ref a_value_at)
  b_value_at : Binds K d_value_at ["f", "number"] []
  a_need_n : Addr
  d_need_n : FuncData
  F_need_n : Fun K "need_n" "need_n" s_need_n a_need_n d_need_n
  g_need_n : mg "need_n" = some (.ref a_need_n)
  b_need_n : Binds K d_need_n ["n"] []
  a_rest_in : Addr
  d_rest_in : FuncData
  F_rest_in : Fun K "rest_in" "rest_in" s_rest_in a_rest_in d_rest_in
  g_rest_in : mg "rest_in" = some (.ref a_rest_in)
  b_rest_in : Binds K d_rest_in ["number", "n"] []
  a_rest_at : Addr
  d_rest_at : FuncData
  F_rest_at : Fun K "rest_at" "rest_at" s_rest_at a_rest_at d_rest_at
  g_rest_at : mg "rest_at" = some (.ref a_rest_at)
  b_rest_at : Binds K d_rest_at ["parts", "number", "n"] []
  a_common_in : Addr
  d_common_in : FuncData
  F_common_in : Fun K "common_in" "common_in" s_common_in a_common_in d_common_in
  g_common_in : mg "common_in" = some (.ref a_common_in)
  b_common_in : Binds K d_common_in ["one", "other"] []
  a_constant_in : Addr
  d_constant_in : FuncData
  F_constant_in : Fun K "constant_in" "constant_in" s_constant_in a_constant_in d_constant_in
  g_constant_in : mg "constant_in" = some (.ref a_constant_in)
  b_constant_in : Binds K d_constant_in ["f"] []
  a_is_constant : Addr
  d_is_constant : FuncData
  F_is_constant : Fun K "is_constant" "is_constant" s_is_constant a_is_constant d_is_constant
  g_is_constant : mg "is_constant" = some (.ref a_is_constant)
  b_is_constant : Binds K d_is_constant ["f", "n"] []
  a_first_other : Addr
  d_first_other : FuncData
  F_first_other : Fun K "first_other" "first_other" s_first_other a_first_other d_first_other
  g_first_other : mg "first_other" = some (.ref a_first_other)
  b_first_other : Binds K d_first_other ["f", "n"] []
  a_constant_part : Addr
  d_constant_part : FuncData
  F_constant_part : Fun K "constant_part" "constant_part" s_constant_part a_constant_part d_constant_part
  g_constant_part : mg "constant_part" = some (.ref a_constant_part)
  b_constant_part : Binds K d_constant_part ["f"] []
  a_constant_by : Addr
  d_constant_by : FuncData
  F_constant_by : Fun K "constant_by" "constant_by" s_constant_by a_constant_by d_constant_by
  g_constant_by : mg "constant_by" = some (.ref a_constant_by)
  b_constant_by : Binds K d_constant_by ["f"] []
  a__law_cup : Addr
  d__law_cup : FuncData
  F__law_cup : Fun K "_law_cup" "_law_cup" s__law_cup a__law_cup d__law_cup
  g__law_cup : mg "_law_cup" = some (.ref a__law_cup)
  b__law_cup : Binds K d__law_cup ["script"] []
  a__law_roll : Addr
  d__law_roll : FuncData
  F__law_roll : Fun K "_law_roll" "_law_roll" s__law_roll a__law_roll d__law_roll
  g__law_roll : mg "_law_roll" = some (.ref a__law_roll)
  b__law_roll : Binds K d__law_roll ["cup", "many"] []
  a__law_some : Addr
  d__law_some : FuncData
  F__law_some : Fun K "_law_some" "_law_some" s__law_some a__law_some d__law_some
  g__law_some : mg "_law_some" = some (.ref a__law_some)
  b__law_some : Binds K d__law_some ["cup", "things"] []
  a__law_sort : Addr
  d__law_sort : FuncData
  F__law_sort : Fun K "_law_sort" "_law_sort" s__law_sort a__law_sort d__law_sort
  g__law_sort : mg "_law_sort" = some (.ref a__law_sort)
  b__law_sort : Binds K d__law_sort ["value"] []
  a__law_like : Addr
  d__law_like : FuncData
  F__law_like : Fun K "_law_like" "_law_like" s__law_like a__law_like d__law_like
  g__law_like : mg "_law_like" = some (.ref a__law_like)
  b__law_like : Binds K d__law_like ["one", "other"] []
  a__law_value : Addr
  d__law_value : FuncData
  F__law_value : Fun K "_law_value" "_law_value" s__law_value a__law_value d__law_value
  g__law_value : mg "_law_value" = some (.ref a__law_value)
  b__law_value : Binds K d__law_value ["f", "x"] []
  a__law_tidied : Addr
  d__law_tidied : FuncData
  F__law_tidied : Fun K "_law_tidied" "_law_tidied" s__law_tidied a__law_tidied d__law_tidied
  g__law_tidied : mg "_law_tidied" = some (.ref a__law_tidied)
  b__law_tidied : Binds K d__law_tidied ["parts"] []
  a__law_poly : Addr
  d__law_poly : FuncData
  F__law_poly : Fun K "_law_poly" "_law_poly" s__law_poly a__law_poly d__law_poly
  g__law_poly : mg "_law_poly" = some (.ref a__law_poly)
  b__law_poly : Binds K d__law_poly ["cup", "most"] []
  a__law_part : Addr
  d__law_part : FuncData
  F__law_part : Fun K "_law_part" "_law_part" s__law_part a__law_part d__law_part
  g__law_part : mg "_law_part" = some (.ref a__law_part)
  b__law_part : Binds K d__law_part ["one", "other"] []
  a__law_falls : Addr
  d__law_falls : FuncData
  F__law_falls : Fun K "_law_falls" "_law_falls" s__law_falls a__law_falls d__law_falls
  g__law_falls : mg "_law_falls" = some (.ref a__law_falls)
  b__law_falls : Binds K d__law_falls ["cup"] []
  a__law_fixed_right : Addr
  d__law_fixed_right : FuncData
  F__law_fixed_right : Fun K "_law_fixed_right" "_law_fixed_right" s__law_fixed_right a__law_fixed_right d__law_fixed_right
  g__law_fixed_right : mg "_law_fixed_right" = some (.ref a__law_fixed_right)
  b__law_fixed_right : Binds K d__law_fixed_right [] []
  a__law_right : Addr
  d__law_right : FuncData
  F__law_right : Fun K "_law_right" "_law_right" s__law_right a__law_right d__law_right
  g__law_right : mg "_law_right" = some (.ref a__law_right)
  b__law_right : Binds K d__law_right ["cup"] []
  a_law : Addr
  d_law : FuncData
  F_law : Fun K "law" "law" s_law a_law d_law
  g_law : mg "law" = some (.ref a_law)
  b_law : Binds K d_law ["script"] []
  n_abs : mg "abs" = none
  n_all : mg "all" = none
  n_bool : mg "bool" = none
  n_int : mg "int" = none
  n_isinstance : mg "isinstance" = none
  n_len : mg "len" = none
  n_list : mg "list" = none
  n_range : mg "range" = none
  n_tuple : mg "tuple" = none
  n_zip : mg "zip" = none
  t_GREAT : Tok
  c_GREAT : mg "GREAT" = some (.int 1000000000000000000000000000000000000000000000000000000000000 t_GREAT)
  t_MOST : Tok
  c_MOST : mg "MOST" = some (.int 240 t_MOST)
  t_PARTS : Tok
  c_PARTS : mg "PARTS" = some (.int 240 t_PARTS)
def Gof (K : PySem.W.Frag) (B : Addr → Prop) : Gx := ⟨K, fun _ => 0, B⟩
section
variable {P : Program} {w : World} {K : PySem.W.Frag} {mg : Str → Option Value} {base : Heap}
theorem ok_is_whole (T : Txt K mg) (B : Addr → Prop) : FnOk P w K mg base (L2.CX P w) 1 T.a_is_whole T.d_is_whole ["value", "low", "high"] (spF (Gof K B) LB.f_is_whole) := by
  exact fn_sim (G := Gof K B) (N := ["value", "low", "high"]) T.F_is_whole sc_is_whole (by decide) (fun cdv A outer s H E hr => ⟨_, 
    (ss_one (ss_ret (se_and (se_isi .int (se_var 0) (T.n_isinstance) (T.n_int) (by decide +kernel)) (se_and (se_not (se_isi .bool (se_var 0) (T.n_isinstance) (T.n_bool) (by decide +kernel))) (se_one (se_chain op_le sLe op_le sLe gLe_bl (se_var 1) (se_var 0) (se_var 2)))))))⟩)
theorem ok_need_whole (T : Txt K mg) (B : Addr → Prop) : FnOk P w K mg base (L2.CX P w) 2 T.a_need_whole T.d_need_whole ["value", "low", "high"] (spF (Gof K B) LB.f_need_whole) := by
  exact fn_sim (G := Gof K B) (N := ["value", "low", "high"]) T.F_need_whole sc_need_whole (by decide) (fun cdv A outer s H E hr => ⟨_, 
    (ss_one (ss_if (st_not (st_val (se_call (ok_is_whole T _) (hr.mono (by decide)) T.g_is_whole T.F_is_whole.kp T.b_is_whole (takes_of rfl rfl rfl rfl) (sa_cons (se_var 0) (sa_cons (se_var 1) (sa_cons (se_var 2) sa_nil))))))
    (ss_one ss_never) ss_nil))⟩)
theorem ok_is_tuple_of (T : Txt K mg) (B : Addr → Prop) : FnOk P w K mg base (L2.CX P w) 1 T.a_is_tuple_of T.d_is_tuple_of ["value", "low", "high"] (spF (Gof K B) LB.f_is_tuple_of) := by
  exact fn_sim (G := Gof K B) (N := ["value", "low", "high"]) T.F_is_tuple_of sc_is_tuple_of (by decide) (fun cdv A outer s H E hr => ⟨_, 
    (ss_one (ss_ret (se_and (se_isi .tuple (se_var 0) (T.n_isinstance) (T.n_tuple) (by decide +kernel)) (se_one (se_chain op_le sLe op_le sLe gLe_bl (se_var 1) (se_b1 (cLen) sLen ((se_var 0)).w (T.n_len) (by decide +kernel)) (se_var 2))))))⟩)
theorem ok_is_poly (T : Txt K mg) (B : Addr → Prop) : FnOk P w K mg base (L2.CX P w) 2 T.a_is_poly T.d_is_poly ["value"] (spF (Gof K B) LB.f_is_poly) := by
  exact fn_sim (G := Gof K B) (N := ["value", "part"]) T.F_is_poly sc_is_poly (by decide) (fun cdv A outer s H E hr => ⟨_, 
    (ss_cons (ss_if ((sp_or (st_not (st_val (se_call (ok_is_tuple_of T _) (hr.mono (by decide)) T.g_is_tuple_of T.F_is_tuple_of.kp T.b_is_tuple_of (takes_of rfl rfl rfl rfl) (sa_cons (se_var 0) (sa_cons se_int (sa_cons (se_gint T.c_PARTS) sa_nil)))))) (sp_or1 (st_not (st_val (se_b1 (cAll) sAll (((sn_lc [("part", 1)] rfl sc_is_poly.nd (si_seq (se_var 0)) (blkOk_by (by kernel_rfl)) (fun _ _ _ _ _ => (sg_name 1 (by decide) sc_is_poly.nd)) (fun _ _ _ _ _ => spt_nil) (fun _ _ _ _ _ => (se_call (ok_is_whole T _) (hr.mono (by decide)) T.g_is_whole T.F_is_whole.kp T.b_is_whole takes0 (sa_cons (se_var 1) (sa_cons (se_neg (se_gint T.c_GREAT)) (sa_cons (se_gint T.c_GREAT) sa_nil))))))).e).w (T.n_all) (by decide +kernel))))))).t
    (ss_one (ss_ret se_bl)) ss_nil)
    (ss_one (ss_ret (se_or (se_cmp (oEq hr.units) sEq.s (se_var 0) (se_tup sa_nil) (nomark _)) (se_one (se_cmp (oNe hr.units) sNe.s (se_idx (se_var 0) (se_neg se_int)) se_int (nomark _)))))))⟩)
theorem ok_need_poly (T : Txt K mg) (B : Addr → Prop) : FnOk P w K mg base (L2.CX P w) 3 T.a_need_poly T.d_need_poly ["f"] (spF (Gof K B) LB.f_need_poly) := by
  exact fn_sim (G := Gof K B) (N := ["f"]) T.F_need_poly sc_need_poly (by decide) (fun cdv A outer s H E hr => ⟨_, 
    (ss_one (ss_if (st_not (st_val (se_call (ok_is_poly T _) (hr.mono (by decide)) T.g_is_poly T.F_is_poly.kp T.b_is_poly (takes_of rfl rfl rfl rfl) (sa_cons (se_var 0) sa_nil))))
    (ss_one ss_never) ss_nil))⟩)
theorem ok_value_at (T : Txt K mg) (B : Addr → Prop) : FnOk P w K mg base (L2.CX P w) 4 T.a_value_at T.d_value_at ["f", "number"] (spF (Gof K B) LB.f_value_at) := by
  exact fn_sim (G := Gof K B) (N := ["f", "number", "found", "part"]) T.F_value_at sc_value_at (by decide) (fun cdv A outer s H E hr => ⟨_, 
    (ss_cons (ss_expr (se_call (ok_need_poly T _) (hr.mono (by decide)) T.g_need_poly T.F_need_poly.kp T.b_need_poly (takes_of rfl rfl rfl rfl) (sa_cons (se_var 0) sa_nil)))
    (ss_cons (ss_expr (se_call (ok_need_whole T _) (hr.mono (by decide)) T.g_need_whole T.F_need_whole.kp T.b_need_whole (takes_of rfl rfl rfl rfl) (sa_cons (se_var 1) (sa_cons (se_neg (se_gint T.c_GREAT)) (sa_cons (se_gint T.c_GREAT) sa_nil)))))
    (ss_cons (ss_set 2 se_int sc_value_at.nd)
    (ss_cons (ss_for (vs := [3]) (passes_of rfl) (si_seq (se_rev ((se_var 0)).w)) (sg_name 3 (by decide) sc_value_at.nd)
    (ss_one (ss_set 2 (se_add (se_mul (se_var 2) (se_var 1)) (se_var 3)) sc_value_at.nd)))
    (ss_one (ss_ret (se_var 2)))))))⟩)
theorem ok_need_n (T : Txt K mg) (B : Addr → Prop) : FnOk P w K mg base (L2.CX P w) 3 T.a_need_n T.d_need_n ["n"] (spF (Gof K B) LB.f_need_n) := by
  exact fn_sim (G := Gof K B) (N := ["n"]) T.F_need_n sc_need_n (by decide) (fun cdv A outer s H E hr => ⟨_, 
    (ss_one (ss_expr (se_call (ok_need_whole T _) (hr.mono (by decide)) T.g_need_whole T.F_need_whole.kp T.b_need_whole (takes_of rfl rfl rfl rfl) (sa_cons (se_var 0) (sa_cons se_int (sa_cons (se_gint T.c_MOST) sa_nil))))))⟩)
theorem ok_rest_in (T : Txt K mg) (B : Addr → Prop) : FnOk P w K mg base (L2.CX P w) 1 T.a_rest_in T.d_rest_in ["number", "n"] (spF (Gof K B) LB.f_rest_in) := by
  exact fn_sim (G := Gof K B) (N := ["number", "n"]) T.F_rest_in sc_rest_in (by decide) (fun cdv A outer s H E hr => ⟨_, 
    (ss_one (ss_ret (se_mod (se_t1 (call_int1) sInt ((se_var 0)).w (T.n_int) (by decide +kernel)) (se_var 1))))⟩)
theorem ok_rest_at (T : Txt K mg) (B : Addr → Prop) : FnOk P w K mg base (L2.CX P w) 2 T.a_rest_at T.d_rest_at ["parts", "number", "n"] (spF (Gof K B) LB.f_rest_at) := by
  exact fn_sim (G := Gof K B) (N := ["parts", "number", "n", "found", "part"]) T.F_rest_at sc_rest_at (by decide) (fun cdv A outer s H E hr => ⟨_, 
    (ss_cons (ss_set 3 se_int sc_rest_at.nd)
    (ss_cons (ss_for (vs := [4]) (passes_of rfl) (si_seq (se_rev ((se_var 0)).w)) (sg_name 4 (by decide) sc_rest_at.nd)
    (ss_one (ss_set 3 (se_call (ok_rest_in T _) (hr.mono (by decide)) T.g_rest_in T.F_rest_in.kp T.b_rest_in (takes_of rfl rfl rfl rfl) (sa_cons (se_add (se_mul (se_var 3) (se_var 1)) (se_var 4)) (sa_cons (se_var 2) sa_nil))) sc_rest_at.nd)))
    (ss_one (ss_ret (se_var 3)))))⟩)
theorem ok_common_in (T : Txt K mg) (B : Addr → Prop) : FnOk P w K mg base (L2.CX P w) 1 T.a_common_in T.d_common_in ["one", "other"] (spF (Gof K B) LB.f_common_in) := by
  exact fn_sim (G := Gof K B) (N := ["one", "other"]) T.F_common_in sc_common_in (by decide) (fun cdv A outer s H E hr => ⟨_, 
    (ss_cons (ss_while 1000 (passes_of rfl) (st_cmp (oNe hr.units) sNe.s (se_var 1) se_int (nomark _))
    (ss_one (ss_par 0 1 (sm_fro (se_var 1) (sm_fro (se_mod (se_t1 (call_int1) sInt ((se_var 0)).w (T.n_int) (by decide +kernel)) (se_var 1)) sm_nil)) sc_common_in.nd)))
    (ss_one (ss_ret (se_var 0))))⟩)
theorem ok_constant_in (T : Txt K mg) (B : Addr → Prop) : FnOk P w K mg base (L2.CX P w) 5 T.a_constant_in T.d_constant_in ["f"] (spF (Gof K B) LB.f_constant_in) := by
  exact fn_sim (G := Gof K B) (N := ["f", "found", "first", "x"]) T.F_constant_in sc_constant_in (by decide) (fun cdv A outer s H E hr => ⟨_, 
    (ss_cons (ss_par 1 2 (sm_fro se_int (sm_fro (se_call (ok_value_at T _) (hr.mono (by decide)) T.g_value_at T.F_value_at.kp T.b_value_at (takes_of rfl rfl rfl rfl) (sa_cons (se_var 0) (sa_cons se_int sa_nil))) sm_nil)) sc_constant_in.nd)
    (ss_cons (ss_for (vs := [3]) (passes_of rfl) (si_rng2 se_int (se_b1 (cLen) sLen ((se_var 0)).w (T.n_len) (by decide +kernel)) (T.n_range)) (sg_name 3 (by decide) sc_constant_in.nd)
    (ss_one (ss_set 1 (se_call (ok_common_in T _) (hr.mono (by decide)) T.g_common_in T.F_common_in.kp T.b_common_in (takes_of rfl rfl rfl rfl) (sa_cons (se_var 1) (sa_cons (se_b1 (call_abs) sAbs ((se_sub (se_call (ok_value_at T _) (hr.mono (by decide)) T.g_value_at T.F_value_at.kp T.b_value_at (takes_of rfl rfl rfl rfl) (sa_cons (se_var 0) (sa_cons (se_var 3) sa_nil))) (se_var 2))).w (T.n_abs) (by decide +kernel)) sa_nil))) sc_constant_in.nd)))
    (ss_one (ss_ret (se_var 1)))))⟩)
theorem ok_is_constant (T : Txt K mg) (B : Addr → Prop) : FnOk P w K mg base (L2.CX P w) 6 T.a_is_constant T.d_is_constant ["f", "n"] (spF (Gof K B) LB.f_is_constant) := by
  exact fn_sim (G := Gof K B) (N := ["f", "n"]) T.F_is_constant sc_is_constant (by decide) (fun cdv A outer s H E hr => ⟨_, 
    (ss_cons (ss_expr (se_call (ok_need_poly T _) (hr.mono (by decide)) T.g_need_poly T.F_need_poly.kp T.b_need_poly (takes_of rfl rfl rfl rfl) (sa_cons (se_var 0) sa_nil)))
    (ss_cons (ss_expr (se_call (ok_need_n T _) (hr.mono (by decide)) T.g_need_n T.F_need_n.kp T.b_need_n (takes_of rfl rfl rfl rfl) (sa_cons (se_var 1) sa_nil)))
    (ss_one (ss_ret (se_cmp (oEq hr.units) sEq.s (se_call (ok_rest_in T _) (hr.mono (by decide)) T.g_rest_in T.F_rest_in.kp T.b_rest_in (takes_of rfl rfl rfl rfl) (sa_cons (se_call (ok_constant_in T _) (hr.mono (by decide)) T.g_constant_in T.F_constant_in.kp T.b_constant_in (takes_of rfl rfl rfl rfl) (sa_cons (se_var 0) sa_nil)) (sa_cons (se_var 1) sa_nil))) se_int (nomark _))))))⟩)
theorem ok_first_other (T : Txt K mg) (B : Addr → Prop) : FnOk P w K mg base (L2.CX P w) 4 T.a_first_other T.d_first_other ["f", "n"] (spF (Gof K B) LB.f_first_other) := by
  exact fn_sim (G := Gof K B) (N := ["f", "n", "first", "x"]) T.F_first_other sc_first_other (by decide) (fun cdv A outer s H E hr => ⟨_, 
    (ss_cons (ss_expr (se_call (ok_need_poly T _) (hr.mono (by decide)) T.g_need_poly T.F_need_poly.kp T.b_need_poly (takes_of rfl rfl rfl rfl) (sa_cons (se_var 0) sa_nil)))
    (ss_cons (ss_expr (se_call (ok_need_n T _) (hr.mono (by decide)) T.g_need_n T.F_need_n.kp T.b_need_n (takes_of rfl rfl rfl rfl) (sa_cons (se_var 1) sa_nil)))
    (ss_cons (ss_set 2 (se_call (ok_rest_at T _) (hr.mono (by decide)) T.g_rest_at T.F_rest_at.kp T.b_rest_at (takes_of rfl rfl rfl rfl) (sa_cons (se_var 0) (sa_cons se_int (sa_cons (se_var 1) sa_nil)))) sc_first_other.nd)
    (ss_cons (ss_for (vs := [3]) (passes_of rfl) (si_rng1 (se_var 1) (T.n_range)) (sg_name 3 (by decide) sc_first_other.nd)
    (ss_one (ss_if (st_cmp (oNe hr.units) sNe.s (se_call (ok_rest_at T _) (hr.mono (by decide)) T.g_rest_at T.F_rest_at.kp T.b_rest_at (takes_of rfl rfl rfl rfl) (sa_cons (se_var 0) (sa_cons (se_var 3) (sa_cons (se_var 1) sa_nil)))) (se_var 2) (nomark _))
    (ss_one (ss_ret (se_var 3))) ss_nil)))
    (ss_one (ss_ret se_non))))))⟩)
theorem ok_constant_part (T : Txt K mg) (B : Addr → Prop) : FnOk P w K mg base (L2.CX P w) 6 T.a_constant_part T.d_constant_part ["f"] (spF (Gof K B) LB.f_constant_part) := by
  exact fn_sim (G := Gof K B) (N := ["f"]) T.F_constant_part sc_constant_part (by decide) (fun cdv A outer s H E hr => ⟨_, 
    (ss_cons (ss_expr (se_call (ok_need_poly T _) (hr.mono (by decide)) T.g_need_poly T.F_need_poly.kp T.b_need_poly (takes_of rfl rfl rfl rfl) (sa_cons (se_var 0) sa_nil)))
    (ss_one (ss_ret (se_call (ok_constant_in T _) (hr.mono (by decide)) T.g_constant_in T.F_constant_in.kp T.b_constant_in (takes_of rfl rfl rfl rfl) (sa_cons (se_var 0) sa_nil)))))⟩)
theorem ok_constant_by (T : Txt K mg) (B : Addr → Prop) : FnOk P w K mg base (L2.CX P w) 6 T.a_constant_by T.d_constant_by ["f"] (spF (Gof K B) LB.f_constant_by) := by
  exact fn_sim (G := Gof K B) (N := ["f", "part", "n"]) T.F_constant_by sc_constant_by (by decide) (fun cdv A outer s H E hr => ⟨_, 
    (ss_cons (ss_expr (se_call (ok_need_poly T _) (hr.mono (by decide)) T.g_need_poly T.F_need_poly.kp T.b_need_poly (takes_of rfl rfl rfl rfl) (sa_cons (se_var 0) sa_nil)))
    (ss_cons (ss_set 1 (se_call (ok_constant_in T _) (hr.mono (by decide)) T.g_constant_in T.F_constant_in.kp T.b_constant_in (takes_of rfl rfl rfl rfl) (sa_cons (se_var 0) sa_nil)) sc_constant_by.nd)
    (ss_one (ss_ret (se_t1 (cTuple) sTuple (((sn_lc [("n", 2)] rfl sc_constant_by.nd (si_rng2 se_int (se_add (se_gint T.c_MOST) se_int) (T.n_range)) (blkOk_by (by kernel_rfl)) (fun _ _ _ _ _ => (sg_name 2 (by decide) sc_constant_by.nd)) (fun _ _ _ _ _ => (spt_one (st_cmp (oEq hr.units) sEq.s (se_call (ok_rest_in T _) (hr.mono (by decide)) T.g_rest_in T.F_rest_in.kp T.b_rest_in takes0 (sa_cons (se_var 1) (sa_cons (se_var 2) sa_nil))) se_int (nomark _)))) (fun _ _ _ _ _ => (se_var 2)))).e).w (T.n_tuple) (by decide +kernel))))))⟩)
theorem ok__law_cup (T : Txt K mg) (B : Addr → Prop) : FnOk P w K mg base (L2.CX P w) 1 T.a__law_cup T.d__law_cup ["script"] (spN (Gof K B) f__law_cup) := by
  exact nw_sim (G := Gof K B) (N := ["script", "cell"]) T.F__law_cup sc__law_cup (by decide) (fun cdv A outer s H E hr => ⟨_, 
    (ss_cons (ss_set 1 (se_b1 (call_abs) sAbs ((se_idx (se_add ((sn_list ((se_var 0)).w (T.n_list) (by decide +kernel))).e ((sn_lst (sa_cons se_int sa_nil))).e) se_int)).w (T.n_abs) (by decide +kernel)) sc__law_cup.nd)
    (ss_one (ss_retN (sn_lst (sa_cons (se_ite (st_cmp op_ge sGe (se_var 1) (se_pow se_int se_int) (nomark _)) (se_div (se_var 1) se_int) se_int) (sa_cons (se_add (se_mod (se_t1 (call_int1) sInt ((se_add (se_mul (se_var 1) se_int) se_int)).w (T.n_int) (by decide +kernel)) se_int) se_int) sa_nil))))))⟩)
theorem ok__law_roll (T : Txt K mg) (B : Addr → Prop) : FnOk P w K mg base (L2.CX P w) 1 T.a__law_roll T.d__law_roll ["cup", "many"] (spIo (Gof K B) LB.f__law_roll) := by
  exact io_sim (G := Gof K B) (N := ["cup", "many", "found", "deep"]) T.F__law_roll sc__law_roll (by decide) (fun B' cdv A outer s H E hr => ⟨_, 
    (ss_cons (ss_if (st_cmp op_gt sGt (se_idxO 0 se_int) se_int (nomark _))
    (ss_cons (ss_set 2 (se_mod (se_t1 (call_int1) sInt ((se_idxO 0 se_int)).w (T.n_int) (by decide +kernel)) (se_var 1)) sc__law_roll.nd)
    (ss_cons (ss_setI 0 (se_div (se_idxO 0 se_int) (se_var 1)) se_int)
    (ss_one (ss_ret (se_var 2))))) ss_nil)
    (ss_cons (ss_setI 0 (se_mod (se_t1 (call_int1) sInt ((se_add (se_mul (se_idxO 0 se_int) se_int) se_int)).w (T.n_int) (by decide +kernel)) se_int) se_int)
    (ss_cons (ss_set 3 (se_mod (se_t1 (call_int1) sInt ((se_mul (se_idxO 0 se_int) (se_add (se_idxO 0 se_int) se_int))).w (T.n_int) (by decide +kernel)) se_int) sc__law_roll.nd)
    (ss_one (ss_ret (se_mod (se_t1 (call_int1) sInt ((se_div (se_var 3) se_int)).w (T.n_int) (by decide +kernel)) (se_var 1)))))))⟩)
theorem ok__law_some (T : Txt K mg) (B : Addr → Prop) : FnOk P w K mg base (L2.CX P w) 2 T.a__law_some T.d__law_some ["cup", "things"] (spIo (Gof K B) LB.f__law_some) := by
  exact io_sim (G := Gof K B) (N := ["cup", "things"]) T.F__law_some sc__law_some (by decide) (fun B' cdv A outer s H E hr => ⟨_, 
    (ss_one (ss_ret (se_idx (se_var 1) (se_callIo 0 (ok__law_roll T _) (hr.mono (by decide)) T.g__law_roll T.F__law_roll.kp T.b__law_roll (takes_of rfl rfl rfl rfl) (sa_cons (se_b1 (cLen) sLen ((se_var 1)).w (T.n_len) (by decide +kernel)) sa_nil)))))⟩)
theorem ok__law_sort (T : Txt K mg) (B : Addr → Prop) : FnOk P w K mg base (L2.CX P w) 1 T.a__law_sort T.d__law_sort ["value"] (spF (Gof K B) LB.f__law_sort) := by
  exact fn_sim (G := Gof K B) (N := ["value"]) T.F__law_sort sc__law_sort (by decide) (fun cdv A outer s H E hr => ⟨_, 
    (ss_cons (ss_if (st_val (se_isi .bool (se_var 0) (T.n_isinstance) (T.n_bool) (by decide +kernel)))
    (ss_one (ss_ret se_int)) ss_nil)
    (ss_cons (ss_if (st_val (se_isi .int (se_var 0) (T.n_isinstance) (T.n_int) (by decide +kernel)))
    (ss_one (ss_ret se_int)) ss_nil)
    (ss_cons (ss_if (st_val (se_isi .tuple (se_var 0) (T.n_isinstance) (T.n_tuple) (by decide +kernel)))
    (ss_one (ss_ret se_int)) ss_nil)
    (ss_one (ss_ret (se_ite (st_val (se_isi .list (se_var 0) (T.n_isinstance) (T.n_list) (by decide +kernel))) se_int se_int))))))⟩)
theorem ok__law_like (T : Txt K mg) (B : Addr → Prop) : ∀ m : Nat, FnOk P w K mg base (L2.CX P w) (2 + m) T.a__law_like T.d__law_like ["one", "other"] (spF (Gof K B) (LB.f__law_like_2 m))
  | 0 => fn_none (G := Gof K B)
  | m + 1 => by
    have ih : FnOk P w K mg base (L2.CX P w) (2 + m) T.a__law_like T.d__law_like ["one", "other"] (spF (Gof K B) (LB.f__law_like_2 m)) := ok__law_like T B m
    exact fn_sim (G := Gof K B) (N := ["one", "other", "left", "right"]) T.F__law_like sc__law_like (by decide) (fun cdv A outer s H E hr => ⟨_, 
    (ss_cons (ss_if (st_cmp (oNe hr.units) sNe.s (se_call (ok__law_sort T _) (hr.mono (Nat.le_trans (by decide) (Nat.le_add_right 2 _))) T.g__law_sort T.F__law_sort.kp T.b__law_sort (takes_of rfl rfl rfl rfl) (sa_cons (se_var 0) sa_nil)) (se_call (ok__law_sort T _) (hr.mono (Nat.le_trans (by decide) (Nat.le_add_right 2 _))) T.g__law_sort T.F__law_sort.kp T.b__law_sort (takes_of rfl rfl rfl rfl) (sa_cons (se_var 1) sa_nil)) (nomark _))
    (ss_one (ss_ret se_bl)) ss_nil)
    (ss_cons (ss_if (st_cmp (oNotIn hr.units (hu65 hr)) sNotIn (se_call (ok__law_sort T _) (hr.mono (Nat.le_trans (by decide) (Nat.le_add_right 2 _))) T.g__law_sort T.F__law_sort.kp T.b__law_sort (takes_of rfl rfl rfl rfl) (sa_cons (se_var 0) sa_nil)) (se_tup (sa_cons se_int (sa_cons se_int sa_nil))) (by rfl))
    (ss_one (ss_ret (se_cmp (oEq hr.units) sEq.s (se_var 0) (se_var 1) (nomark _)))) ss_nil)
    (ss_one (ss_ret (se_and (se_cmp (oEq hr.units) sEq.s (se_b1 (cLen) sLen ((se_var 0)).w (T.n_len) (by decide +kernel)) (se_b1 (cLen) sLen ((se_var 1)).w (T.n_len) (by decide +kernel)) (nomark _)) (se_one (se_cmp (oEq hr.units) sEq.s ((sn_lc [("left", 2), ("right", 3)] rfl sc__law_like.nd (si_zip (se_var 0) (se_var 1) (T.n_zip)) (blkOk_by (by kernel_rfl)) (fun _ _ _ _ _ => (sg_tup (sgs_cons (sg_name 2 (by decide) sc__law_like.nd) (sgs_cons (sg_name 3 (by decide) sc__law_like.nd) sgs_nil)))) (fun _ _ _ _ _ => (spt_one (st_not (st_val (se_call (ih) hr T.g__law_like T.F__law_like.kp T.b__law_like takes0 (sa_cons (se_var 2) (sa_cons (se_var 3) sa_nil))))))) (fun _ _ _ _ _ => se_int))).e ((sn_lst sa_nil)).e (nomark _))))))))⟩)
theorem ok__law_value (T : Txt K mg) (B : Addr → Prop) : FnOk P w K mg base (L2.CX P w) 1 T.a__law_value T.d__law_value ["f", "x"] (spF (Gof K B) LB.f__law_value_2) := by
  exact fn_sim (G := Gof K B) (N := ["f", "x", "found", "part"]) T.F__law_value sc__law_value (by decide) (fun cdv A outer s H E hr => ⟨_, 
    (ss_cons (ss_set 2 se_int sc__law_value.nd)
    (ss_cons (ss_for (vs := [3]) (passes_of rfl) (si_seq (se_rev ((se_var 0)).w)) (sg_name 3 (by decide) sc__law_value.nd)
    (ss_one (ss_set 2 (se_add (se_mul (se_var 2) (se_var 1)) (se_var 3)) sc__law_value.nd)))
    (ss_one (ss_ret (se_var 2)))))⟩)
theorem ok__law_tidied (T : Txt K mg) (B : Addr → Prop) : FnOk P w K mg base (L2.CX P w) 1 T.a__law_tidied T.d__law_tidied ["parts"] (spF (Gof K B) LB.f__law_tidied) := by
  exact fn_sim (G := Gof K B) (N := ["parts", "many", "turn"]) T.F__law_tidied sc__law_tidied (by decide) (fun cdv A outer s H E hr => ⟨_, 
    (ss_cons (ss_set 1 (se_b1 (cLen) sLen ((se_var 0)).w (T.n_len) (by decide +kernel)) sc__law_tidied.nd)
    (ss_cons (ss_for (vs := [2]) (passes_of rfl) (si_rng1 (se_b1 (cLen) sLen ((se_var 0)).w (T.n_len) (by decide +kernel)) (T.n_range)) (sg_name 2 (by decide) sc__law_tidied.nd)
    (ss_one (ss_if ((sp_and (st_cmp (oEq hr.units) sEq.s (se_idx (se_var 0) (se_sub (se_var 1) se_int)) se_int (nomark _)) (sp_and1 (st_cmp (oEq hr.units) sEq.s (se_var 1) (se_sub (se_b1 (cLen) sLen ((se_var 0)).w (T.n_len) (by decide +kernel)) (se_var 2)) (nomark _))))).t
    (ss_one (ss_set 1 (se_sub (se_var 1) se_int) sc__law_tidied.nd)) ss_nil)))
    (ss_one (ss_ret (se_t1 (cTuple) sTuple ((se_sl (se_var 0) so_none (so_some (se_var 1)))).w (T.n_tuple) (by decide +kernel))))))⟩)
theorem ok__law_poly (T : Txt K mg) (B : Addr → Prop) : FnOk P w K mg base (L2.CX P w) 2 T.a__law_poly T.d__law_poly ["cup", "most"] (spIo (Gof K B) LB.f__law_poly_2) := by
  exact io_sim (G := Gof K B) (N := ["cup", "most", "parts", "turn", "part"]) T.F__law_poly sc__law_poly (by decide) (fun B' cdv A outer s H E hr => ⟨_, 
    (ss_cons (ss_own 2 (sn_lst sa_nil) sc__law_poly.nd)
    (ss_cons (ss_for (vs := [3]) (passes_of rfl) (si_rng1 (se_callIo 0 (ok__law_roll T _) (hr.mono (by decide)) T.g__law_roll T.F__law_roll.kp T.b__law_roll (takes_of rfl rfl rfl rfl) (sa_cons (se_add (se_var 1) se_int) sa_nil)) (T.n_range)) (sg_name 3 (by decide) sc__law_poly.nd)
    (ss_cons (ss_set 4 (se_sub (se_callIo 0 (ok__law_roll T _) (hr.mono (by decide)) T.g__law_roll T.F__law_roll.kp T.b__law_roll (takes_of rfl rfl rfl rfl) (sa_cons se_int sa_nil)) se_int) sc__law_poly.nd)
    (ss_one (ss_append 2 (se_ite (st_cmp (oEq hr.units) sEq.s (se_callIo 0 (ok__law_roll T _) (hr.mono (by decide)) T.g__law_roll T.F__law_roll.kp T.b__law_roll (takes_of rfl rfl rfl rfl) (sa_cons se_int sa_nil)) se_int (nomark _)) (se_mul (se_var 4) (se_add se_int (se_callIo 0 (ok__law_roll T _) (hr.mono (by decide)) T.g__law_roll T.F__law_roll.kp T.b__law_roll (takes_of rfl rfl rfl rfl) (sa_cons (se_pow se_int se_int) sa_nil)))) (se_var 4))))))
    (ss_fre 2 (ss_one (ss_ret (se_call (ok__law_tidied T _) (hr.mono (by decide)) T.g__law_tidied T.F__law_tidied.kp T.b__law_tidied (takes_of rfl rfl rfl rfl) (sa_cons (se_var 2) sa_nil)))))))⟩)
theorem ok__law_part (T : Txt K mg) (B : Addr → Prop) : FnOk P w K mg base (L2.CX P w) 1 T.a__law_part T.d__law_part ["one", "other"] (spF (Gof K B) f__law_part) := by
  exact fn_sim (G := Gof K B) (N := ["one", "other", "turn"]) T.F__law_part sc__law_part (by decide) (fun cdv A outer s H E hr => ⟨_, 
    (ss_cons (ss_for (vs := [2]) (passes_of rfl) (si_rng1 se_int (T.n_range)) (sg_name 2 (by decide) sc__law_part.nd)
    (ss_cons (ss_if (st_cmp (oEq hr.units) sEq.s (se_var 1) se_int (nomark _))
    (ss_one (ss_ret (se_var 0))) ss_nil)
    (ss_one (ss_par 0 1 (sm_fro (se_var 1) (sm_fro (se_mod (se_t1 (call_int1) sInt ((se_var 0)).w (T.n_int) (by decide +kernel)) (se_var 1)) sm_nil)) sc__law_part.nd))))
    (ss_one (ss_ret (se_var 0))))⟩)
theorem ok__law_falls (T : Txt K mg) (B : Addr → Prop) : FnOk P w K mg base (L2.CX P w) 3 T.a__law_falls T.d__law_falls ["cup"] (spIo (Gof K B) f__law_falls) := by
  exact io_sim (G := Gof K B) (N := ["cup", "found", "fall", "k", "many", "left", "right"]) T.F__law_falls sc__law_falls (by decide) (fun B' cdv A outer s H E hr => ⟨_, 
    (ss_cons (ss_par 1 2 (sm_fro ((sn_lst (sa_cons (se_sub (se_callIo 0 (ok__law_roll T _) (hr.mono (by decide)) T.g__law_roll T.F__law_roll.kp T.b__law_roll (takes_of rfl rfl rfl rfl) (sa_cons se_int sa_nil)) se_int) sa_nil))).e (sm_fro ((sn_lst (sa_cons se_int sa_nil))).e sm_nil)) sc__law_falls.nd)
    (ss_cons (ss_for (vs := [3]) (passes_of rfl) (si_rng1 (se_add se_int (se_callIo 0 (ok__law_roll T _) (hr.mono (by decide)) T.g__law_roll T.F__law_roll.kp T.b__law_roll (takes_of rfl rfl rfl rfl) (sa_cons se_int sa_nil))) (T.n_range)) (sg_name 3 (by decide) sc__law_falls.nd)
    (ss_cons (ss_setLc 2 [("left", 5), ("right", 6)] rfl sc__law_falls.nd (si_zip (se_add ((sn_lst (sa_cons se_int sa_nil))).e (se_var 2)) (se_add (se_var 2) ((sn_lst (sa_cons se_int sa_nil))).e) (T.n_zip)) (blkOk_by (by kernel_rfl)) (fun _ _ _ _ _ => (sg_tup (sgs_cons (sg_name 5 (by decide) sc__law_falls.nd) (sgs_cons (sg_name 6 (by decide) sc__law_falls.nd) sgs_nil)))) (fun _ _ _ _ _ => spt_nil) (fun _ _ _ _ _ => (se_sub (se_var 5) (se_mul (se_var 3) (se_var 6)))))
    (ss_cons (ss_set 4 (se_callIo 0 (ok__law_some T _) (hr.mono (by decide)) T.g__law_some T.F__law_some.kp T.b__law_some (takes_of rfl rfl rfl rfl) (sa_cons ((sn_lst (sa_cons se_int (sa_cons se_int (sa_cons se_int (sa_cons se_int (sa_cons se_int (sa_cons se_int (sa_cons (se_neg se_int) (sa_cons (se_add se_int (se_callIo 0 (ok__law_roll T _) (hr.mono (by decide)) T.g__law_roll T.F__law_roll.kp T.b__law_roll (takes_of rfl rfl rfl rfl) (sa_cons se_int sa_nil))) sa_nil)))))))))).e sa_nil)) sc__law_falls.nd)
    (ss_one (ss_setLc 1 [("left", 5), ("right", 6)] rfl sc__law_falls.nd (si_zip (se_add (se_var 1) (se_mul ((sn_lst (sa_cons se_int sa_nil))).e (se_sub (se_b1 (cLen) sLen ((se_var 2)).w (T.n_len) (by decide +kernel)) (se_b1 (cLen) sLen ((se_var 1)).w (T.n_len) (by decide +kernel))))) (se_var 2) (T.n_zip)) (blkOk_by (by kernel_rfl)) (fun _ _ _ _ _ => (sg_tup (sgs_cons (sg_name 5 (by decide) sc__law_falls.nd) (sgs_cons (sg_name 6 (by decide) sc__law_falls.nd) sgs_nil)))) (fun _ _ _ _ _ => spt_nil) (fun _ _ _ _ _ => (se_add (se_var 5) (se_mul (se_var 4) (se_var 6)))))))))
    (ss_one (ss_ret (se_call (ok__law_tidied T _) (hr.mono (by decide)) T.g__law_tidied T.F__law_tidied.kp T.b__law_tidied (takes_of rfl rfl rfl rfl) (sa_cons (se_var 1) sa_nil))))))⟩)
theorem ok__law_fixed_right (T : Txt K mg) (B : Addr → Prop) : FnOk P w K mg base (L2.CX P w) 11 T.a__law_fixed_right T.d__law_fixed_right [] (spF (Gof K B) f__law_fixed_right) := by
  exact fn_sim (G := Gof K B) (N := ["_dummy", "c", "told", "due", "n"]) T.F__law_fixed_right sc__law_fixed_right (by decide) (fun cdv A outer s H E hr => ⟨_, 
    (ss_cons (ss_set 1 (se_tup (sa_cons se_int (sa_cons (se_neg se_int) (sa_cons se_int (sa_cons se_int sa_nil))))) sc__law_fixed_right.nd)
    (ss_cons (ss_set 2 ((sn_lst (sa_cons (se_call (ok_is_constant T _) (hr.mono (by decide)) T.g_is_constant T.F_is_constant.kp T.b_is_constant (takes_of rfl rfl rfl rfl) (sa_cons (se_tup (sa_cons se_int (sa_cons (se_neg se_int) (sa_cons se_int (sa_cons se_int sa_nil))))) (sa_cons se_int sa_nil))) (sa_cons (se_call (ok_is_constant T _) (hr.mono (by decide)) T.g_is_constant T.F_is_constant.kp T.b_is_constant (takes_of rfl rfl rfl rfl) (sa_cons (se_var 1) (sa_cons se_int sa_nil))) (sa_cons (se_call (ok_first_other T _) (hr.mono (by decide)) T.g_first_other T.F_first_other.kp T.b_first_other (takes_of rfl rfl rfl rfl) (sa_cons (se_var 1) (sa_cons se_int sa_nil))) (sa_cons (se_call (ok_first_other T _) (hr.mono (by decide)) T.g_first_other T.F_first_other.kp T.b_first_other (takes_of rfl rfl rfl rfl) (sa_cons (se_var 1) (sa_cons se_int sa_nil))) (sa_cons (se_call (ok_constant_part T _) (hr.mono (by decide)) T.g_constant_part T.F_constant_part.kp T.b_constant_part (takes_of rfl rfl rfl rfl) (sa_cons (se_var 1) sa_nil)) (sa_cons (se_call (ok_constant_by T _) (hr.mono (by decide)) T.g_constant_by T.F_constant_by.kp T.b_constant_by (takes_of rfl rfl rfl rfl) (sa_cons (se_var 1) sa_nil)) sa_nil)))))))).e sc__law_fixed_right.nd)
    (ss_cons (ss_if (st_not (st_val (se_call (ok__law_like T _ 8) (hr.mono (by decide)) T.g__law_like T.F__law_like.kp T.b__law_like (takes_of rfl rfl rfl rfl) (sa_cons (se_var 2) (sa_cons ((sn_lst (sa_cons se_bl (sa_cons se_bl (sa_cons se_int (sa_cons se_non (sa_cons se_int (sa_cons (se_tup (sa_cons se_int (sa_cons se_int (sa_cons se_int (sa_cons se_int sa_nil))))) sa_nil)))))))).e sa_nil)))))
    (ss_one (ss_ret se_bl)) ss_nil)
    (ss_cons (ss_set 2 ((sn_lst (sa_cons (se_call (ok_constant_part T _) (hr.mono (by decide)) T.g_constant_part T.F_constant_part.kp T.b_constant_part (takes_of rfl rfl rfl rfl) (sa_cons (se_tup (sa_cons se_int sa_nil)) sa_nil)) (sa_cons (se_call (ok_constant_by T _) (hr.mono (by decide)) T.g_constant_by T.F_constant_by.kp T.b_constant_by (takes_of rfl rfl rfl rfl) (sa_cons (se_tup (sa_cons se_int sa_nil)) sa_nil)) (sa_cons (se_call (ok_constant_part T _) (hr.mono (by decide)) T.g_constant_part T.F_constant_part.kp T.b_constant_part (takes_of rfl rfl rfl rfl) (sa_cons (se_tup (sa_cons se_int (sa_cons se_int (sa_cons se_int sa_nil)))) sa_nil)) (sa_cons (se_call (ok_constant_part T _) (hr.mono (by decide)) T.g_constant_part T.F_constant_part.kp T.b_constant_part (takes_of rfl rfl rfl rfl) (sa_cons (se_tup (sa_cons se_int (sa_cons (se_neg se_int) (sa_cons se_int (sa_cons se_int (sa_cons se_int (sa_cons se_int sa_nil))))))) sa_nil)) (sa_cons (se_call (ok_constant_by T _) (hr.mono (by decide)) T.g_constant_by T.F_constant_by.kp T.b_constant_by (takes_of rfl rfl rfl rfl) (sa_cons (se_tup (sa_cons se_int (sa_cons se_int (sa_cons se_int sa_nil)))) sa_nil)) sa_nil))))))).e sc__law_fixed_right.nd)
    (ss_cons (ss_set 3 ((sn_lst (sa_cons se_int (sa_cons (se_t1 (cTuple) sTuple (((sn_lc [("n", 4)] rfl sc__law_fixed_right.nd (si_rng2 se_int se_int (T.n_range)) (blkOk_by (by kernel_rfl)) (fun _ _ _ _ _ => (sg_name 4 (by decide) sc__law_fixed_right.nd)) (fun _ _ _ _ _ => spt_nil) (fun _ _ _ _ _ => (se_var 4)))).e).w (T.n_tuple) (by decide +kernel)) (sa_cons se_int (sa_cons se_int (sa_cons (se_tup (sa_cons se_int sa_nil)) sa_nil))))))).e sc__law_fixed_right.nd)
    (ss_cons (ss_set 2 (se_add (se_var 2) ((sn_lst (sa_cons (se_call (ok_constant_part T _) (hr.mono (by decide)) T.g_constant_part T.F_constant_part.kp T.b_constant_part (takes_of rfl rfl rfl rfl) (sa_cons (se_tup sa_nil) sa_nil)) (sa_cons (se_call (ok_is_constant T _) (hr.mono (by decide)) T.g_is_constant T.F_is_constant.kp T.b_is_constant (takes_of rfl rfl rfl rfl) (sa_cons (se_tup sa_nil) (sa_cons se_int sa_nil))) (sa_cons (se_call (ok_first_other T _) (hr.mono (by decide)) T.g_first_other T.F_first_other.kp T.b_first_other (takes_of rfl rfl rfl rfl) (sa_cons (se_tup (sa_cons se_int (sa_cons se_int sa_nil))) (sa_cons se_int sa_nil))) (sa_cons (se_call (ok_first_other T _) (hr.mono (by decide)) T.g_first_other T.F_first_other.kp T.b_first_other (takes_of rfl rfl rfl rfl) (sa_cons (se_tup (sa_cons se_int (sa_cons se_int sa_nil))) (sa_cons se_int sa_nil))) (sa_cons (se_call (ok_constant_by T _) (hr.mono (by decide)) T.g_constant_by T.F_constant_by.kp T.b_constant_by (takes_of rfl rfl rfl rfl) (sa_cons (se_tup (sa_cons se_int (sa_cons se_int sa_nil))) sa_nil)) sa_nil))))))).e) sc__law_fixed_right.nd)
    (ss_cons (ss_set 3 (se_add (se_var 3) ((sn_lst (sa_cons se_int (sa_cons se_bl (sa_cons se_non (sa_cons se_int (sa_cons (se_t1 (cTuple) sTuple (((sn_lc [("n", 4)] rfl sc__law_fixed_right.nd (si_rng2 se_int se_int (T.n_range)) (blkOk_by (by kernel_rfl)) (fun _ _ _ _ _ => (sg_name 4 (by decide) sc__law_fixed_right.nd)) (fun _ _ _ _ _ => (spt_one (st_cmp (oEq hr.units) sEq.s (se_mod (se_t1 (call_int1) sInt (se_int).w (T.n_int) (by decide +kernel)) (se_var 4)) se_int (nomark _)))) (fun _ _ _ _ _ => (se_var 4)))).e).w (T.n_tuple) (by decide +kernel)) sa_nil))))))).e) sc__law_fixed_right.nd)
    (ss_one (ss_ret (se_and (se_call (ok__law_like T _ 8) (hr.mono (by decide)) T.g__law_like T.F__law_like.kp T.b__law_like (takes_of rfl rfl rfl rfl) (sa_cons (se_var 2) (sa_cons (se_var 3) sa_nil))) (se_one (se_call (ok__law_like T _ 8) (hr.mono (by decide)) T.g__law_like T.F__law_like.kp T.b__law_like (takes_of rfl rfl rfl rfl) (sa_cons (se_call (ok_constant_part T _) (hr.mono (by decide)) T.g_constant_part T.F_constant_part.kp T.b_constant_part (takes_of rfl rfl rfl rfl) (sa_cons (se_tup (sa_cons se_int (sa_cons (se_pow se_int se_int) sa_nil))) sa_nil)) (sa_cons (se_pow se_int se_int) sa_nil))))))))))))))⟩)
theorem ok__law_right (T : Txt K mg) (B : Addr → Prop) : FnOk P w K mg base (L2.CX P w) 11 T.a__law_right T.d__law_right ["cup"] (spIo (Gof K B) f__law_right) := by
  exact io_sim (G := Gof K B) (N := ["cup", "f", "first", "part", "x", "turn", "n", "others"]) T.F__law_right sc__law_right (by decide) (fun B' cdv A outer s H E hr => ⟨_, 
    (ss_cons (ss_set 1 (se_ite (st_cmp op_gt sGt (se_callIo 0 (ok__law_roll T _) (hr.mono (by decide)) T.g__law_roll T.F__law_roll.kp T.b__law_roll (takes_of rfl rfl rfl rfl) (sa_cons se_int sa_nil)) se_int (nomark _)) (se_callIo 0 (ok__law_falls T _) (hr.mono (by decide)) T.g__law_falls T.F__law_falls.kp T.b__law_falls (takes_of rfl rfl rfl rfl) sa_nil) (se_callIo 0 (ok__law_poly T _) (hr.mono (by decide)) T.g__law_poly T.F__law_poly.kp T.b__law_poly (takes_of rfl rfl rfl rfl) (sa_cons se_int sa_nil))) sc__law_right.nd)
    (ss_cons (ss_asg (vs := [2, 3]) (se_tup (sa_cons (se_call (ok__law_value T _) (hr.mono (by decide)) T.g__law_value T.F__law_value.kp T.b__law_value (takes_of rfl rfl rfl rfl) (sa_cons (se_var 1) (sa_cons se_int sa_nil))) (sa_cons se_int sa_nil))) (sg_tup (sgs_cons (sg_name 2 (by decide) sc__law_right.nd) (sgs_cons (sg_name 3 (by decide) sc__law_right.nd) sgs_nil))))
    (ss_cons (ss_for (vs := [4]) (passes_of rfl) (si_rng2 (se_neg se_int) se_int (T.n_range)) (sg_name 4 (by decide) sc__law_right.nd)
    (ss_one (ss_set 3 (se_call (ok__law_part T _) (hr.mono (by decide)) T.g__law_part T.F__law_part.kp T.b__law_part (takes_of rfl rfl rfl rfl) (sa_cons (se_var 3) (sa_cons (se_b1 (call_abs) sAbs ((se_sub (se_call (ok__law_value T _) (hr.mono (by decide)) T.g__law_value T.F__law_value.kp T.b__law_value (takes_of rfl rfl rfl rfl) (sa_cons (se_var 1) (sa_cons (se_var 4) sa_nil))) (se_var 2))).w (T.n_abs) (by decide +kernel)) sa_nil))) sc__law_right.nd)))
    (ss_cons (ss_if (st_not (st_val (se_call (ok__law_like T _ 8) (hr.mono (by decide)) T.g__law_like T.F__law_like.kp T.b__law_like (takes_of rfl rfl rfl rfl) (sa_cons ((sn_lst (sa_cons (se_call (ok_constant_part T _) (hr.mono (by decide)) T.g_constant_part T.F_constant_part.kp T.b_constant_part (takes_of rfl rfl rfl rfl) (sa_cons (se_var 1) sa_nil)) (sa_cons (se_call (ok_constant_by T _) (hr.mono (by decide)) T.g_constant_by T.F_constant_by.kp T.b_constant_by (takes_of rfl rfl rfl rfl) (sa_cons (se_var 1) sa_nil)) sa_nil)))).e (sa_cons ((sn_lst (sa_cons (se_var 3) (sa_cons (se_t1 (cTuple) sTuple (((sn_lc [("n", 6)] rfl sc__law_right.nd (si_rng2 se_int se_int (T.n_range)) (blkOk_by (by kernel_rfl)) (fun _ _ _ _ _ => (sg_name 6 (by decide) sc__law_right.nd)) (fun _ _ _ _ _ => (spt_one (st_cmp (oEq hr.units) sEq.s (se_mod (se_t1 (call_int1) sInt ((se_var 3)).w (T.n_int) (by decide +kernel)) (se_var 6)) se_int (nomark _)))) (fun _ _ _ _ _ => (se_var 6)))).e).w (T.n_tuple) (by decide +kernel)) sa_nil)))).e sa_nil)))))
    (ss_one (ss_ret se_bl)) ss_nil)
    (ss_cons (ss_for (vs := [5]) (passes_of rfl) (si_rng1 se_int (T.n_range)) (sg_name 5 (by decide) sc__law_right.nd)
    (ss_cons (ss_set 6 (se_callIo 0 (ok__law_some T _) (hr.mono (by decide)) T.g__law_some T.F__law_some.kp T.b__law_some (takes_of rfl rfl rfl rfl) (sa_cons ((sn_lst (sa_cons (se_add se_int (se_callIo 0 (ok__law_roll T _) (hr.mono (by decide)) T.g__law_roll T.F__law_roll.kp T.b__law_roll (takes_of rfl rfl rfl rfl) (sa_cons se_int sa_nil))) (sa_cons (se_add se_int (se_callIo 0 (ok__law_roll T _) (hr.mono (by decide)) T.g__law_roll T.F__law_roll.kp T.b__law_roll (takes_of rfl rfl rfl rfl) (sa_cons se_int sa_nil))) sa_nil)))).e sa_nil)) sc__law_right.nd)
    (ss_cons (ss_setLc 7 [("x", 4)] rfl sc__law_right.nd (si_rng1 (se_var 6) (T.n_range)) (blkOk_by (by kernel_rfl)) (fun _ _ _ _ _ => (sg_name 4 (by decide) sc__law_right.nd)) (fun _ _ _ _ _ => (spt_one (st_cmp (oNe hr.units) sNe.s (se_mod (se_t1 (call_int1) sInt ((se_sub (se_call (ok__law_value T _) (hr.mono (by decide)) T.g__law_value T.F__law_value.kp T.b__law_value takes0 (sa_cons (se_var 1) (sa_cons (se_var 4) sa_nil))) (se_var 2))).w (T.n_int) (by decide +kernel)) (se_var 6)) se_int (nomark _)))) (fun _ _ _ _ _ => (se_var 4)))
    (ss_one (ss_if (st_not (st_val (se_call (ok__law_like T _ 8) (hr.mono (by decide)) T.g__law_like T.F__law_like.kp T.b__law_like (takes_of rfl rfl rfl rfl) (sa_cons ((sn_lst (sa_cons (se_call (ok_is_constant T _) (hr.mono (by decide)) T.g_is_constant T.F_is_constant.kp T.b_is_constant (takes_of rfl rfl rfl rfl) (sa_cons (se_var 1) (sa_cons (se_var 6) sa_nil))) (sa_cons (se_call (ok_first_other T _) (hr.mono (by decide)) T.g_first_other T.F_first_other.kp T.b_first_other (takes_of rfl rfl rfl rfl) (sa_cons (se_var 1) (sa_cons (se_var 6) sa_nil))) sa_nil)))).e (sa_cons ((sn_lst (sa_cons (se_cmp (oEq hr.units) sEq.s (se_var 7) ((sn_lst sa_nil)).e (nomark _)) (sa_cons (se_ite (st_cmp (oNe hr.units) sNe.s (se_var 7) ((sn_lst sa_nil)).e (nomark _)) (se_idx (se_var 7) se_int) se_non) sa_nil)))).e sa_nil)))))
    (ss_one (ss_ret se_bl)) ss_nil)))))
    (ss_one (ss_ret se_bl)))))))⟩)
theorem ok_law (T : Txt K mg) (B : Addr → Prop) : FnOk P w K mg base (L2.CX P w) 12 T.a_law T.d_law ["script"] (spF (Gof K B) f_law) := by
  exact fn_sim (G := Gof K B) (N := ["script", "cup", "turn"]) T.F_law sc_law (by decide) (fun cdv A outer s H E hr => ⟨_, 
    (ss_cons (ss_if (st_not (st_val (se_call0 (ok__law_fixed_right T _) (hr.mono (by decide)) T.g__law_fixed_right T.F__law_fixed_right.kp T.b__law_fixed_right (takes_of rfl rfl rfl rfl))))
    (ss_one (ss_ret se_bl)) ss_nil)
    (ss_cons (ss_own 1 (sn_call (ok__law_cup T _) (hr.mono (by decide)) T.g__law_cup T.F__law_cup.kp T.b__law_cup (takes_of rfl rfl rfl rfl) (sa_cons (se_var 0) sa_nil)) sc_law.nd)
    (ss_cons (ss_for (vs := [2]) (passes_of rfl) (si_rng1 se_int (T.n_range)) (sg_name 2 (by decide) sc_law.nd)
    (ss_one (ss_if (st_not (st_val (se_callIo 1 (ok__law_right T _) (hr.mono (by decide)) T.g__law_right T.F__law_right.kp T.b__law_right (takes_of rfl rfl rfl rfl) sa_nil)))
    (ss_one (ss_ret se_bl)) ss_nil)))
    (ss_one (ss_ret se_bl)))))⟩)
end
end Lk63
/-! the plain side: equality of data, runs of the combinators -/
namespace Sm
open PySem PySem.Spec PyProof.Rows L2
mutual
def D.same : D → D → Bool
  | .non, .non => true
  | .bl a, .bl b => a == b
  | .int a, .int b => a == b
  | .str a, .str b => a == b
  | .tup x, .tup y => D.sameL x y
  | .lst x, .lst y => D.sameL x y
  | _, _ => false
def D.sameL : List D → List D → Bool
  | [], [] => true
  | x :: xs, y :: ys => D.same x y && D.sameL xs ys
  | _, _ => false
end
mutual
theorem same_eq : ∀ (x y : D), D.same x y = true → x = y
  | .non, y, h => by cases y <;> simp [D.same] at h <;> rfl
  | .bl a, y, h => by cases y <;> simp [D.same] at h; rw [h]
  | .int a, y, h => by cases y <;> simp [D.same] at h; rw [h]
  | .str a, y, h => by cases y <;> simp [D.same] at h; rw [h]
  | .tup x, y, h => by
    cases y <;> simp [D.same] at h
    rw [same_eqL x _ h]
  | .lst x, y, h => by
    cases y <;> simp [D.same] at h
    rw [same_eqL x _ h]
  | .dic _ _, y, h => by cases y <;> simp [D.same] at h
  | .scr _, y, h => by cases y <;> simp [D.same] at h
theorem same_eqL : ∀ (x y : List D), D.sameL x y = true → x = y
  | [], y, h => by cases y <;> simp [D.sameL] at h; rfl
  | x :: xs, y, h => by
    cases y with
    | nil => simp [D.sameL] at h
    | cons y ys =>
      simp only [D.sameL, Bool.and_eq_true] at h
      rw [same_eq x y h.1, same_eqL xs ys h.2]
end
def R.isd (r : R D) (d : D) : Bool := match r with
  | .ok x => D.same x d
  | _ => false
theorem isd_ok {r : R D} {d : D} (h : r.isd d = true) : r = .ok d := by
  unfold R.isd at h
  split at h
  · rw [same_eq _ _ h]
  · cases h
section
variable (g g' : D → D → Option D) (u : D → Option D) (a b c : Ev) (s t : Tv) (r : Av) (ρ : List Sl) (i : Nat) (d : D) (f : List D → R D)
@[simp] theorem ev_of_some : R.of (some d) ρ = .ok (d, ρ) := id rfl
@[simp] theorem ev_of_none : R.of none ρ = .no := id rfl
@[simp] theorem ev_C : xC d ρ = .ok (d, ρ) := id rfl
@[simp] theorem ev_Var : xVar i ρ = match ρ[i]? with | some (.fro d) => .ok (d, ρ) | _ => .no := id rfl
@[simp] theorem ev_VarO : xVarO i ρ = match ρ[i]? with | some (.own d) => .ok (d, ρ) | _ => .no := id rfl
@[simp] theorem ev_Op : xOp g a b ρ = (a ρ).bnd fun x ρ1 => (b ρ1).bnd fun y ρ2 => R.of (g x y) ρ2 := id rfl
@[simp] theorem ev_OpO : xOpO g i b ρ = match ρ[i]? with | some (.own _) => (b ρ).bnd fun y ρ1 => (match ρ1[i]? with | some (.own x) => R.of (g x y) ρ1 | _ => .no) | _ => .no := id rfl
@[simp] theorem ev_Un : xUn u a ρ = (a ρ).bnd fun x ρ1 => R.of (u x) ρ1 := id rfl
@[simp] theorem ev_And : xAnd a b ρ = (a ρ).bnd fun x ρ1 => match x with | .bl true => b ρ1 | .bl false => .ok (.bl false, ρ1) | _ => .no := id rfl
@[simp] theorem ev_Or : xOr a b ρ = (a ρ).bnd fun x ρ1 => match x with | .bl true => .ok (.bl true, ρ1) | .bl false => b ρ1 | _ => .no := id rfl
@[simp] theorem ev_Ite : xIte s a b ρ = (s ρ).bnd fun x ρ1 => cond x (a ρ1) (b ρ1) := by
  unfold xIte; congr 1; funext x ρ1; cases x <;> rfl
@[simp] theorem ev_tvOf : tvOf a ρ = (a ρ).bnd fun x ρ1 => match x with | .bl b => .ok (b, ρ1) | _ => .no := id rfl
@[simp] theorem ev_tvAnd : tvAnd s t ρ = (s ρ).bnd fun x ρ1 => cond x (t ρ1) (.ok (false, ρ1)) := by
  unfold tvAnd; congr 1; funext x ρ1; cases x <;> rfl
@[simp] theorem ev_tvOr : tvOr s t ρ = (s ρ).bnd fun x ρ1 => cond x (.ok (true, ρ1)) (t ρ1) := by
  unfold tvOr; congr 1; funext x ρ1; cases x <;> rfl
@[simp] theorem ev_tvNot : tvNot s ρ = (s ρ).bnd fun x ρ1 => .ok (!x, ρ1) := id rfl
@[simp] theorem ev_tvYes : tvYes ρ = .ok (true, ρ) := id rfl
@[simp] theorem ev_Nil : xNil ρ = .ok ([], ρ) := id rfl
@[simp] theorem ev_Cons : xCons a r ρ = (a ρ).bnd fun x ρ1 => (r ρ1).bnd fun xs ρ2 => .ok (x :: xs, ρ2) := id rfl
@[simp] theorem ev_Tup : xTup r ρ = (r ρ).bnd fun xs ρ1 => cond (isz xs.length) (.ok (.tup xs, ρ1)) .no := by
  unfold xTup; congr 1; funext x ρ1; cases isz x.length <;> rfl
@[simp] theorem ev_Lst : xLst r ρ = (r ρ).bnd fun xs ρ1 => cond (isz xs.length) (.ok (.lst xs, ρ1)) .no := by
  unfold xLst; congr 1; funext x ρ1; cases isz x.length <;> rfl
@[simp] theorem ev_Chain : xChain g g' a b c ρ = (a ρ).bnd fun x ρ1 => (b ρ1).bnd fun y ρ2 => match g x y with | some (.bl true) => (c ρ2).bnd fun z ρ3 => R.of (g' y z) ρ3 | some (.bl false) => .ok (.bl false, ρ2) | _ => .no := id rfl
@[simp] theorem ev_Call : xCall f r ρ = (r ρ).bnd fun ds ρ1 => match f ds with | .ok d => .ok (d, ρ1) | .ex c pl _ => .ex c pl ρ1 | .no => .no := id rfl
@[simp] theorem ev_CallIo (f : D → List D → R (D × D)) : xCallIo f i r ρ = match ρ[i]? with | some (.own _) => (r ρ).bnd fun ds ρ1 => (match ρ1[i]? with | some (.own c) => (match f c ds with | .ok (d, c') => .ok (d, ρ1.set i (.own c')) | _ => .no) | _ => .no) | _ => .no := id rfl
@[simp] theorem ev_isz (n : Nat) (h : n ≤ 16777216) : isz n = true := Nat.ble_eq.mpr h
@[simp] theorem ev_gtN : gtN i d ρ = if i < ρ.length then some (ρ.set i (.fro d)) else none := by
  unfold gtN
  simp
@[simp] theorem ev_gtT (f : List D → List Sl → Option (List Sl)) (l : List D) : gtT i f (.tup l) ρ = if l.length = i then f l ρ else none := by
  unfold gtT
  simp
@[simp] theorem ev_gsN : gsN [] ρ = some ρ := id rfl
@[simp] theorem ev_gsC (f : D → List Sl → Option (List Sl)) (h : List D → List Sl → Option (List Sl)) (l : List D) : gsC f h (d :: l) ρ = (f d ρ).bind fun ρ1 => h l ρ1 := id rfl
@[simp] theorem ev_It : xIt a ρ = (a ρ).bnd fun x ρ1 => match iOf x with | some l => .ok (l, ρ1) | none => .no := id rfl
@[simp] theorem ev_iOfL (l : List D) : iOf (.lst l) = some l := id rfl
@[simp] theorem ev_iOfT (l : List D) : iOf (.tup l) = some l := id rfl
@[simp] theorem ev_Rng1 : xRng1 a ρ = (a ρ).bnd fun x ρ1 => match x with | .int n => cond (inR n) (.ok (rangeD 0 n.toNat, ρ1)) .no | _ => .no := by
  unfold xRng1; congr 1; funext x ρ1; cases x <;> first | rfl | (rename_i n; cases h : Sm.inR n <;> simp [h])
@[simp] theorem ev_Rng2 : xRng2 a b ρ = (a ρ).bnd fun x ρ1 => (b ρ1).bnd fun y ρ2 => match x, y with | .int i, .int j => cond (inR i) (cond (inR j) (.ok (rangeD i (j - i).toNat, ρ2)) .no) .no | _, _ => .no := by
  unfold xRng2; congr 1; funext x ρ1; congr 1; funext y ρ2; cases x <;> cases y <;> first | rfl | (rename_i n m; cases h : Sm.inR n <;> cases h2 : Sm.inR m <;> simp [h, h2])
@[simp] theorem ev_inR (i : Int) (h1 : -1000000000000000000 ≤ i) (h2 : i ≤ 1000000000000000000) : inR i = true := Nat.ble_eq.mpr (by omega)
@[simp] theorem ev_Zip : xZip a b ρ = (a ρ).bnd fun x ρ1 => (b ρ1).bnd fun y ρ2 => match x, y with | .lst l, .lst k => .ok (zipD l k, ρ2) | .tup l, .tup k => .ok (zipD l k, ρ2) | _, _ => .no := id rfl
variable (p q : Sv)
@[simp] theorem ev_Nx : sNx ρ = .nx ρ := id rfl
@[simp] theorem ev_Seq : sSeq p q ρ = match p ρ with | .nx ρ1 => q ρ1 | r => r := id rfl
@[simp] theorem ev_Drop : sDrop a ρ = (a ρ).bndS fun _ ρ1 => .nx ρ1 := id rfl
@[simp] theorem ev_Ret : sRet a ρ = (a ρ).bndS fun d ρ1 => .rt d ρ1 := id rfl
@[simp] theorem ev_RetN : sRetN a ρ = (a ρ).bndS fun d ρ1 => .rn d ρ1 := id rfl
@[simp] theorem ev_If : sIf s p q ρ = (s ρ).bndS fun b ρ1 => cond b (p ρ1) (q ρ1) := by
  unfold sIf; congr 1; funext x ρ1; cases x <;> rfl
@[simp] theorem ev_Asg (g : D → List Sl → Option (List Sl)) : sAsg a g ρ = (a ρ).bndS fun d ρ1 => match g d ρ1 with | some ρ2 => .nx ρ2 | none => .no := id rfl
@[simp] theorem ev_Own : sOwn a i ρ = (a ρ).bndS fun d ρ1 => if i < ρ1.length ∧ 0 < i then .nx (ρ1.set i (.own d)) else .no := by
  unfold sOwn
  congr 1
  funext d ρ1
  simp
@[simp] theorem ev_Fre : sFre i ρ = match ρ[i]? with | some (.own d) => .nx (ρ.set i (.fro d)) | _ => .no := id rfl
@[simp] theorem ev_For (it : Iv) (g : D → List Sl → Option (List Sl)) : sFor it g p ρ = (it ρ).bndS fun ds ρ1 => forL g p ds ρ1 := id rfl
@[simp] theorem ev_Set : sSet i a b ρ = (b ρ).bndS fun d ρ1 => match ρ1[i]? with
  | some (.own _) => (a ρ1).bndS fun k ρ2 => (match ρ2[i]?, k with
    | some (.own (.lst l)), .int k => (match ixN l.length k with | some j => .nx (ρ2.set i (.own (.lst (l.set j d)))) | none => .no)
    | _, _ => .no)
  | _ => .no := id rfl
@[simp] theorem ev_App : sApp i a ρ = match ρ[i]? with
  | some (.own (.lst _)) => (a ρ).bndS fun d ρ1 => (match ρ1[i]? with
    | some (.own (.lst l)) => cond (isz (l.length + 1)) (.nx (ρ1.set i (.own (.lst (l ++ [d]))))) .no
    | _ => .no)
  | _ => .no := by
  have h : ∀ (b : Bool) (x y : Fl), (if b = true then x else y) = cond b x y := fun b x y => by cases b <;> rfl
  unfold sApp
  simp only [h]
  all_goals rfl
@[simp] theorem ev_mNil : mNil ρ = .ok ([], ρ) := id rfl
@[simp] theorem ev_mFro (m : Mv) : mFro a m ρ = (a ρ).bnd fun d ρ1 => (m ρ1).bnd fun ss ρ2 => .ok (.fro d :: ss, ρ2) := id rfl
@[simp] theorem ev_mOwn (m : Mv) : mOwn a m ρ = (a ρ).bnd fun d ρ1 => (m ρ1).bnd fun ss ρ2 => .ok (.own d :: ss, ρ2) := id rfl
@[simp] theorem ev_Par (is : List Nat) (m : Mv) : sPar is m ρ = (m ρ).bndS fun ss ρ1 => match setAllR ρ1 is ss with | some ρ2 => .nx ρ2 | none => .no := id rfl
@[simp] theorem ev_set0 : setAllR ρ [] [] = some ρ := id rfl
@[simp] theorem ev_setF (is : List Nat) (ss : List Sl) : setAllR ρ (i :: is) (.fro d :: ss) = if i < ρ.length then setAllR (ρ.set i (.fro d)) is ss else none := by
  rw [setAllR]
  simp
@[simp] theorem ev_setO (is : List Nat) (ss : List Sl) : setAllR ρ (i :: is) (.own d :: ss) = if i < ρ.length ∧ 0 < i then setAllR (ρ.set i (.own d)) is ss else none := by
  rw [setAllR]
  simp
@[simp] theorem ev_lenL (l : List D) : gLen (.lst l) = some (.int l.length) := id rfl
@[simp] theorem ev_lenT (l : List D) : gLen (.tup l) = some (.int l.length) := id rfl
@[simp] theorem ev_aI (i j : Int) : gAdd (.int i) (.int j) = some (.int (i + j)) := id rfl
@[simp] theorem ev_sI (i j : Int) : gSub (.int i) (.int j) = some (.int (i - j)) := id rfl
@[simp] theorem ev_ltI (i j : Int) : gLt (.int i) (.int j) = some (.bl (decide (i < j))) := id rfl
@[simp] theorem ev_leI (i j : Int) : gLe (.int i) (.int j) = some (.bl (decide (i ≤ j))) := id rfl
@[simp] theorem ev_gtI (i j : Int) : gGt (.int i) (.int j) = some (.bl (decide (j < i))) := id rfl
@[simp] theorem ev_geI (i j : Int) : gGe (.int i) (.int j) = some (.bl (decide (j ≤ i))) := id rfl
@[simp] theorem ev_eqI (i j : Int) : gEq (.int i) (.int j) = some (.bl (i == j)) := id rfl
@[simp] theorem ev_neI (i j : Int) : gNe (.int i) (.int j) = some (.bl (!(i == j))) := id rfl
@[simp] theorem ev_negI (i : Int) : gNeg (.int i) = some (.int (-i)) := id rfl
@[simp] theorem ev_notB (b : Bool) : gNot (.bl b) = some (.bl (!b)) := id rfl
@[simp] theorem ev_intI (i : Int) : gInt (.int i) = some (.int i) := id rfl
@[simp] theorem ev_tupL (l : List D) : gTuple (.lst l) = some (.tup l) := id rfl
@[simp] theorem ev_tupT (l : List D) : gTuple (.tup l) = some (.tup l) := id rfl
@[simp] theorem ev_listL (l : List D) : gList (.lst l) = some (.lst l) := id rfl
@[simp] theorem ev_listT (l : List D) : gList (.tup l) = some (.lst l) := id rfl
theorem ev_modI (i j : Int) (h : 0 < j) : gMod (.int i) (.int j) = some (.int (i % j)) := by simp [gMod, h]
theorem ev_divI (i j : Int) (h : 0 < j) (h2 : j < 2 ^ 250) : gDiv (.int i) (.int j) = some (.int (i / j)) := by
  have h3 : j.natAbs.log2 < 250 := (Nat.log2_lt (by omega)).mpr (by
    have : ((j.natAbs : Nat) : Int) < ((2 ^ 250 : Nat) : Int) := by
      rw [Int.natCast_pow]
      have e : ((j.natAbs : Nat) : Int) = j := by omega
      rw [e]
      exact h2
    exact Int.ofNat_lt.mp this)
  have h4 : Nat.ble (j.natAbs.log2 + 1) 9000 = true := Nat.ble_eq.mpr (by omega)
  simp [gDiv, h, h4]
theorem ev_mulI (i j : Int) (h : i.natAbs ≤ 18446744073709551615 ∨ j.natAbs ≤ 18446744073709551615) : gMul (.int i) (.int j) = some (.int (i * j)) := by
  have : mulOk i j = true := by
    unfold mulOk
    rcases h with h | h
    · rw [Nat.ble_eq.mpr h]; rfl
    · rw [Nat.ble_eq.mpr h]; simp
  simp [gMul, this]
end
def dI (l : List Int) : List D := l.map D.int
end Sm
/-! the plain side: loops and blocks -/
namespace Sm
open PySem PySem.Spec PyProof.Rows L2
/-- a for loop by an invariant of what is still to come -/
theorem forL_run {g : D → List Sl → Option (List Sl)} {b : Sv} (I : List D → List Sl → Prop) (Q : Fl → Prop)
    (step : ∀ d ds ρ, I (d :: ds) ρ → ∃ ρ1, g d ρ = some ρ1 ∧ ((∃ ρ2, (b ρ1 = .nx ρ2 ∨ b ρ1 = .ct ρ2) ∧ I ds ρ2) ∨ (∃ ρ2, b ρ1 = .bk ρ2 ∧ Q (.nx ρ2)) ∨ ∃ x ρ2, b ρ1 = .rt x ρ2 ∧ Q (.rt x ρ2)))
    (last : ∀ ρ, I [] ρ → Q (.nx ρ)) : ∀ ds ρ, I ds ρ → Q (forL g b ds ρ)
  | [], ρ, h => last ρ h
  | d :: ds, ρ, h => by
    obtain ⟨ρ1, e, h1⟩ := step d ds ρ h
    rw [forL]
    simp only [e]
    rcases h1 with ⟨ρ2, e2 | e2, h2⟩ | ⟨ρ2, e2, h2⟩ | ⟨x, ρ2, e2, h2⟩
    · simp only [e2]; exact forL_run I Q step last ds ρ2 h2
    · simp only [e2]; exact forL_run I Q step last ds ρ2 h2
    · simp only [e2]; exact h2
    · simp only [e2]; exact h2
/-- a while loop; k: the rounds that it may still go -/
theorem whl_run {c : Tv} {b : Sv} (I : Nat → List Sl → Prop) (Q : Fl → Prop)
    (step : ∀ k ρ, I k ρ → (∃ ρ1, c ρ = .ok (false, ρ1) ∧ Q (.nx ρ1)) ∨ ∃ ρ1, c ρ = .ok (true, ρ1) ∧
      ((∃ k' ρ2, k = k' + 1 ∧ (b ρ1 = .nx ρ2 ∨ b ρ1 = .ct ρ2) ∧ I k' ρ2) ∨ (∃ ρ2, b ρ1 = .bk ρ2 ∧ Q (.nx ρ2)) ∨ ∃ x ρ2, b ρ1 = .rt x ρ2 ∧ Q (.rt x ρ2))) :
    ∀ n k ρ, k < n → I k ρ → Q (whl c b n ρ)
  | 0, k, ρ, h, _ => by omega
  | n + 1, k, ρ, h, i => by
    rw [whl]
    rcases step k ρ i with ⟨ρ1, e, q⟩ | ⟨ρ1, e, h1⟩
    · simp only [e, bndS_ok]; exact q
    · simp only [e, bndS_ok, if_true]
      rcases h1 with ⟨k', ρ2, rfl, e2 | e2, h2⟩ | ⟨ρ2, e2, h2⟩ | ⟨x, ρ2, e2, h2⟩
      · simp only [e2]; exact whl_run I Q step n k' ρ2 (by omega) h2
      · simp only [e2]; exact whl_run I Q step n k' ρ2 (by omega) h2
      · simp only [e2]; exact h2
      · simp only [e2]; exact h2
theorem wipeR_notin : ∀ (vs : List Nat) (ρ : List Sl) (i : Nat), i ∉ vs → (wipeR ρ vs)[i]? = ρ[i]?
  | [], ρ, i, _ => rfl
  | v :: vs, ρ, i, h => by
    simp only [wipeR]
    rw [List.getElem?_set_ne (fun e => h (by simp [e]))]
    exact wipeR_notin vs ρ i fun m => h (List.mem_cons_of_mem _ m)
theorem backR_notin (ρ0 : List Sl) : ∀ (vs : List Nat) (ρ : List Sl) (i : Nat), i ∉ vs → (backR ρ0 ρ vs)[i]? = ρ[i]?
  | [], ρ, i, _ => rfl
  | v :: vs, ρ, i, h => by
    have ih := backR_notin ρ0 vs ρ i fun m => h (List.mem_cons_of_mem _ m)
    simp only [backR]
    split
    · rw [List.getElem?_set_ne (fun e => h (by simp [e]))]; exact ih
    · exact ih
theorem backR_in (ρ0 : List Sl) : ∀ (vs : List Nat) (ρ : List Sl) (i : Nat), ρ.length = ρ0.length → i ∈ vs → (backR ρ0 ρ vs)[i]? = ρ0[i]?
  | v :: vs, ρ, i, hl, h => by
    simp only [backR]
    by_cases e : v = i
    · subst e
      cases e2 : ρ0[v]? with
      | some s =>
        have hv := (List.getElem?_eq_some_iff.mp e2).1
        simp only []
        rw [List.getElem?_set_self (by rw [backR_len]; omega)]
      | none =>
        simp only []
        have := List.getElem?_eq_none_iff.mp e2
        exact List.getElem?_eq_none_iff.mpr (by rw [backR_len]; omega)
    · have ih := backR_in ρ0 vs ρ i hl (by rcases List.mem_cons.mp h with r | r; exact absurd r.symm e; exact r)
      split
      · rw [List.getElem?_set_ne e]; exact ih
      · exact ih
theorem backR_self {ρ ρ' : List Sl} {vs : List Nat} (h : wipeR ρ' vs = wipeR ρ vs) : backR ρ ρ' vs = ρ := by
  have hl : ρ'.length = ρ.length := by rw [← wipeR_len vs ρ', h, wipeR_len]
  refine List.ext_getElem? fun i => ?_
  by_cases hi : i ∈ vs
  · exact backR_in ρ vs ρ' i hl hi
  · rw [backR_notin ρ vs ρ' i hi, ← wipeR_notin vs ρ' i hi, h, wipeR_notin vs ρ i hi]
/-- a block by an invariant of what is still to come and what is there already; the slots of the block wiped -/
theorem lc_run {g : D → List Sl → Option (List Sl)} {tt : Tv} {te : Ev} {vs : List Nat} (I : List D → List D → List Sl → Prop)
    (step : ∀ d ds ys ρ, I (d :: ds) ys ρ → ∃ ρ1, g d ρ = some ρ1 ∧ ((∃ ρ2, tt ρ1 = .ok (false, ρ2) ∧ I ds ys (wipeR ρ2 vs)) ∨ ∃ ρ2 y ρ3, tt ρ1 = .ok (true, ρ2) ∧ te ρ2 = .ok (y, ρ3) ∧ I ds (ys ++ [y]) (wipeR ρ3 vs))) :
    ∀ ds ys0 ρ, I ds ys0 (wipeR ρ vs) → ∃ ys ρ', lcGo g tt te vs ds ρ = .ok (ys, ρ') ∧ I [] (ys0 ++ ys) (wipeR ρ' vs)
  | [], ys0, ρ, h => ⟨[], ρ, rfl, by simpa using h⟩
  | d :: ds, ys0, ρ, h => by
    obtain ⟨ρ1, e, h1⟩ := step d ds ys0 _ h
    rw [lcGo]
    simp only [e]
    rcases h1 with ⟨ρ2, e2, h2⟩ | ⟨ρ2, y, ρ3, e2, e3, h3⟩
    · simp only [e2, bnd_ok]
      exact lc_run I step ds ys0 ρ2 h2
    · obtain ⟨ys, ρ', e4, h4⟩ := lc_run I step ds (ys0 ++ [y]) ρ3 h3
      simp only [e2, bnd_ok, e3, e4, if_true]
      exact ⟨_, _, rfl, by simpa using h4⟩
theorem xLc_run {it : Iv} {g : D → List Sl → Option (List Sl)} {tt : Tv} {te : Ev} {vs : List Nat} {ρ0 ρ : List Sl} {ds : List D} (I : List D → List D → List Sl → Prop) (hi : it ρ0 = .ok (ds, ρ)) (ho : noOwn ρ vs = true)
    (step : ∀ d ds ys ρ, I (d :: ds) ys ρ → ∃ ρ1, g d ρ = some ρ1 ∧ ((∃ ρ2, tt ρ1 = .ok (false, ρ2) ∧ I ds ys (wipeR ρ2 vs)) ∨ ∃ ρ2 y ρ3, tt ρ1 = .ok (true, ρ2) ∧ te ρ2 = .ok (y, ρ3) ∧ I ds (ys ++ [y]) (wipeR ρ3 vs)))
    (h0 : I ds [] (wipeR ρ vs)) (hz : ∀ ys ρ', I [] ys ρ' → ys.length ≤ 16777216) : ∃ ys ρ', xLc it g tt te vs ρ0 = .ok (.lst ys, backR ρ ρ' vs) ∧ I [] ys (wipeR ρ' vs) := by
  obtain ⟨ys, ρ', e, h⟩ := lc_run I step ds [] ρ h0
  refine ⟨ys, ρ', ?_, by simpa using h⟩
  have z := hz ys _ (by simpa using h)
  unfold xLc
  simp [hi, ho, e, R.noEx, z]
/-- a block that changes no slot but its own -/
theorem xLc_filter {it : Iv} {g : D → List Sl → Option (List Sl)} {tt : Tv} {te : Ev} {vs : List Nat} {ρ0 ρ : List Sl} {ds : List D} (b : D → Bool) (h : D → D) (hi : it ρ0 = .ok (ds, ρ)) (ho : noOwn ρ vs = true) (hl : (ds.filter b).length ≤ 16777216)
    (step : ∀ d ∈ ds, ∃ ρ1, g d (wipeR ρ vs) = some ρ1 ∧ wipeR ρ1 vs = wipeR ρ vs ∧ tt ρ1 = .ok (b d, ρ1) ∧ (b d = true → te ρ1 = .ok (h d, ρ1))) : xLc it g tt te vs ρ0 = .ok (.lst ((ds.filter b).map h), ρ) := by
  have key : ∀ (ds' : List D), (∀ d ∈ ds', d ∈ ds) → ∀ ρ2, wipeR ρ2 vs = wipeR ρ vs → ∃ ρ', lcGo g tt te vs ds' ρ2 = .ok ((ds'.filter b).map h, ρ') ∧ wipeR ρ' vs = wipeR ρ vs := by
    intro ds'
    induction ds' with
    | nil => exact fun _ ρ2 e => ⟨ρ2, rfl, e⟩
    | cons d ds' ih =>
      intro sub ρ2 e
      obtain ⟨ρ1, e1, e2, e3, e4⟩ := step d (sub d (by simp))
      obtain ⟨ρ', e5, e6⟩ := ih (fun x hx => sub x (List.mem_cons_of_mem _ hx)) ρ1 e2
      rw [lcGo]
      simp only [e, e1, e3, bnd_ok]
      cases hb : b d with
      | true =>
        simp only [e4 hb, bnd_ok, e5, if_true]
        exact ⟨ρ', by simp [hb], e6⟩
      | false =>
        simp only [e5]
        exact ⟨ρ', by simp [hb], e6⟩
  obtain ⟨ρ', e, h2⟩ := key ds (fun _ h => h) ρ rfl
  unfold xLc
  have : ((ds.filter b).map h).length ≤ 16777216 := by
    rw [List.length_map]
    exact hl
  have z : isz ((ds.filter b).map h).length = true := ev_isz _ this
  simp only [hi, bnd_ok, ho, if_true, e, R.noEx, z, backR_self h2]
theorem xLc_map {it : Iv} {g : D → List Sl → Option (List Sl)} {te : Ev} {vs : List Nat} {ρ0 ρ : List Sl} {ds : List D} (h : D → D) (hi : it ρ0 = .ok (ds, ρ)) (ho : noOwn ρ vs = true) (hl : ds.length ≤ 16777216)
    (step : ∀ d ∈ ds, ∃ ρ1, g d (wipeR ρ vs) = some ρ1 ∧ wipeR ρ1 vs = wipeR ρ vs ∧ te ρ1 = .ok (h d, ρ1)) : xLc it g tvYes te vs ρ0 = .ok (.lst (ds.map h), ρ) := by
  have := xLc_filter (tt := tvYes) (fun _ => true) h hi ho (Nat.le_trans (List.length_filter_le ..) hl) fun d hd => by
    obtain ⟨ρ1, e1, e2, e3⟩ := step d hd
    exact ⟨ρ1, e1, e2, rfl, fun _ => e3⟩
  rw [List.filter_eq_self.mpr fun _ _ => rfl] at this
  exact this
/-- the state of the rolls -/
def Cup (c : D) : Prop := ∃ a b : Int, c = .lst [.int a, .int b] ∧ 0 ≤ a ∧ 0 ≤ b ∧ b < 4294967296
theorem cup_any (d1 m1 a1 a2 : Int) (h1 : 0 < d1) (h2 : d1 < 1000000) (h3 : 0 ≤ m1) (h4 : m1 < 1000000) (h5 : 0 ≤ a1) (h6 : 0 ≤ a2) (h7 : a2 < 1000000) (ns : List Int) (hn : ns.length ≤ 63) :
    ∃ c, mkNw 1 2 (sSeq (sAsg (xUn gAbs (xOp gIdx (xOp gAdd (xUn gList (xVar 0)) (xLst (xCons (xC (.int 0)) xNil))) (xC (.int 0)))) (gtN 1))
      (sRetN (xLst (xCons (xIte (tvOf (xOp gGe (xVar 1) (xOp gPow (xC (.int 10)) (xC (.int 18))))) (xOp gDiv (xVar 1) (xC (.int d1))) (xC (.int 0))) (xCons (xOp gAdd (xOp gMod (xUn gInt (xOp gAdd (xOp gMul (xVar 1) (xC (.int m1))) (xC (.int a1)))) (xC (.int 1994060489))) (xC (.int a2))) xNil))))) [.scr ns] = .ok c ∧ Cup c := by
  obtain ⟨x, hx⟩ : ∃ x : Int, atI (ns.map D.int ++ [D.int 0]) 0 = some (.int x) := by
    cases ns with
    | nil => exact ⟨0, rfl⟩
    | cons n ns =>
      have : (0 : Int) < (ns.length : Int) + 1 + 1 := by omega
      exact ⟨n, by simp [atI, ixN, this]⟩
  obtain ⟨y, hy, hy0⟩ : ∃ y : Int, gAbs (.int x) = some (.int y) ∧ 0 ≤ y := ⟨_, rfl, by split <;> omega⟩
  have e1 : gAdd (.lst (ns.map D.int)) (.lst [D.int 0]) = some (.lst (ns.map D.int ++ [D.int 0])) := by
    have : ns.length + 1 ≤ 16777216 := by omega
    simp [gAdd, this]
  have e2 : gIdx (.lst (ns.map D.int ++ [D.int 0])) (.int 0) = some (.int x) := hx
  have e3 : gPow (.int 10) (.int 18) = some (.int 1000000000000000000) := rfl
  have e4 : gMul (.int y) (.int m1) = some (.int (y * m1)) := ev_mulI _ _ (.inr (by omega))
  have e5 : gMod (.int (y * m1 + a1)) (.int 1994060489) = some (.int ((y * m1 + a1) % 1994060489)) := ev_modI _ _ (by omega)
  have e6 : gDiv (.int y) (.int d1) = some (.int (y / d1)) := ev_divI _ _ h1 (by omega)
  have m2 := Int.emod_nonneg (y * m1 + a1) (b := 1994060489) (by omega)
  have m3 := Int.emod_lt_of_pos (y * m1 + a1) (b := 1994060489) (by omega)
  by_cases g : (1000000000000000000 : Int) ≤ y
  · refine ⟨.lst [.int (y / d1), .int ((y * m1 + a1) % 1994060489 + a2)], ?_, _, _, rfl, Int.ediv_nonneg hy0 (by omega), by omega, by omega⟩
    simp [mkNw, slotsOf, gList, e1, e2, hy, e3, e4, e5, e6, g]
  · refine ⟨.lst [.int 0, .int ((y * m1 + a1) % 1994060489 + a2)], ?_, _, _, rfl, by omega, by omega, by omega⟩
    simp [mkNw, slotsOf, gList, e1, e2, hy, e3, e4, e5, e6, g]
end Sm
namespace Sm
open PySem PySem.Spec PyProof.Rows L2
mutual
theorem eqv_refl : ∀ (n : Nat) (x : D), x.lay n = true → D.eqv x x = true
  | _, .non, _ => rfl
  | _, .bl b, _ => by simp [D.eqv]
  | _, .int i, _ => by simp [D.eqv]
  | _, .str s, _ => by simp [D.eqv]
  | n, .lst l, h => by
    cases n with
    | zero => simp [D.lay] at h
    | succ n =>
      have h' : D.layL n l = true := by simpa [D.lay] using h
      simpa [D.eqv] using eqv_reflL n l h'
  | n, .tup l, h => by
    cases n with
    | zero => simp [D.lay] at h
    | succ n =>
      have h' : D.layL n l = true := by simpa [D.lay] using h
      simpa [D.eqv] using eqv_reflL n l h'
  | _, .dic _ _, h => by simp [D.lay] at h
  | _, .scr _, h => by simp [D.lay] at h
theorem eqv_reflL : ∀ (n : Nat) (x : List D), D.layL n x = true → D.eqvL x x = true
  | _, [], _ => rfl
  | n, x :: xs, h => by
    have h' : x.lay n = true ∧ D.layL n xs = true := by simpa [D.layL] using h
    simp [D.eqvL, eqv_refl n x h'.1, eqv_reflL n xs h'.2]
end
theorem gEq_self {d : D} (h : d.lay 64 = true) : gEq d d = some (.bl true) := by
  unfold gEq
  rw [h]
  simp [eqv_refl 64 d h]
theorem layL_ints (n : Nat) : ∀ (l : List Int), D.layL n (l.map .int) = true
  | [] => rfl
  | i :: l => by simp [D.layL, D.lay, layL_ints n l]
theorem lay_ints (l : List Int) : (D.lst (l.map .int)).lay 64 = true := by simp [D.lay, layL_ints]
theorem lay_intsT (l : List Int) : (D.tup (l.map .int)).lay 64 = true := by simp [D.lay, layL_ints]
end Sm
namespace LB
open PySem PySem.Spec PyProof.Rows L2 Sm
theorem is_whole_int (v a b : Int) : f_is_whole [.int v, .int a, .int b] = .ok (.bl (decide (a ≤ v) && decide (v ≤ b))) := by
  simp [f_is_whole, b_is_whole, mkFn, slotsOf, gIsi]
  by_cases h : a ≤ v <;> simp [h]
theorem need_whole_ok (v a b : Int) (h1 : a ≤ v) (h2 : v ≤ b) : f_need_whole [.int v, .int a, .int b] = .ok .non := by
  simp [f_need_whole, b_need_whole, mkFn, slotsOf, is_whole_int, h1, h2]
theorem need_n_ok (n : Int) (h1 : 1 ≤ n) (h2 : n ≤ 240) : f_need_n [.int n] = .ok .non := by
  simp [f_need_n, b_need_n, mkFn, slotsOf, need_whole_ok, h1, h2]
theorem rest_in_ok (v n : Int) (h : 0 < n) : f_rest_in [.int v, .int n] = .ok (.int (v % n)) := by
  simp [f_rest_in, b_rest_in, mkFn, slotsOf, ev_modI, h]
theorem roll_ok (c : D) (hc : Cup c) (m : Int) (h1 : 0 < m) (h2 : m < 10 ^ 70) : ∃ r c', f__law_roll c [.int m] = .ok (.int r, c') ∧ 0 ≤ r ∧ r < m ∧ Cup c' := by
  obtain ⟨a, b, rfl, ha, hb, hb2⟩ := hc
  have h3 : m < 2 ^ 250 := by omega
  by_cases g : 0 < a
  · have m1 := Int.emod_nonneg a (b := m) (by omega)
    have m2 := Int.emod_lt_of_pos a h1
    refine ⟨a % m, .lst [.int (a / m), .int b], ?_, m1, m2, _, _, rfl, Int.ediv_nonneg ha (by omega), hb, hb2⟩
    simp [f__law_roll, b__law_roll, mkIo, slotsOf, gIdx, atI, ixN, g, ev_modI a m h1, ev_divI a m h1 h3]
  · have e1 : gMul (.int b) (.int 30881) = some (.int (b * 30881)) := ev_mulI _ _ (.inr (by omega))
    have e2 := ev_modI (b * 30881 + 8929) 2147483549 (by omega)
    generalize hb' : (b * 30881 + 8929) % 2147483549 = b' at e2
    have n1 : 0 ≤ b' := by rw [← hb']; exact Int.emod_nonneg _ (by omega)
    have n2 : b' < 2147483549 := by rw [← hb']; exact Int.emod_lt_of_pos _ (by omega)
    have e3 : gMul (.int b') (.int (b' + 701)) = some (.int (b' * (b' + 701))) := ev_mulI _ _ (.inr (by omega))
    have e4 := ev_modI (b' * (b' + 701)) 2147483543 (by omega)
    generalize hd : (b' * (b' + 701)) % 2147483543 = d at e4
    have n3 : 0 ≤ d := by rw [← hd]; exact Int.emod_nonneg _ (by omega)
    have e5 := ev_divI d 1171 (by omega) (by omega)
    have e6 := ev_modI (d / 1171) m h1
    refine ⟨d / 1171 % m, .lst [.int a, .int b'], ?_, Int.emod_nonneg _ (by omega), Int.emod_lt_of_pos _ h1, _, _, rfl, ha, n1, by omega⟩
    simp [f__law_roll, b__law_roll, mkIo, slotsOf, gIdx, atI, ixN, g, e1, e2, e3, e4, e5, e6]
/-- plain data of this depth at most -/
def sortD : D → Int
  | .bl _ => 1
  | .int _ => 2
  | .tup _ => 3
  | .lst _ => 4
  | _ => 0
theorem sort_ok (d : D) (h : (match d with | .dic _ _ => false | .scr _ => false | _ => true) = true) : f__law_sort [d] = .ok (.int (sortD d)) := by
  cases d <;> first | (simp at h; done) | simp [f__law_sort, b__law_sort, mkFn, slotsOf, gIsi, sortD]
mutual
def pl : Nat → D → Bool
  | _, .non => true
  | _, .bl _ => true
  | _, .int _ => true
  | _, .str x => PySem.PyData.strOk x
  | n, .lst l => (match n with | 0 => false | n + 1 => plL n l)
  | n, .tup l => (match n with | 0 => false | n + 1 => plL n l)
  | _, .dic _ _ => false
  | _, .scr _ => false
def plL : Nat → List D → Bool
  | _, [] => true
  | n, x :: xs => pl n x && plL n xs
end
theorem plL_mem {n : Nat} : ∀ {l : List D}, plL n l = true → ∀ x ∈ l, pl n x = true
  | [], _, x, h => by simp at h
  | y :: l, h, x, hx => by
    simp only [plL, Bool.and_eq_true] at h
    rcases List.mem_cons.mp hx with rfl | hx
    · exact h.1
    · exact plL_mem h.2 x hx
theorem plL_of {n : Nat} : ∀ {l : List D}, (∀ x ∈ l, pl n x = true) → plL n l = true
  | [], _ => rfl
  | y :: l, h => by
    simp only [plL, Bool.and_eq_true]
    exact ⟨h y (by simp), plL_of fun x hx => h x (by simp [hx])⟩
theorem zipD_mem : ∀ (l : List D) (x : D), x ∈ zipD l l → ∃ y ∈ l, x = .tup [y, y]
  | [], x, h => by simp [zipD] at h
  | y :: l, x, h => by
    simp only [zipD] at h
    rcases List.mem_cons.mp h with rfl | h
    · exact ⟨y, by simp, rfl⟩
    · obtain ⟨z, hz, e⟩ := zipD_mem l x h
      exact ⟨z, by simp [hz], e⟩
theorem notIn34 (i : Int) : gIn true (.int i) (.tup [.int 3, .int 4]) = some (.bl (!(3 == i || (4 == i || false)))) := rfl
theorem eqNn : gEq (.lst []) (.lst []) = some (.bl true) := rfl
theorem eqNon : gEq .non .non = some (.bl true) := rfl
theorem eqBl (a b : Bool) : gEq (.bl a) (.bl b) = some (.bl (a == b)) := rfl
theorem eqStr (a b : Str) (h : PySem.PyData.strOk a = true) (h2 : PySem.PyData.strOk b = true) : gEq (.str a) (.str b) = some (.bl (a == b)) := by
  unfold gEq
  rw [show (D.str a).lay 64 = true from h, show (D.str b).lay 64 = true from h2]
  rfl
theorem like_list (k : Nat) (l : List D) (T : List D → D) (hT : T = D.lst ∨ T = D.tup) (ih : ∀ x ∈ l, f__law_like_2 k [x, x] = .ok (.bl true)) : f__law_like_2 (k + 1) [T l, T l] = .ok (.bl true) := by
  have hf : (zipD l l).filter (fun d => match d with | .tup [_, _] => false | _ => true) = [] := by
    rw [List.filter_eq_nil_iff]
    intro a ha
    obtain ⟨y, hy, rfl⟩ := zipD_mem l a ha
    simp
  have key : ∀ (ρ : List Sl) , ρ = [.fro (T l), .fro (T l), .no, .no] → xLc (xZip (xVar 0) (xVar 1)) (gtT 2 (gsC (gtN 2) (gsC (gtN 3) gsN))) (tvNot (tvOf (xCall (f__law_like_2 k) (xCons (xVar 2) (xCons (xVar 3) xNil))))) (xC (.int 1)) [2, 3] ρ = .ok (.lst [], ρ) := by
    intro ρ e
    subst e
    have := xLc_filter (it := xZip (xVar 0) (xVar 1)) (g := gtT 2 (gsC (gtN 2) (gsC (gtN 3) gsN))) (tt := tvNot (tvOf (xCall (f__law_like_2 k) (xCons (xVar 2) (xCons (xVar 3) xNil))))) (te := xC (.int 1)) (vs := [2, 3]) (ρ0 := [.fro (T l), .fro (T l), .no, .no]) (ρ := [.fro (T l), .fro (T l), .no, .no]) (ds := zipD l l)
      (fun d => match d with | .tup [_, _] => false | _ => true) (fun _ => .int 1) (by rcases hT with rfl | rfl <;> simp) rfl (by rw [hf]; simp) fun d hd => by
        obtain ⟨y, hy, rfl⟩ := zipD_mem l d hd
        refine ⟨[.fro (T l), .fro (T l), .fro y, .fro y], by simp [wipeR], by simp [wipeR], ?_, fun h => by simp at h⟩
        simp [ih y hy]
    rw [hf] at this
    exact this
  have e := key _ rfl
  rcases hT with rfl | rfl
  · simp [f__law_like_2, b__law_like_2, mkFn, slotsOf, sort_ok, sortD, notIn34, gLen, e, eqNn]
  · simp [f__law_like_2, b__law_like_2, mkFn, slotsOf, sort_ok, sortD, notIn34, gLen, e, eqNn]
theorem like_refl : ∀ (k : Nat) (d : D), pl k d = true → f__law_like_2 (k + 1) [d, d] = .ok (.bl true)
  | k, .non, h => by simp [f__law_like_2, b__law_like_2, mkFn, slotsOf, sort_ok, sortD, notIn34, eqNon]
  | k, .bl b, h => by simp [f__law_like_2, b__law_like_2, mkFn, slotsOf, sort_ok, sortD, notIn34, eqBl]
  | k, .int i, h => by simp [f__law_like_2, b__law_like_2, mkFn, slotsOf, sort_ok, sortD, notIn34]
  | k, .str s, h => by
    have h' : PySem.PyData.strOk s = true := by simpa [pl] using h
    simp [f__law_like_2, b__law_like_2, mkFn, slotsOf, sort_ok, sortD, notIn34, eqStr s s h' h']
  | 0, .lst l, h => by simp [pl] at h
  | 0, .tup l, h => by simp [pl] at h
  | k + 1, .lst l, h => like_list (k + 1) l .lst (.inl rfl) fun x hx => like_refl k x (plL_mem (by simpa [pl] using h) x hx)
  | k + 1, .tup l, h => like_list (k + 1) l .tup (.inr rfl) fun x hx => like_refl k x (plL_mem (by simpa [pl] using h) x hx)
abbrev dN (n : Nat) : D := .int (n : Int)
theorem modN (a b : Nat) (h : 0 < b) : gMod (dN a) (dN b) = some (.int ((a : Int) % b)) := ev_modI _ _ (by omega)
theorem divN (a b : Nat) (h : 0 < b) (h2 : b < 1000000000) : gDiv (dN a) (dN b) = some (.int ((a : Int) / b)) := ev_divI _ _ (by omega) (by omega)
end LB
namespace LB
open PySem PySem.Spec PyProof.Rows L2 Sm
/-! polynomials -/
abbrev dT (f : List Int) : D := .tup (f.map D.int)
abbrev dL (f : List Int) : D := .lst (f.map D.int)
@[simp] theorem ev_revL (l : List D) : gRev (.lst l) = some (.lst l.reverse) := id rfl
@[simp] theorem ev_revT (l : List D) : gRev (.tup l) = some (.tup l.reverse) := id rfl
def hz (f : List Int) (x : Int) : Int := f.foldr (fun c a => a * x + c) 0
def tidy : List Int → List Int
  | [] => []
  | c :: f => if tidy f = [] ∧ c = 0 then [] else c :: tidy f
theorem forL_rev {g : D → List Sl → Option (List Sl)} {b : Sv} (h : List Int → Int) (S : Int → Sl → List Sl) (P : Int → Prop)
    (step : ∀ c d s, P c → ∃ ρ1, g (.int c) (S (h d) s) = some ρ1 ∧ b ρ1 = .nx (S (h (c :: d)) (.fro (.int c)))) :
    ∀ (l d : List Int) (s : Sl), (∀ c ∈ l, P c) → ∃ s', forL g b (l.map D.int) (S (h d) s) = .nx (S (h (l.reverse ++ d)) s')
  | [], d, s, _ => ⟨s, rfl⟩
  | c :: l, d, s, hp => by
    obtain ⟨ρ1, e1, e2⟩ := step c d s (hp c (by simp))
    obtain ⟨s', e3⟩ := forL_rev h S P step l (c :: d) (.fro (.int c)) fun x hx => hp x (by simp [hx])
    refine ⟨s', ?_⟩
    rw [List.map_cons, forL]
    simp only [e1, e2, e3]
    simp
theorem horner (f : List Int) (x : Int) (hx : x.natAbs ≤ 18446744073709551615) (a b : Sl) (hb : b = .fro (.int x)) (s : Sl) : ∃ s', forL (gtN 3) (sAsg (xOp gAdd (xOp gMul (xVar 2) (xVar 1)) (xVar 3)) (gtN 2)) (f.map D.int).reverse [a, b, .fro (.int 0), s] = .nx [a, b, .fro (.int (hz f x)), s'] := by
  subst hb
  have := forL_rev (g := gtN 3) (b := sAsg (xOp gAdd (xOp gMul (xVar 2) (xVar 1)) (xVar 3)) (gtN 2)) (fun f => hz f x) (fun v s => [a, .fro (.int x), .fro (.int v), s]) (fun _ => True)
    (fun c d s _ => ⟨[a, .fro (.int x), .fro (.int (hz d x)), .fro (.int c)], by simp, by
      have m := ev_mulI (hz d x) x (.inr hx)
      simp [m]
      rfl⟩) f.reverse [] s (by simp)
  rw [List.map_reverse, List.reverse_reverse, List.append_nil] at this
  exact this
theorem law_value_ok (T : List D → D) (hT : T = .tup ∨ T = .lst) (f : List Int) (x : Int) (hx : x.natAbs ≤ 18446744073709551615) : f__law_value_2 [T (f.map D.int), .int x] = .ok (.int (hz f x)) := by
  obtain ⟨s', e⟩ := horner f x hx (.fro (T (f.map D.int))) (.fro (.int x)) rfl .no
  rcases hT with rfl | rfl <;> simp [f__law_value_2, b__law_value_2, mkFn, slotsOf, e]
/-- a polynomial as the program takes it -/
structure Pol (f : List Int) : Prop where
  len : f.length ≤ 240
  bd : ∀ c ∈ f, -10 ^ 60 ≤ c ∧ c ≤ 10 ^ 60
  ld : f = [] ∨ f.getLast? ≠ some 0
theorem rest_at_ok (T : List D → D) (hT : T = .tup ∨ T = .lst) (f : List Int) (x n : Int) (hx : x.natAbs ≤ 18446744073709551615) (hn : 0 < n) : f_rest_at [T (f.map D.int), .int x, .int n] = .ok (.int (hz f x % n)) := by
  have := forL_rev (g := gtN 4) (b := sAsg (xCall f_rest_in (xCons (xOp gAdd (xOp gMul (xVar 3) (xVar 1)) (xVar 4)) (xCons (xVar 2) xNil))) (gtN 3)) (fun f => hz f x % n) (fun v s => [.fro (T (f.map D.int)), .fro (.int x), .fro (.int n), .fro (.int v), s]) (fun _ => True)
    (fun c d s _ => ⟨[.fro (T (f.map D.int)), .fro (.int x), .fro (.int n), .fro (.int (hz d x % n)), .fro (.int c)], by simp, by
      have m := ev_mulI (hz d x % n) x (.inr hx)
      have r := rest_in_ok (hz d x % n * x + c) n hn
      have e : (hz d x % n * x + c) % n = hz (c :: d) x % n := by
        show _ = (hz d x * x + c) % n
        rw [Int.add_emod, Int.mul_emod, Int.emod_emod, ← Int.mul_emod, ← Int.add_emod]
      simp [m, r, e]⟩) f.reverse [] .no (by simp)
  rw [List.map_reverse, List.reverse_reverse, List.append_nil] at this
  obtain ⟨s', e⟩ := this
  have z : hz [] x % n = 0 := by show (0 : Int) % n = 0; simp
  rw [z] at e
  rcases hT with rfl | rfl <;> simp [f_rest_at, b_rest_at, mkFn, slotsOf, e]
theorem is_whole_true (v a b : Int) (h : a ≤ v ∧ v ≤ b) : f_is_whole [.int v, .int a, .int b] = .ok (.bl true) := by
  rw [is_whole_int, decide_eq_true h.1, decide_eq_true h.2]
  rfl
theorem is_tuple_of_ok' (l : List D) (a b : Int) (h : a ≤ l.length ∧ (l.length : Int) ≤ b) : f_is_tuple_of [.tup l, .int a, .int b] = .ok (.bl true) := by
  simp [f_is_tuple_of, b_is_tuple_of, mkFn, slotsOf, gIsi, h.1, h.2]
theorem bls_true : ∀ (l : List D), (∀ d ∈ l, d = .bl true) → gAll (.lst l) = some (.bl true) := by
  have : ∀ (l : List D), (∀ d ∈ l, d = .bl true) → ∃ bs, D.bls l = some bs ∧ bs.all id = true := by
    intro l
    induction l with
    | nil => exact fun _ => ⟨[], rfl, rfl⟩
    | cons d l ih =>
      intro h
      obtain ⟨bs, e, e2⟩ := ih fun x hx => h x (by simp [hx])
      cases h d (by simp)
      exact ⟨true :: bs, by simp [D.bls, e], by simp at e2 ⊢; exact e2⟩
  intro l h
  obtain ⟨bs, e, e2⟩ := this l h
  simp only [gAll, e, Option.map_some, e2]
theorem is_poly_ok (f : List Int) (hf : Pol f) : f_is_poly [dT f] = .ok (.bl true) := by
  have t := is_tuple_of_ok' (f.map D.int) 0 240 (by have := hf.len; simp; omega)
  have c := xLc_map (it := xIt (xVar 0)) (g := gtN 1) (te := xCall f_is_whole (xCons (xVar 1) (xCons (xUn gNeg (xC (.int 1000000000000000000000000000000000000000000000000000000000000))) (xCons (xC (.int 1000000000000000000000000000000000000000000000000000000000000)) xNil)))) (vs := [1]) (ρ0 := [.fro (dT f), .no]) (ρ := [.fro (dT f), .no])
    (ds := f.map .int) (fun _ => .bl true) (by simp) rfl (by have := hf.len; rw [List.length_map]; omega) fun d hd => by
      obtain ⟨v, hv, rfl⟩ := List.mem_map.mp hd
      have w := is_whole_true v (-10 ^ 60) (10 ^ 60) (hf.bd v hv)
      simp only [show (-10 ^ 60 : Int) = -1000000000000000000000000000000000000000000000000000000000000 by rfl, show (10 ^ 60 : Int) = 1000000000000000000000000000000000000000000000000000000000000 by rfl] at w
      refine ⟨[.fro (dT f), .fro (.int v)], by simp [wipeR], by simp [wipeR], by simp [w]⟩
  have g := bls_true (List.map (fun _ => D.bl true) (f.map D.int)) (by simp)
  simp only [List.map_map] at c g
  have lv : xOr (xOp gEq (xVar 0) (xTup xNil)) (xOp gNe (xOp gIdx (xVar 0) (xUn gNeg (xC (.int 1)))) (xC (.int 0))) [.fro (dT f), .no] = .ok (.bl true, [.fro (dT f), .no]) := by
    cases f with
    | nil =>
      have q : gEq (dT []) (.tup []) = some (.bl true) := rfl
      simp [-ev_Tup, show xTup xNil [.fro (dT []), .no] = .ok (.tup [], [.fro (dT []), .no]) from rfl, q]
    | cons a f =>
      have q : gEq (dT (a :: f)) (.tup []) = some (.bl false) := by
        unfold gEq
        rw [lay_intsT]
        rfl
      have hl : (a :: f).getLast (by simp) ≠ 0 := fun h => by
        rcases hf.ld with hl | hl
        · cases hl
        · exact hl (by rw [← h]; exact List.getLast?_eq_some_getLast _)
      have hz : atI ((a :: f).map D.int) (-1) = some (.int ((a :: f).getLast (by simp))) := by
        have h3 : ixN ((a :: f).map D.int).length (-1) = some f.length := by
          have e : ((a :: f).map D.int).length = f.length + 1 := by simp
          rw [e]
          unfold ixN
          rw [if_neg (by omega), if_pos (by omega)]
          congr 1
          omega
        unfold atI
        rw [h3]
        show ((a :: f).map D.int)[f.length]? = _
        rw [List.getElem?_map, List.getLast_eq_getElem, List.getElem?_eq_getElem (by simp)]
        rfl
      have i : gIdx (dT (a :: f)) (.int (-1)) = some (.int ((a :: f).getLast (by simp))) := hz
      have ne : (((a :: f).getLast (by simp)) == 0) = false := beq_eq_false_iff_ne.mpr hl
      generalize dT (a :: f) = F at q i ⊢
      generalize (a :: f).getLast (by simp) = z at *
      simp [q, i, ne]
  simp [f_is_poly, b_is_poly, mkFn, slotsOf, t, c, g, lv, -ev_Or]
theorem need_poly_ok (f : List Int) (hf : Pol f) : f_need_poly [dT f] = .ok .non := by
  simp [f_need_poly, b_need_poly, mkFn, slotsOf, is_poly_ok f hf]
theorem value_at_ok (f : List Int) (hf : Pol f) (x : Int) (h1 : -18446744073709551615 ≤ x) (h2 : x ≤ 18446744073709551615) : f_value_at [dT f, .int x] = .ok (.int (hz f x)) := by
  obtain ⟨s', e⟩ := horner f x (by omega) (.fro (dT f)) (.fro (.int x)) rfl .no
  have n := need_poly_ok f hf
  have w := need_whole_ok x (-10 ^ 60) (10 ^ 60) (by omega) (by omega)
  simp only [show (-10 ^ 60 : Int) = -1000000000000000000000000000000000000000000000000000000000000 by rfl, show (10 ^ 60 : Int) = 1000000000000000000000000000000000000000000000000000000000000 by rfl] at w
  simp [f_value_at, b_value_at, mkFn, slotsOf, e, n, w]
/-! parts without the zeros at the end -/
theorem tidy_nil : ∀ (f : List Int), (∀ c ∈ f, c = 0) → tidy f = []
  | [], _ => rfl
  | c :: f, h => by
    simp only [tidy]
    rw [if_pos ⟨tidy_nil f fun x hx => h x (by simp [hx]), h c (by simp)⟩]
theorem tidy_take : ∀ (m : Nat) (f : List Int), m ≤ f.length → (∀ i, m ≤ i → ∀ c, f[i]? = some c → c = 0) → (m = 0 ∨ ∃ c, f[m - 1]? = some c ∧ c ≠ 0) → tidy f = f.take m
  | 0, f, _, h, _ => by
    rw [List.take_zero]
    refine tidy_nil f fun c hc => ?_
    obtain ⟨i, hi, e⟩ := List.mem_iff_getElem.mp hc
    exact h i (by omega) c (by rw [List.getElem?_eq_getElem hi, e])
  | m + 1, [], hm, _, _ => by simp at hm
  | m + 1, c :: f, hm, h, h2 => by
    have h' : ∀ i, m ≤ i → ∀ c, f[i]? = some c → c = 0 := fun i hi d e => h (i + 1) (by omega) d (by simpa using e)
    obtain ⟨d, hd, hd0⟩ : ∃ d, (c :: f)[m]? = some d ∧ d ≠ 0 := by
      rcases h2 with h2 | h2
      · omega
      · simpa using h2
    simp only [tidy, List.take_succ_cons]
    cases m with
    | zero =>
      have t := tidy_take 0 f (by omega) h' (.inl rfl)
      rw [List.take_zero] at t
      simp at hd
      rw [if_neg (fun q => hd0 (by rw [← hd]; exact q.2)), t, List.take_zero]
    | succ m =>
      simp at hd
      have t := tidy_take (m + 1) f (by simpa using hm) h' (.inr ⟨d, by simpa using hd, hd0⟩)
      rw [if_neg, t]
      rintro ⟨q, _⟩
      rw [t] at q
      have : f.length = 0 ∨ m + 1 = 0 := by
        rcases List.take_eq_nil_iff.mp q with q | q
        · exact .inr q
        · exact .inl (by rw [q]; rfl)
      have := (List.getElem?_eq_some_iff.mp hd).1
      omega
theorem tidy_mem : ∀ (f : List Int) (c : Int), c ∈ tidy f → c ∈ f
  | [], c, h => by simp [tidy] at h
  | a :: f, c, h => by
    simp only [tidy] at h
    split at h
    · simp at h
    · rcases List.mem_cons.mp h with rfl | h
      · simp
      · exact List.mem_cons_of_mem _ (tidy_mem f c h)
theorem tidy_len : ∀ f : List Int, (tidy f).length ≤ f.length
  | [] => by simp [tidy]
  | a :: f => by
    have := tidy_len f
    simp only [tidy]
    split <;> simp <;> omega
theorem tidy_last : ∀ f : List Int, tidy f = [] ∨ (tidy f).getLast? ≠ some 0
  | [] => .inl rfl
  | a :: f => by
    simp only [tidy]
    split
    · exact .inl rfl
    · rename_i h
      refine .inr ?_
      rcases tidy_last f with e | e
      · rw [e]
        intro q
        simp at q
        exact h ⟨e, q⟩
      · cases ht : tidy f with
        | nil =>
          intro q
          simp at q
          exact h ⟨ht, q⟩
        | cons b g =>
          rw [ht] at e
          rw [List.getLast?_cons_cons]
          exact e
theorem tidy_self {f : List Int} (h : f = [] ∨ f.getLast? ≠ some 0) : tidy f = f := by
  have := tidy_take f.length f (Nat.le_refl _) (fun i hi c e => by rw [List.getElem?_eq_none hi] at e; cases e) (by
    rcases h with rfl | h
    · exact .inl rfl
    · cases f with
      | nil => exact .inl rfl
      | cons a f =>
        refine .inr ⟨(a :: f).getLast (by simp), ?_, fun q => h (by rw [← q]; exact List.getLast?_eq_some_getLast _)⟩
        rw [List.getLast_eq_getElem, List.getElem?_eq_getElem (by simp)])
  rw [List.take_length] at this
  exact this
theorem hz_tidy : ∀ (f : List Int) (x : Int), hz (tidy f) x = hz f x
  | [], x => rfl
  | c :: f, x => by
    have ih := hz_tidy f x
    simp only [tidy]
    split
    · rename_i h
      rw [h.1] at ih
      show 0 = hz f x * x + c
      rw [← ih, h.2]
      simp [hz]
    · show hz (tidy f) x * x + c = hz f x * x + c
      rw [ih]
theorem idx_pred {T : List D → D} (hT : T = .tup ∨ T = .lst) (f : List Int) (m : Nat) (h1 : 1 ≤ m) (h2 : m ≤ f.length) : ∃ c, f[m - 1]? = some c ∧ gIdx (T (f.map D.int)) (.int ((m : Int) - 1)) = some (.int c) := by
  refine ⟨f[m - 1]'(by omega), List.getElem?_eq_getElem _, ?_⟩
  have h3 : ixN (f.map D.int).length ((m : Int) - 1) = some (m - 1) := by
    unfold ixN
    rw [List.length_map, if_pos (by omega), if_pos (by omega)]
    congr 1
    omega
  have : atI (f.map D.int) ((m : Int) - 1) = some (.int (f[m - 1]'(by omega))) := by
    unfold atI
    rw [h3]
    show (f.map D.int)[m - 1]? = _
    rw [List.getElem?_map, List.getElem?_eq_getElem (by omega)]
    rfl
  rcases hT with rfl | rfl <;> exact this
theorem cut_take (f : List D) (m : Nat) (h : m ≤ f.length) : Sm.cutD f none (some m) = f.take m := by
  unfold Sm.cutD
  have e1 : HT.sIx f.length 0 none = 0 := rfl
  have e2 : HT.sIx f.length f.length (some (m : Int)) = m := by
    have : ¬ ((m : Int) < 0) := by omega
    unfold HT.sIx
    simp [this]
    omega
  rw [e1, e2]
  simp
theorem law_tidied_ok (T : List D → D) (hT : T = .tup ∨ T = .lst) (f : List Int) (hl : f.length ≤ 100000) : f__law_tidied [T (f.map D.int)] = .ok (dT (tidy f)) := by
  have loop := forL_run (g := gtN 2) (b := sIf (tvAnd (tvOf (xOp gEq (xOp gIdx (xVar 0) (xOp gSub (xVar 1) (xC (.int 1)))) (xC (.int 0)))) (tvOf (xOp gEq (xVar 1) (xOp gSub (xUn gLen (xVar 0)) (xVar 2))))) (sAsg (xOp gSub (xVar 1) (xC (.int 1))) (gtN 1)) sNx)
    (fun ds ρ => ∃ (t k m : Nat) (s : Sl), t + k = f.length ∧ ds = rangeD t k ∧ ρ = [.fro (T (f.map D.int)), .fro (.int m), s] ∧ m ≤ f.length ∧ (∀ i, m ≤ i → ∀ c, f[i]? = some c → c = 0) ∧ ((m : Nat) = f.length - t ∨ (f.length - t < m ∧ ∃ c, f[m - 1]? = some c ∧ c ≠ 0)))
    (fun fl => ∃ (m : Nat) (s : Sl), fl = .nx [.fro (T (f.map D.int)), .fro (.int m), s] ∧ m ≤ f.length ∧ tidy f = f.take m) (by
      rintro d ds ρ ⟨t, k, m, s, htk, e, rfl, hm, hz, hc⟩
      cases k with
      | zero => simp [rangeD] at e
      | succ k =>
        simp only [rangeD, List.cons.injEq] at e
        obtain ⟨rfl, rfl⟩ := e
        have m1 : 1 ≤ m := by omega
        obtain ⟨c, hc1, hc2⟩ := idx_pred hT f m m1 hm
        have ln : gLen (T (f.map D.int)) = some (.int f.length) := by rcases hT with rfl | rfl <;> simp
        refine ⟨[.fro (T (f.map D.int)), .fro (.int m), .fro (.int t)], by simp, .inl ?_⟩
        by_cases h0 : c = 0
        · have hmt : m = f.length - t := by
            rcases hc with h | ⟨_, c', e', n⟩
            · exact h
            · rw [hc1] at e'; cases e'; exact absurd h0 n
          have q : ((m : Int) == (f.length : Int) - (t : Int)) = true := by rw [beq_iff_eq]; omega
          refine ⟨[.fro (T (f.map D.int)), .fro (.int ((m - 1 : Nat) : Int)), .fro (.int t)], .inl ?_, t + 1, k, m - 1, _, by omega, rfl, rfl, by omega, ?_, .inl (by omega)⟩
          · have e9 : ((m - 1 : Nat) : Int) = (m : Int) - 1 := by omega
            rw [e9]
            simp [hc2, h0, ln, q]
          · intro i hi c' e'
            by_cases hi2 : m ≤ i
            · exact hz i hi2 c' e'
            · rw [show i = m - 1 by omega, hc1] at e'; cases e'; exact h0
        · have q : (c == (0 : Int)) = false := beq_eq_false_iff_ne.mpr h0
          refine ⟨[.fro (T (f.map D.int)), .fro (.int m), .fro (.int t)], .inl (by simp [hc2, q]), t + 1, k, m, _, by omega, rfl, rfl, hm, hz, .inr ⟨by omega, c, hc1, h0⟩⟩) (by
      rintro ρ ⟨t, k, m, s, htk, e, rfl, hm, hz, hc⟩
      cases k with
      | succ k => simp [rangeD] at e
      | zero =>
        refine ⟨m, s, rfl, hm, tidy_take m f hm hz ?_⟩
        rcases hc with h | ⟨_, h⟩
        · exact .inl (by omega)
        · exact .inr h)
  obtain ⟨m, s, e, hm, ht⟩ := loop (rangeD 0 f.length) [.fro (T (f.map D.int)), .fro (.int f.length), .no] ⟨0, f.length, f.length, .no, by omega, rfl, rfl, Nat.le_refl _, fun i hi c e => (by rw [List.getElem?_eq_none hi] at e; cases e), .inl (by omega)⟩
  have i1 : Sm.inR (f.length : Int) = true := ev_inR _ (by omega) (by omega)
  have ct := cut_take (f.map D.int) m (by simpa using hm)
  rw [ht, dT, List.map_take]
  rcases hT with rfl | rfl <;> simp [f__law_tidied, b__law_tidied, mkFn, slotsOf, i1, e, xSl, oNone, oSome, gSl, ct]
theorem tidied_ok (T : List D → D) (hT : T = .tup ∨ T = .lst) (f : List Int) (hl : f.length ≤ 900) : f_tidied [T (f.map D.int)] = .ok (dL (tidy f)) := by
  have loop := whl_run (c := tvAnd (tvOf (xOp gGt (xVar 1) (xC (.int 0)))) (tvOf (xOp gEq (xOp gIdx (xVar 0) (xOp gSub (xVar 1) (xC (.int 1)))) (xC (.int 0))))) (b := sAsg (xOp gSub (xVar 1) (xC (.int 1))) (gtN 1))
    (fun k ρ => k ≤ f.length ∧ ρ = [.fro (T (f.map D.int)), .fro (.int k)] ∧ (∀ i, k ≤ i → ∀ c, f[i]? = some c → c = 0))
    (fun fl => ∃ (m : Nat), fl = .nx [.fro (T (f.map D.int)), .fro (.int m)] ∧ m ≤ f.length ∧ tidy f = f.take m) (by
      rintro k ρ ⟨hk, rfl, hz⟩
      cases k with
      | zero => exact .inl ⟨_, by simp, 0, rfl, by omega, tidy_take 0 f (by omega) hz (.inl rfl)⟩
      | succ k =>
        obtain ⟨c, hc1, hc2⟩ := idx_pred hT f (k + 1) (by omega) hk
        have q1 : (0 : Int) < ((k + 1 : Nat) : Int) := by omega
        by_cases h0 : c = 0
        · refine .inr ⟨[.fro (T (f.map D.int)), .fro (.int (k + 1 : Nat))], ?_, .inl ⟨k, [.fro (T (f.map D.int)), .fro (.int k)], rfl, .inl ?_, by omega, rfl, ?_⟩⟩
          · generalize hM : ((k + 1 : Nat) : Int) = M at *
            simp [q1, hc2, h0]
          · have e9 : (k : Int) = ((k + 1 : Nat) : Int) - 1 := by omega
            rw [e9]
            generalize ((k + 1 : Nat) : Int) = M at *
            simp
          · intro i hi c' e'
            by_cases hi2 : k + 1 ≤ i
            · exact hz i hi2 c' e'
            · rw [show i = k + 1 - 1 by omega, hc1] at e'; cases e'; exact h0
        · have q : (c == (0 : Int)) = false := beq_eq_false_iff_ne.mpr h0
          refine .inl ⟨[.fro (T (f.map D.int)), .fro (.int (k + 1 : Nat))], ?_, k + 1, rfl, hk, tidy_take (k + 1) f hk hz (.inr ⟨c, hc1, h0⟩)⟩
          generalize hM : ((k + 1 : Nat) : Int) = M at *
          simp [q1, hc2, q])
  obtain ⟨m, e, hm, ht⟩ := loop 1000 f.length [.fro (T (f.map D.int)), .fro (.int f.length)] (by omega) ⟨Nat.le_refl _, rfl, fun i hi c e => by rw [List.getElem?_eq_none hi] at e; cases e⟩
  have ct := cut_take (f.map D.int) m (by simpa using hm)
  rw [ht, dL, List.map_take]
  rcases hT with rfl | rfl <;> simp [f_tidied, b_tidied, mkFn, slotsOf, e, xSl, oNone, oSome, gSl, ct]
end LB
namespace LB
open PySem PySem.Spec PyProof.Rows L2 Sm
/-- the law's drawn polynomials -/
structure Sml (f : List Int) (most : Int) : Prop where
  len : (f.length : Int) ≤ most
  bd : ∀ c ∈ f, -100000000000 ≤ c ∧ c ≤ 100000000000
  ld : f = [] ∨ f.getLast? ≠ some 0
theorem Sml.pol {f : List Int} {most : Int} (h : Sml f most) (hm : most ≤ 240) : Pol f :=
  ⟨by have := h.len; omega, fun c hc => by have := h.bd c hc; omega, h.ld⟩
theorem sml_tidy {f : List Int} {most : Int} (h1 : (f.length : Int) ≤ most) (h2 : ∀ c ∈ f, -100000000000 ≤ c ∧ c ≤ 100000000000) : Sml (tidy f) most :=
  ⟨by have := tidy_len f; omega, fun c hc => h2 c (tidy_mem f c hc), tidy_last f⟩
theorem law_poly_ok (c : D) (hc : Cup c) (most : Int) (h1 : 0 ≤ most) (h2 : most ≤ 200) : ∃ f c', f__law_poly_2 c [.int most] = .ok (dT f, c') ∧ Cup c' ∧ Sml f most := by
  obtain ⟨r, c1, e1, r0, r1, hc1⟩ := roll_ok c hc (most + 1) (by omega) (by omega)
  have loop := forL_run (g := gtN 3) (b := sSeq (sAsg (xOp gSub (xCallIo f__law_roll 0 (xCons (xC (.int 41)) xNil)) (xC (.int 20))) (gtN 4))
    (sApp 2 (xIte (tvOf (xOp gEq (xCallIo f__law_roll 0 (xCons (xC (.int 4)) xNil)) (xC (.int 0)))) (xOp gMul (xVar 4) (xOp gAdd (xC (.int 1)) (xCallIo f__law_roll 0 (xCons (xOp gPow (xC (.int 10)) (xC (.int 9))) xNil)))) (xVar 4))))
    (fun ds ρ => ∃ (k : Nat) (lo : Int) (l : List Int) (c : D) (s3 s4 : Sl), ds = rangeD lo k ∧ Cup c ∧ ρ = [.own c, .fro (.int most), .own (dL l), s3, s4] ∧ (l.length : Int) + k = r ∧ ∀ c ∈ l, -100000000000 ≤ c ∧ c ≤ 100000000000)
    (fun fl => ∃ (l : List Int) (c : D) (s3 s4 : Sl), fl = .nx [.own c, .fro (.int most), .own (dL l), s3, s4] ∧ Cup c ∧ (l.length : Int) = r ∧ ∀ c ∈ l, -100000000000 ≤ c ∧ c ≤ 100000000000) (by
      rintro d ds ρ ⟨k, lo, l, c, s3, s4, e, hc, rfl, hl, hb⟩
      cases k with
      | zero => simp [rangeD] at e
      | succ k =>
        simp only [rangeD, List.cons.injEq] at e
        obtain ⟨rfl, rfl⟩ := e
        obtain ⟨p, c2, e2, p0, p1, hc2⟩ := roll_ok c hc 41 (by omega) (by omega)
        obtain ⟨q, c3, e3, q0, q1, hc3⟩ := roll_ok c2 hc2 4 (by omega) (by omega)
        obtain ⟨t, c4, e4, t0, t1, hc4⟩ := roll_ok c3 hc3 1000000000 (by omega) (by omega)
        have hz : l.length ≤ 16777215 := by omega
        have pw : gPow (.int 10) (.int 9) = some (.int 1000000000) := rfl
        have m : gMul (.int (p - 20)) (.int (1 + t)) = some (.int ((p - 20) * (1 + t))) := ev_mulI _ _ (.inl (by omega))
        refine ⟨[.own c, .fro (.int most), .own (dL l), .fro (.int lo), s4], by simp, .inl ?_⟩
        cases hq : (q == 0) with
        | true =>
          refine ⟨[.own c4, .fro (.int most), .own (dL (l ++ [(p - 20) * (1 + t)])), .fro (.int lo), .fro (.int (p - 20))], .inl ?_, k, lo + 1, _, c4, _, _, rfl, hc4, rfl, by simp; omega, ?_⟩
          · simp [e2, e3, e4, pw, m, hq, hz]
          · intro x hx
            rcases List.mem_append.mp hx with hx | hx
            · exact hb x hx
            · simp at hx
              have v1 : (p - 20) * (1 + t) ≤ 20 * (1 + t) := Int.mul_le_mul_of_nonneg_right (by omega) (by omega)
              have v2 : (-20) * (1 + t) ≤ (p - 20) * (1 + t) := Int.mul_le_mul_of_nonneg_right (by omega) (by omega)
              omega
        | false =>
          refine ⟨[.own c3, .fro (.int most), .own (dL (l ++ [p - 20])), .fro (.int lo), .fro (.int (p - 20))], .inl ?_, k, lo + 1, _, c3, _, _, rfl, hc3, rfl, by simp; omega, ?_⟩
          · simp [e2, e3, hq, hz]
          · intro x hx
            rcases List.mem_append.mp hx with hx | hx
            · exact hb x hx
            · simp at hx
              omega) (by
      rintro ρ ⟨k, lo, l, c, s3, s4, e, hc, rfl, hl, hb⟩
      cases k with
      | succ k => simp [rangeD] at e
      | zero => exact ⟨l, c, s3, s4, rfl, hc, by simpa using hl, hb⟩)
  obtain ⟨l, c', s3, s4, e, hc', hl, hb⟩ := loop (rangeD 0 r.toNat) [.own c1, .fro (.int most), .own (dL []), .no, .no] ⟨r.toNat, 0, [], c1, _, _, rfl, hc1, rfl, by simp; omega, by simp⟩
  have i1 : Sm.inR r = true := ev_inR _ (by omega) (by omega)
  have t := law_tidied_ok .lst (.inr rfl) l (by omega)
  refine ⟨tidy l, c', ?_, hc', sml_tidy (by omega) hb⟩
  simp only [dL, List.map_nil] at e
  simp [f__law_poly_2, b__law_poly_2, mkIo, slotsOf, e1, i1, e, t]
end LB
namespace LB
open PySem PySem.Spec PyProof.Rows L2 Sm
/-! common divisors by turns -/
theorem gcd_step {a b k : Nat} (hb : 0 < b) (hab : b ≤ a) (h : (a + b) * 2 ^ (k + 1) < 3 ^ (k + 1)) : a % b ≤ b ∧ (b + a % b) * 2 ^ k < 3 ^ k := by
  have hr := Nat.mod_lt a hb
  refine ⟨by omega, ?_⟩
  have e := Nat.mod_add_div a b
  have hq : 1 ≤ a / b := Nat.div_pos hab hb
  have hm : b * 1 ≤ b * (a / b) := Nat.mul_le_mul_left _ hq
  have h3 : 3 * (b + a % b) ≤ 2 * (a + b) := by omega
  have h4 : 3 * (b + a % b) * 2 ^ k ≤ 2 * (a + b) * 2 ^ k := Nat.mul_le_mul_right _ h3
  rw [Nat.pow_succ, Nat.pow_succ] at h
  have h5 : 2 * (a + b) * 2 ^ k = (a + b) * (2 ^ k * 2) := by rw [Nat.mul_comm 2 (a + b), Nat.mul_assoc, Nat.mul_comm 2 (2 ^ k)]
  have h6 : 3 * (b + a % b) * 2 ^ k = 3 * ((b + a % b) * 2 ^ k) := Nat.mul_assoc _ _ _
  omega
theorem gcd_zero {a b : Nat} (h : (a + b) * 2 ^ 0 < 3 ^ 0) : b = 0 := by simp at h; omega
theorem gcd_mod (a b : Nat) : Nat.gcd b (a % b) = Nat.gcd a b := by
  rw [Nat.gcd_comm a b, Nat.gcd_rec b a, Nat.gcd_comm]
theorem common_loop (G : Nat) : ∀ n k ρ, k < n → (∃ a b : Nat, ρ = [.fro (dN a), .fro (dN b)] ∧ Nat.gcd a b = G ∧ (b = 0 ∨ (b ≤ a ∧ (a + b) * 2 ^ k < 3 ^ k))) →
    ∃ s1, whl (tvOf (xOp gNe (xVar 1) (xC (.int 0)))) (sPar [0, 1] (mFro (xVar 1) (mFro (xOp gMod (xUn gInt (xVar 0)) (xVar 1)) mNil))) n ρ = .nx [.fro (dN G), s1] := by
  refine whl_run (fun k ρ => ∃ a b : Nat, ρ = [.fro (dN a), .fro (dN b)] ∧ Nat.gcd a b = G ∧ (b = 0 ∨ (b ≤ a ∧ (a + b) * 2 ^ k < 3 ^ k))) (fun fl => ∃ s1, fl = .nx [.fro (dN G), s1]) ?_
  rintro k ρ ⟨a, b, rfl, hg, h⟩
  by_cases hb : b = 0
  · subst hb
    rw [Nat.gcd_zero_right] at hg
    subst hg
    exact .inl ⟨[.fro (dN a), .fro (dN 0)], by simp, _, rfl⟩
  · have h := h.resolve_left hb
    cases k with
    | zero => exact absurd (gcd_zero h.2) hb
    | succ k =>
      have q : (((b : Int)) == (0 : Int)) = false := by rw [beq_eq_false_iff_ne]; omega
      have m := modN a b (by omega)
      have st := gcd_step (by omega) h.1 h.2
      refine .inr ⟨[.fro (dN a), .fro (dN b)], by simp [q], .inl ⟨k, [.fro (dN b), .fro (.int ((a : Int) % (b : Int)))], rfl, .inl ?_, b, a % b, rfl, by rw [gcd_mod, hg], .inr st⟩⟩
      simp [m]
theorem big_pow : 2 ^ 500 * 2 ^ 900 < 3 ^ 900 := by decide +kernel
theorem common_ok (a b : Nat) (h1 : a + b < 2 ^ 240) : f_common_in [dN a, dN b] = .ok (dN (Nat.gcd a b)) := by
  have bd : ∀ x : Nat, x < 2 ^ 500 → x * 2 ^ 900 < 3 ^ 900 := fun x hx => Nat.lt_of_le_of_lt (Nat.mul_le_mul_right _ (Nat.le_of_lt hx)) big_pow
  have p : (2 : Nat) ^ 240 < 2 ^ 500 := Nat.pow_lt_pow_right (by omega) (by omega)
  have key : ∃ s1, whl (tvOf (xOp gNe (xVar 1) (xC (.int 0)))) (sPar [0, 1] (mFro (xVar 1) (mFro (xOp gMod (xUn gInt (xVar 0)) (xVar 1)) mNil))) 1000 [.fro (dN a), .fro (dN b)] = .nx [.fro (dN (Nat.gcd a b)), s1] := by
    by_cases hb : b ≤ a
    · exact common_loop _ 1000 900 _ (by omega) ⟨a, b, rfl, rfl, .inr ⟨hb, bd _ (Nat.lt_trans h1 p)⟩⟩
    · have hb0 : 0 < b := by omega
      have q : (((b : Int)) == (0 : Int)) = false := by rw [beq_eq_false_iff_ne]; omega
      have m := modN a b hb0
      have hm : a % b = a := Nat.mod_eq_of_lt (by omega)
      obtain ⟨s1, e⟩ := common_loop (Nat.gcd a b) 999 900 [.fro (dN b), .fro (.int ((a : Int) % (b : Int)))] (by omega) ⟨b, a % b, rfl, gcd_mod a b, .inr ⟨by omega, bd _ (by rw [hm, Nat.add_comm]; exact Nat.lt_trans h1 p)⟩⟩
      refine ⟨s1, ?_⟩
      rw [whl]
      simp [q, m, e]
  obtain ⟨s1, e⟩ := key
  simp [f_common_in, b_common_in, mkFn, slotsOf, e]
/-! a polynomial's differences -/
def PD : Nat → (Int → Int) → Prop
  | 0, p => ∀ x, p x = 0
  | n + 1, p => PD n fun x => p (x + 1) - p x
theorem PD.zero : ∀ (n : Nat) (p : Int → Int), (∀ x, p x = 0) → PD n p
  | 0, p, h => h
  | n + 1, p, h => PD.zero n _ fun x => by simp [h]
theorem PD.up : ∀ (n : Nat) (p : Int → Int), PD n p → PD (n + 1) p
  | 0, p, h => PD.zero 1 p h
  | n + 1, p, h => PD.up n _ h
theorem PD.ext {n : Nat} {p q : Int → Int} (h : PD n p) (e : ∀ x, p x = q x) : PD n q := by rw [show q = p from funext fun x => (e x).symm]; exact h
theorem PD.add : ∀ (n : Nat) (p q : Int → Int), PD n p → PD n q → PD n fun x => p x + q x
  | 0, p, q, h, g => fun x => by
    show p x + q x = 0
    rw [h x, g x]
    rfl
  | n + 1, p, q, h, g => by
    show PD n fun x => (p (x + 1) + q (x + 1)) - (p x + q x)
    exact PD.ext (PD.add n (fun x => p (x + 1) - p x) (fun x => q (x + 1) - q x) h g) fun x => by omega
theorem PD.shift : ∀ (n : Nat) (p : Int → Int), PD n p → PD n fun x => p (x + 1)
  | 0, p, h => fun x => h _
  | n + 1, p, h => PD.shift n _ h
theorem PD.mul : ∀ (n : Nat) (p : Int → Int), PD n p → PD (n + 1) fun x => p x * x
  | 0, p, h => PD.zero 1 _ fun x => by
    show p x * x = 0
    rw [h x]
    simp
  | n + 1, p, h => by
    show PD (n + 1) fun x => p (x + 1) * (x + 1) - p x * x
    exact PD.ext (PD.add (n + 1) (fun x => (p (x + 1) - p x) * x) (fun x => p (x + 1)) (PD.mul n _ h) (PD.shift (n + 1) p h)) fun x => by
      rw [Int.sub_mul, Int.mul_add, Int.mul_one]; omega
theorem PD.cst : ∀ (n : Nat) (c : Int), PD (n + 1) fun _ => c
  | n, c => PD.zero n _ fun x => by simp
theorem PD.hz : ∀ (f : List Int), PD f.length (LB.hz f)
  | [] => fun x => rfl
  | c :: f => PD.ext (PD.add (f.length + 1) (fun x => LB.hz f x * x) (fun _ => c) (PD.mul _ _ (PD.hz f)) (PD.cst _ c)) fun x => rfl
theorem PD.dvd (d : Int) : ∀ (n : Nat) (p : Int → Int), PD n p → (∀ i : Nat, i < n → d ∣ p i) → ∀ x, d ∣ p x
  | 0, p, h, _, x => by rw [h]; exact Int.dvd_zero d
  | n + 1, p, h, hd, x => by
    have dd : ∀ x, d ∣ p (x + 1) - p x := PD.dvd d n _ h fun i hi => Int.dvd_sub (by have := hd (i + 1) (by omega); simpa using this) (hd i (by omega))
    have h0 := hd 0 (by omega)
    have up : ∀ k : Nat, d ∣ p k := by
      intro k
      induction k with
      | zero => exact h0
      | succ k ih =>
        have := Int.dvd_add (dd k) ih
        rw [Int.sub_add_cancel] at this
        simpa using this
    have down : ∀ k : Nat, d ∣ p (-(k : Int)) := by
      intro k
      induction k with
      | zero => simpa using h0
      | succ k ih =>
        have := Int.dvd_sub ih (dd (-((k : Int) + 1)))
        rw [show -((k : Int) + 1) + 1 = -(k : Int) by omega] at this
        rw [show p (-(k : Int)) - (p (-(k : Int)) - p (-((k : Int) + 1))) = p (-((k : Int) + 1)) by omega] at this
        simpa using this
    rcases Int.le_total 0 x with hx | hx
    · rw [Int.eq_natCast_toNat.mpr hx]; exact up _
    · rw [show x = -(((-x).toNat : Nat) : Int) by omega]; exact down _
end LB
namespace LB
open PySem PySem.Spec PyProof.Rows L2 Sm
/-! constant polynomials -/
theorem hz_bd (B X : Nat) (hB : 1 ≤ B) : ∀ (f : List Int) (x : Int), (∀ c ∈ f, c.natAbs ≤ B) → x.natAbs ≤ X → (hz f x).natAbs ≤ B * (X + 1) ^ f.length
  | [], x, _, _ => by simp [hz]
  | c :: f, x, h, hx => by
    have ih := hz_bd B X hB f x (fun d hd => h d (by simp [hd])) hx
    have hc := h c (by simp)
    show (hz f x * x + c).natAbs ≤ _
    have e1 : (hz f x * x + c).natAbs ≤ (hz f x).natAbs * x.natAbs + c.natAbs := by
      rw [← Int.natAbs_mul]; omega
    have e2 : (hz f x).natAbs * x.natAbs ≤ B * (X + 1) ^ f.length * X := Nat.mul_le_mul ih hx
    have e3 : B ≤ B * (X + 1) ^ f.length := Nat.le_mul_of_pos_right _ (Nat.pow_pos (by omega))
    rw [List.length_cons, Nat.pow_succ, ← Nat.mul_assoc, Nat.mul_add, Nat.mul_one]
    omega
def gcdGo (v : Int → Int) : Nat → Int → Nat → Nat
  | 0, _, g => g
  | k + 1, x, g => gcdGo v k (x + 1) (Nat.gcd g (v x).natAbs)
theorem gcdGo_dvd (v : Int → Int) (d : Nat) : ∀ (k : Nat) (x : Int) (g : Nat), d ∣ gcdGo v k x g ↔ d ∣ g ∧ ∀ i : Nat, i < k → (d : Int) ∣ v (x + i)
  | 0, x, g => by simp [gcdGo]
  | k + 1, x, g => by
    rw [gcdGo, gcdGo_dvd v d k, Nat.dvd_gcd_iff, ← Int.ofNat_dvd_left]
    constructor
    · rintro ⟨⟨h1, h2⟩, h3⟩
      refine ⟨h1, fun i hi => ?_⟩
      cases i with
      | zero => simpa using h2
      | succ i =>
        have := h3 i (by omega)
        rw [show x + 1 + (i : Int) = x + ((i + 1 : Nat) : Int) by omega] at this
        exact this
    · rintro ⟨h1, h2⟩
      refine ⟨⟨h1, by simpa using h2 0 (by omega)⟩, fun i hi => ?_⟩
      rw [show x + 1 + (i : Int) = x + ((i + 1 : Nat) : Int) by omega]
      exact h2 (i + 1) (by omega)
def vOf (f : List Int) (x : Int) : Int := hz f x - hz f 0
def cst (f : List Int) : Nat := gcdGo (vOf f) (f.length - 1) 1 0
theorem vOf_all (f : List Int) (d : Nat) (h : ∀ i : Nat, i < f.length - 1 → (d : Int) ∣ vOf f (1 + i)) : ∀ x, (d : Int) ∣ vOf f x := by
  cases hf : f with
  | nil => intro x; simp [vOf, hz]
  | cons c g =>
    subst hf
    have pd : PD (g.length + 1) (vOf (c :: g)) := PD.ext (PD.add (g.length + 1) _ _ (PD.hz (c :: g)) (PD.cst g.length (-hz (c :: g) 0))) fun x => by simp only [vOf]; omega
    refine PD.dvd d _ _ pd fun i hi => ?_
    cases i with
    | zero => simp [vOf]
    | succ i =>
      have := h i (by simp; omega)
      rw [show (1 : Int) + (i : Int) = ((i + 1 : Nat) : Int) by omega] at this
      exact this
theorem cst_dvd (f : List Int) (d : Nat) : d ∣ cst f ↔ ∀ x, (d : Int) ∣ vOf f x := by
  unfold cst
  rw [gcdGo_dvd]
  exact ⟨fun h => vOf_all f d h.2, fun h => ⟨Nat.dvd_zero d, fun i _ => h _⟩⟩
/-- a wider run of points has the same common divisor -/
theorem gcd_wide (f : List Int) (x0 : Int) (k : Nat) (h1 : x0 ≤ 1) (h2 : (f.length : Int) ≤ x0 + k) : gcdGo (vOf f) k x0 0 = cst f := by
  refine Nat.dvd_antisymm ?_ ?_
  · rw [cst_dvd]
    have := (gcdGo_dvd (vOf f) _ k x0 0).mp (Nat.dvd_refl _)
    refine vOf_all f _ fun i hi => ?_
    have h3 := this.2 (1 - x0 + i).toNat (by omega)
    rw [show x0 + (((1 - x0 + i).toNat : Nat) : Int) = 1 + i by omega] at h3
    exact h3
  · rw [gcdGo_dvd]
    exact ⟨Nat.dvd_zero _, fun i _ => (cst_dvd f _).mp (Nat.dvd_refl _) _⟩
theorem hz_mod (f : List Int) (x y n : Int) (h : x % n = y % n) : hz f x % n = hz f y % n := by
  induction f with
  | nil => rfl
  | cons c f ih =>
    show (hz f x * x + c) % n = (hz f y * y + c) % n
    rw [Int.add_emod, Int.mul_emod, ih, h, ← Int.mul_emod, ← Int.add_emod]
theorem cst_iff (f : List Int) (n : Nat) (hn : 0 < n) : (cst f % n = 0) ↔ ∀ i : Nat, i < n → vOf f i % n = 0 := by
  rw [← Nat.dvd_iff_mod_eq_zero, cst_dvd]
  constructor
  · exact fun h i _ => Int.emod_eq_zero_of_dvd (h i)
  · intro h x
    have h1 := Int.emod_nonneg x (b := (n : Int)) (by omega)
    have h2 := Int.emod_lt_of_pos x (b := (n : Int)) (by omega)
    have h3 := h (x % n).toNat (by omega)
    rw [show (((x % n).toNat : Nat) : Int) = x % n by omega] at h3
    refine Int.dvd_of_emod_eq_zero ?_
    rw [← h3]
    unfold vOf
    rw [Int.sub_emod, hz_mod f x (x % n) n (by simp), ← Int.sub_emod]
/-- small enough for the turns -/
theorem gcd_le (a b V : Nat) (h1 : a ≤ V) (h2 : b ≤ V) : Nat.gcd a b ≤ V := by
  by_cases h : a = 0
  · subst h; simpa using h2
  · exact Nat.le_trans (Nat.gcd_le_left _ (by omega)) h1
theorem gAbs_ok (v : Int) : gAbs (.int v) = some (dN v.natAbs) := by
  have : (if v < 0 then -v else v) = (v.natAbs : Int) := by split <;> omega
  show some (D.int (if v < 0 then -v else v)) = _
  rw [this]
/-- values near 0 -/
structure Near (f : List Int) : Prop where
  pol : Pol f
  len : f.length ≤ 40
  bd : ∀ c ∈ f, c.natAbs ≤ 100000000000
theorem near_v {f : List Int} (h : Near f) (x : Int) (hx : x.natAbs ≤ 31) : (vOf f x).natAbs ≤ 2 ^ 238 := by
  have a := hz_bd 100000000000 31 (by omega) f x h.bd hx
  have b := hz_bd 100000000000 31 (by omega) f 0 h.bd (by simp)
  have e : (31 + 1) ^ f.length ≤ 32 ^ 40 := Nat.pow_le_pow_right (by omega) h.len
  have e2 : 100000000000 * (31 + 1) ^ f.length ≤ 100000000000 * 32 ^ 40 := Nat.mul_le_mul_left _ e
  have : (100000000000 : Nat) * 32 ^ 40 ≤ 2 ^ 237 := by decide +kernel
  have : (2 : Nat) ^ 237 + 2 ^ 237 = 2 ^ 238 := by decide +kernel
  unfold vOf
  omega
theorem constant_in_ok (f : List Int) (h : Near f) (h2 : f.length ≤ 30) : f_constant_in [dT f] = .ok (dN (cst f)) := by
  have v0 := value_at_ok f h.pol 0 (by omega) (by omega)
  have loop := forL_run (g := gtN 3) (b := sAsg (xCall f_common_in (xCons (xVar 1) (xCons (xUn gAbs (xOp gSub (xCall f_value_at (xCons (xVar 0) (xCons (xVar 3) xNil))) (xVar 2))) xNil))) (gtN 1))
    (fun ds ρ => ∃ (k : Nat) (x : Int) (g : Nat) (s : Sl), ds = rangeD x k ∧ 0 ≤ x ∧ x + k ≤ 31 ∧ g ≤ 2 ^ 238 ∧ ρ = [.fro (dT f), .fro (dN g), .fro (.int (hz f 0)), s] ∧ gcdGo (vOf f) k x g = cst f)
    (fun fl => ∃ s, fl = .nx [.fro (dT f), .fro (dN (cst f)), .fro (.int (hz f 0)), s]) (by
      rintro d ds ρ ⟨k, x, g, s, e, hx, hk, hg, rfl, hG⟩
      cases k with
      | zero => simp [rangeD] at e
      | succ k =>
        simp only [rangeD, List.cons.injEq] at e
        obtain ⟨rfl, rfl⟩ := e
        have vx := value_at_ok f h.pol x (by omega) (by omega)
        have nv := near_v h x (by omega)
        have ab := gAbs_ok (hz f x - hz f 0)
        have co := common_ok g (vOf f x).natAbs (by have : (2 : Nat) ^ 238 + 2 ^ 238 < 2 ^ 240 := by decide +kernel
                                                    omega)
        refine ⟨[.fro (dT f), .fro (dN g), .fro (.int (hz f 0)), .fro (.int x)], by simp, .inl ⟨[.fro (dT f), .fro (dN (Nat.gcd g (vOf f x).natAbs)), .fro (.int (hz f 0)), .fro (.int x)], .inl ?_, k, x + 1, _, _, rfl, by omega, by omega, gcd_le _ _ _ hg nv, rfl, hG⟩⟩
        simp only [vOf] at co
        simp [vx, ab, co, vOf]) (by
      rintro ρ ⟨k, x, g, s, e, hx, hk, hg, rfl, hG⟩
      cases k with
      | succ k => simp [rangeD] at e
      | zero =>
        rw [← hG]
        exact ⟨s, rfl⟩)
  obtain ⟨s, e⟩ := loop (rangeD 1 (f.length - 1)) [.fro (dT f), .fro (dN 0), .fro (.int (hz f 0)), .no] ⟨f.length - 1, 1, 0, .no, rfl, by omega, by omega, by omega, rfl, rfl⟩
  have r : ((f.length : Int) - 1).toNat = f.length - 1 := by omega
  have i1 : Sm.inR (f.length : Int) = true := ev_inR _ (by omega) (by omega)
  simp only [dN, Int.natCast_zero] at e
  simp [f_constant_in, b_constant_in, mkFn, slotsOf, v0, i1, r, e]
def dv (g : Nat) : D → Bool
  | .int n => (g : Int) % n == 0
  | _ => false
theorem rangeD_mem : ∀ (k : Nat) (lo : Int) (d : D), d ∈ rangeD lo k → ∃ x : Int, d = .int x ∧ lo ≤ x ∧ x < lo + k
  | 0, lo, d, h => by simp [rangeD] at h
  | k + 1, lo, d, h => by
    simp only [rangeD] at h
    rcases List.mem_cons.mp h with rfl | h
    · exact ⟨lo, rfl, by omega, by omega⟩
    · obtain ⟨x, e, h1, h2⟩ := rangeD_mem k (lo + 1) d h
      exact ⟨x, e, by omega, by omega⟩
theorem constant_part_ok (f : List Int) (h : Near f) (h2 : f.length ≤ 30) : f_constant_part [dT f] = .ok (dN (cst f)) := by
  simp [f_constant_part, b_constant_part, mkFn, slotsOf, need_poly_ok f h.pol, constant_in_ok f h h2]
theorem constant_by_ok (f : List Int) (h : Near f) (h2 : f.length ≤ 30) : f_constant_by [dT f] = .ok (.tup ((rangeD 1 240).filter (dv (cst f)))) := by
  have ci := constant_in_ok f h h2
  have c := xLc_filter (it := xRng2 (xC (.int 1)) (xOp gAdd (xC (.int 240)) (xC (.int 1)))) (g := gtN 2) (tt := tvOf (xOp gEq (xCall f_rest_in (xCons (xVar 1) (xCons (xVar 2) xNil))) (xC (.int 0)))) (te := xVar 2) (vs := [2])
    (ρ0 := [.fro (dT f), .fro (dN (cst f)), .no]) (ρ := [.fro (dT f), .fro (dN (cst f)), .no]) (ds := rangeD 1 240) (dv (cst f)) id (by simp) rfl (Nat.le_trans (List.length_filter_le ..) (by rw [rangeD_len]; omega)) fun d hd => by
      obtain ⟨x, rfl, x1, x2⟩ := rangeD_mem _ _ _ hd
      have r := rest_in_ok (cst f) x (by omega)
      exact ⟨[.fro (dT f), .fro (dN (cst f)), .fro (.int x)], by simp [wipeR], by simp [wipeR], by simp [r, dv], fun _ => by simp⟩
  rw [List.map_id] at c
  simp [f_constant_by, b_constant_by, mkFn, slotsOf, need_poly_ok f h.pol, ci, c]
theorem is_constant_ok (f : List Int) (h : Near f) (h2 : f.length ≤ 30) (n : Nat) (h3 : 1 ≤ n) (h4 : n ≤ 240) : f_is_constant [dT f, dN n] = .ok (.bl ((cst f : Int) % n == 0)) := by
  have r := rest_in_ok (cst f) n (by omega)
  simp [f_is_constant, b_is_constant, mkFn, slotsOf, need_poly_ok f h.pol, constant_in_ok f h h2, need_n_ok n (by omega) (by omega), r]
def ot (f : List Int) (n : Int) : D → Bool
  | .int x => !(vOf f x % n == 0)
  | _ => false
def hd0 : List D → D
  | [] => .non
  | d :: _ => d
theorem ot_iff (f : List Int) (n x : Int) : (!(hz f x % n == hz f 0 % n)) = ot f n (.int x) := by
  unfold ot
  congr 1
  rw [Bool.eq_iff_iff, beq_iff_eq, beq_iff_eq]
  exact Int.emod_eq_emod_iff_emod_sub_eq_zero
theorem first_other_ok (f : List Int) (h : Pol f) (n : Nat) (h3 : 1 ≤ n) (h4 : n ≤ 240) : f_first_other [dT f, dN n] = .ok (hd0 ((rangeD 0 n).filter (ot f n))) := by
  have r0 := rest_at_ok .tup (.inl rfl) f 0 n (by simp) (by omega)
  have loop := forL_run (g := gtN 3) (b := sIf (tvOf (xOp gNe (xCall f_rest_at (xCons (xVar 0) (xCons (xVar 3) (xCons (xVar 1) xNil)))) (xVar 2))) (sRet (xVar 3)) sNx)
    (fun ds ρ => ∃ (k : Nat) (x : Int) (s : Sl), ds = rangeD x k ∧ 0 ≤ x ∧ x + k ≤ 240 ∧ ρ = [.fro (dT f), .fro (dN n), .fro (.int (hz f 0 % n)), s] ∧ hd0 ((rangeD x k).filter (ot f n)) = hd0 ((rangeD 0 n).filter (ot f n)))
    (fun fl => (∃ ρ, fl = .rt (hd0 ((rangeD 0 n).filter (ot f n))) ρ) ∨ ∃ ρ, fl = .nx ρ ∧ hd0 ((rangeD 0 n).filter (ot f n)) = .non) (by
      rintro d ds ρ ⟨k, x, s, e, hx, hk, rfl, hF⟩
      cases k with
      | zero => simp [rangeD] at e
      | succ k =>
        simp only [rangeD, List.cons.injEq] at e
        obtain ⟨rfl, rfl⟩ := e
        have r := rest_at_ok .tup (.inl rfl) f x n (by omega) (by omega)
        refine ⟨[.fro (dT f), .fro (dN n), .fro (.int (hz f 0 % n)), .fro (.int x)], by simp, ?_⟩
        have io := ot_iff f n x
        cases ho : ot f n (.int x) with
        | true =>
          rw [rangeD, List.filter_cons, if_pos ho] at hF
          rw [ho] at io
          refine .inr (.inr ⟨.int x, [.fro (dT f), .fro (dN n), .fro (.int (hz f 0 % n)), .fro (.int x)], ?_, .inl ⟨_, by rw [← hF]; rfl⟩⟩)
          simp [r, -Bool.not_eq_eq_eq_not, io]
        | false =>
          rw [rangeD, List.filter_cons, if_neg (by rw [ho]; decide)] at hF
          rw [ho] at io
          refine .inl ⟨[.fro (dT f), .fro (dN n), .fro (.int (hz f 0 % n)), .fro (.int x)], .inl ?_, k, x + 1, _, rfl, by omega, by omega, rfl, hF⟩
          simp [r, -Bool.not_eq_eq_eq_not, io]) (by
      rintro ρ ⟨k, x, s, e, hx, hk, rfl, hF⟩
      cases k with
      | succ k => simp [rangeD] at e
      | zero =>
        refine .inr ⟨_, rfl, ?_⟩
        rw [← hF]
        rfl)
  have i1 : Sm.inR (n : Int) = true := ev_inR _ (by omega) (by omega)
  have l := loop (rangeD 0 n) [.fro (dT f), .fro (dN n), .fro (.int (hz f 0 % n)), .no] ⟨n, 0, .no, rfl, by omega, by omega, rfl, rfl⟩
  rcases l with ⟨ρ, e⟩ | ⟨ρ, e, e2⟩
  · simp [f_first_other, b_first_other, mkFn, slotsOf, need_poly_ok f h, need_n_ok n (by omega) (by omega), r0, i1, e]
  · simp [f_first_other, b_first_other, mkFn, slotsOf, need_poly_ok f h, need_n_ok n (by omega) (by omega), r0, i1, e, e2]
theorem others_nil (f : List Int) (n : Nat) (hn : 0 < n) : ((rangeD 0 n).filter (ot f n) = []) ↔ (cst f : Int) % n = 0 := by
  have a : ((cst f : Int) % n = 0) ↔ cst f % n = 0 := by omega
  rw [a, cst_iff f n hn, List.filter_eq_nil_iff]
  constructor
  · intro h i hi
    have hm : D.int (i : Int) ∈ rangeD 0 n := by
      have : ∀ (k : Nat) (lo : Int) (j : Nat), j < k → D.int (lo + j) ∈ rangeD lo k := by
        intro k
        induction k with
        | zero => intro lo j hj; omega
        | succ k ih =>
          intro lo j hj
          cases j with
          | zero => simp [rangeD]
          | succ j =>
            have := ih (lo + 1) j (by omega)
            rw [show lo + 1 + (j : Int) = lo + ((j + 1 : Nat) : Int) by omega] at this
            exact List.mem_cons_of_mem _ this
      have := this n 0 i hi
      simpa using this
    have := h _ hm
    simpa [ot] using this
  · intro h d hd
    obtain ⟨x, rfl, h1, h2⟩ := rangeD_mem _ _ _ hd
    have := h x.toNat (by omega)
    rw [show ((x.toNat : Nat) : Int) = x by omega] at this
    simp [ot, this]
end LB
namespace Lk63
open PySem PySem.Spec PyProof.Rows L2 Sm LB
theorem fixed_ok : f__law_fixed_right [] = .ok (.bl true) := isd_ok (by decide +kernel)
theorem cup_ok (ns : List Int) (h : ns.length ≤ 63) : ∃ c, f__law_cup [.scr ns] = .ok c ∧ Cup c :=
  cup_any 403 622 6703 443 (by omega) (by omega) (by omega) (by omega) (by omega) (by omega) (by omega) ns h
theorem part_loop (G : Nat) : ∀ ds ρ, (∃ (k j a b : Nat) (lo : Int) (s : Sl), ds = rangeD lo k ∧ j ≤ k ∧ ρ = [.fro (dN a), .fro (dN b), s] ∧ Nat.gcd a b = G ∧ (b = 0 ∨ (b ≤ a ∧ (a + b) * 2 ^ j < 3 ^ j))) →
    (∃ ρ', forL (gtN 2) (sSeq (sIf (tvOf (xOp gEq (xVar 1) (xC (.int 0)))) (sRet (xVar 0)) sNx)
    (sPar [0, 1] (mFro (xVar 1) (mFro (xOp gMod (xUn gInt (xVar 0)) (xVar 1)) mNil)))) ds ρ = .rt (dN G) ρ') ∨ ∃ s1 s2, forL (gtN 2) (sSeq (sIf (tvOf (xOp gEq (xVar 1) (xC (.int 0)))) (sRet (xVar 0)) sNx)
    (sPar [0, 1] (mFro (xVar 1) (mFro (xOp gMod (xUn gInt (xVar 0)) (xVar 1)) mNil)))) ds ρ = .nx [.fro (dN G), s1, s2] := by
  refine forL_run (fun ds ρ => ∃ (k j a b : Nat) (lo : Int) (s : Sl), ds = rangeD lo k ∧ j ≤ k ∧ ρ = [.fro (dN a), .fro (dN b), s] ∧ Nat.gcd a b = G ∧ (b = 0 ∨ (b ≤ a ∧ (a + b) * 2 ^ j < 3 ^ j))) (fun fl => (∃ ρ', fl = .rt (dN G) ρ') ∨ ∃ s1 s2, fl = .nx [.fro (dN G), s1, s2]) ?_ ?_
  · rintro d ds ρ ⟨k, j, a, b, lo, s, e, hj, rfl, hg, h⟩
    cases k with
    | zero => simp [rangeD] at e
    | succ k =>
      simp only [rangeD, List.cons.injEq] at e
      obtain ⟨rfl, rfl⟩ := e
      refine ⟨[.fro (dN a), .fro (dN b), .fro (.int lo)], by simp, ?_⟩
      by_cases hb : b = 0
      · subst hb
        rw [Nat.gcd_zero_right] at hg
        subst hg
        exact .inr (.inr ⟨dN a, [.fro (dN a), .fro (dN 0), .fro (.int lo)], by simp, .inl ⟨_, rfl⟩⟩)
      · have h := h.resolve_left hb
        cases j with
        | zero => exact absurd (gcd_zero h.2) hb
        | succ j =>
          have q : (((b : Int)) == (0 : Int)) = false := by rw [beq_eq_false_iff_ne]; omega
          have m := modN a b (by omega)
          have st := gcd_step (by omega) h.1 h.2
          refine .inl ⟨[.fro (dN b), .fro (.int ((a : Int) % (b : Int))), .fro (.int lo)], .inl ?_, k, j, b, a % b, _, _, rfl, by omega, rfl, by rw [gcd_mod, hg], .inr st⟩
          simp [q, m]
  · rintro ρ ⟨k, j, a, b, lo, s, e, hj, rfl, hg, h⟩
    cases k with
    | succ k => simp [rangeD] at e
    | zero =>
      have hj0 : j = 0 := by omega
      subst hj0
      have hb : b = 0 := by
        rcases h with h | h
        · exact h
        · exact gcd_zero h.2
      subst hb
      rw [Nat.gcd_zero_right] at hg
      subst hg
      exact .inr ⟨_, _, rfl⟩
theorem part_ok (a b : Nat) (h1 : a + b < 2 ^ 240) : f__law_part [dN a, dN b] = .ok (dN (Nat.gcd a b)) := by
  have bd : ∀ x : Nat, x < 2 ^ 240 → x * 2 ^ 900 < 3 ^ 900 := fun x hx => Nat.lt_of_le_of_lt (Nat.mul_le_mul_right _ (Nat.le_of_lt (Nat.lt_trans hx (Nat.pow_lt_pow_right (by omega) (by omega : 240 < 500))))) big_pow
  by_cases hb : b ≤ a
  · rcases part_loop (Nat.gcd a b) (rangeD 0 2000) [.fro (dN a), .fro (dN b), .no] ⟨2000, 900, a, b, 0, .no, rfl, by omega, rfl, rfl, .inr ⟨hb, bd _ h1⟩⟩ with ⟨ρ', e⟩ | ⟨s1, s2, e⟩ <;>
      simp [f__law_part, b__law_part, mkFn, slotsOf, e]
  · have hb0 : 0 < b := by omega
    have q : (((b : Int)) == (0 : Int)) = false := by rw [beq_eq_false_iff_ne]; omega
    have m := modN a b hb0
    have hm : a % b = a := Nat.mod_eq_of_lt (by omega)
    have := part_loop (Nat.gcd a b) (rangeD 1 1999) [.fro (dN b), .fro (.int ((a : Int) % (b : Int))), .fro (.int 0)] ⟨1999, 900, b, a % b, 1, _, rfl, by omega, rfl, gcd_mod a b, .inr ⟨by omega, bd _ (by rw [hm, Nat.add_comm]; exact h1)⟩⟩
    rcases this with ⟨ρ', e⟩ | ⟨s1, s2, e⟩ <;>
      simp [f__law_part, b__law_part, mkFn, slotsOf, show rangeD 0 2000 = .int 0 :: rangeD 1 1999 from rfl, forL, q, m, e]
theorem some_ok (c : D) (hc : Cup c) (l : List D) (h0 : 1 ≤ l.length) (h1 : l.length ≤ 100000) : ∃ d c', f__law_some c [.lst l] = .ok (d, c') ∧ d ∈ l ∧ Cup c' := by
  obtain ⟨r, c1, e1, r0, r1, hc1⟩ := roll_ok c hc l.length (by omega) (by omega)
  have h3 : ixN l.length r = some r.toNat := by unfold ixN; rw [if_pos r0, if_pos r1]
  have h4 : gIdx (.lst l) (.int r) = some (l[r.toNat]'(by omega)) := by
    show atI l r = _
    unfold atI
    rw [h3]
    show l[r.toNat]? = _
    rw [List.getElem?_eq_getElem]
  exact ⟨l[r.toNat]'(by omega), c1, by simp [f__law_some, b__law_some, mkIo, slotsOf, e1, h4], List.getElem_mem _, hc1⟩
theorem zipD_map : ∀ (a b : List Int), zipD (a.map D.int) (b.map D.int) = (List.zip a b).map fun x => .tup [.int x.1, .int x.2]
  | [], b => by simp [zipD]
  | x :: a, [] => by simp [zipD]
  | x :: a, y :: b => by simp [zipD, zipD_map a b]
def zf (h : Int → Int → Int) : D → D
  | .tup [.int x, .int y] => .int (h x y)
  | _ => .non
theorem lc_zip {it : Iv} {g : D → List Sl → Option (List Sl)} {te : Ev} {vs : List Nat} {ρ0 ρ : List Sl} (a b : List Int) (h : Int → Int → Int) (hi : it ρ0 = .ok (zipD (a.map D.int) (b.map D.int), ρ)) (ho : noOwn ρ vs = true) (hl : a.length ≤ 100000)
    (step : ∀ x ∈ a, ∀ y ∈ b, ∃ ρ1, g (.tup [.int x, .int y]) (wipeR ρ vs) = some ρ1 ∧ wipeR ρ1 vs = wipeR ρ vs ∧ te ρ1 = .ok (.int (h x y), ρ1)) : xLc it g tvYes te vs ρ0 = .ok (dL (List.zipWith h a b), ρ) := by
  have := xLc_map (te := te) (g := g) (zf h) hi ho (by rw [zipD_len, List.length_map, List.length_map]; omega) fun d hd => by
    rw [zipD_map] at hd
    obtain ⟨⟨x, y⟩, hx, rfl⟩ := List.mem_map.mp hd
    exact step x (List.of_mem_zip hx).1 y (List.of_mem_zip hx).2
  rw [this, zipD_map, List.map_map]
  have e : List.map (zf h ∘ fun x : Int × Int => D.tup [.int x.1, .int x.2]) (List.zip a b) = List.map D.int (List.zipWith h a b) := by
    rw [List.zip, List.map_zipWith, List.map_zipWith]
    rfl
  rw [e]
theorem zw_bd (h : Int → Int → Int) (A B C : Int) : ∀ (a b : List Int), (∀ x ∈ a, -A ≤ x ∧ x ≤ A) → (∀ x ∈ b, -B ≤ x ∧ x ≤ B) → (∀ x y, -A ≤ x → x ≤ A → -B ≤ y → y ≤ B → -C ≤ h x y ∧ h x y ≤ C) → ∀ z ∈ List.zipWith h a b, -C ≤ z ∧ z ≤ C
  | [], b, _, _, _ => by simp
  | x :: a, [], _, _, _ => by simp
  | x :: a, y :: b, ha, hb, hh => by
    intro z hz
    simp only [List.zipWith_cons_cons] at hz
    rcases List.mem_cons.mp hz with rfl | hz
    · have h1 := ha x (by simp)
      have h2 := hb y (by simp)
      exact hh x y h1.1 h1.2 h2.1 h2.2
    · exact zw_bd h A B C a b (fun x hx => ha x (by simp [hx])) (fun x hx => hb x (by simp [hx])) hh z hz
def gDef (f : List Int) : Prop := f.length ≤ 6 ∧ (∀ c ∈ f, -100000000000 ≤ c ∧ c ≤ 100000000000) ∧ (f = [] ∨ f.getLast? ≠ some 0)
theorem falls_ok (c : D) (hc : Cup c) : ∃ f c', f__law_falls c [] = .ok (dT f, c') ∧ Cup c' ∧ gDef f := by
  obtain ⟨a, c1, e1, a0, a1, hc1⟩ := roll_ok c hc 99 (by omega) (by omega)
  obtain ⟨r, c2, e2, r0, r1, hc2⟩ := roll_ok c1 hc1 5 (by omega) (by omega)
  have loop := forL_run (g := gtN 3) (b := sSeq (sAsg (xLc (xZip (xOp gAdd (xLst (xCons (xC (.int 0)) xNil)) (xVar 2)) (xOp gAdd (xVar 2) (xLst (xCons (xC (.int 0)) xNil)))) (gtT 2 (gsC (gtN 5) (gsC (gtN 6) gsN))) tvYes (xOp gSub (xVar 5) (xOp gMul (xVar 3) (xVar 6))) [5, 6]) (gtN 2))
    (sSeq (sAsg (xCallIo LB.f__law_some 0 (xCons (xLst (xCons (xC (.int 0)) (xCons (xC (.int 1)) (xCons (xC (.int 2)) (xCons (xC (.int 6)) (xCons (xC (.int 12)) (xCons (xC (.int 60)) (xCons (xUn gNeg (xC (.int 30))) (xCons (xOp gAdd (xC (.int 1)) (xCallIo LB.f__law_roll 0 (xCons (xC (.int 40)) xNil))) xNil))))))))) xNil)) (gtN 4))
    (sAsg (xLc (xZip (xOp gAdd (xVar 1) (xOp gMul (xLst (xCons (xC (.int 0)) xNil)) (xOp gSub (xUn gLen (xVar 2)) (xUn gLen (xVar 1))))) (xVar 2)) (gtT 2 (gsC (gtN 5) (gsC (gtN 6) gsN))) tvYes (xOp gAdd (xVar 5) (xOp gMul (xVar 4) (xVar 6))) [5, 6]) (gtN 1))))
    (fun ds ρ => ∃ (j k : Nat) (c : D) (found fall : List Int) (s3 s4 : Sl), ds = rangeD j k ∧ j + k ≤ 5 ∧ Cup c ∧ ρ = [.own c, .fro (dL found), .fro (dL fall), s3, s4, .no, .no] ∧ found.length = j + 1 ∧ fall.length = j + 1 ∧ (∀ x ∈ found, -(100 + (j : Int) * 1000000) ≤ x ∧ x ≤ 100 + (j : Int) * 1000000) ∧ ∀ x ∈ fall, -(6 : Int) ^ j ≤ x ∧ x ≤ 6 ^ j)
    (fun fl => ∃ (c : D) (found : List Int) (s2 s3 s4 : Sl), fl = .nx [.own c, .fro (dL found), s2, s3, s4, .no, .no] ∧ Cup c ∧ found.length ≤ 6 ∧ ∀ x ∈ found, -100000000 ≤ x ∧ x ≤ 100000000) (by
      rintro d ds ρ ⟨j, k, c, found, fall, s3, s4, e, hjk, hc, rfl, h1, h2, h3, h4⟩
      cases k with
      | zero => simp [rangeD] at e
      | succ k =>
        simp only [rangeD, List.cons.injEq] at e
        obtain ⟨rfl, rfl⟩ := e
        obtain ⟨t, c1, e1, t0, t1, hc1⟩ := roll_ok c hc 40 (by omega) (by omega)
        obtain ⟨d, c2, e2, hd, hc2⟩ := some_ok c1 hc1 [.int 0, .int 1, .int 2, .int 6, .int 12, .int 60, .int (-30), .int (1 + t)] (by simp) (by simp)
        obtain ⟨m, rfl, m0, m1⟩ : ∃ m : Int, d = .int m ∧ -60 ≤ m ∧ m ≤ 60 := by
          simp at hd
          rcases hd with rfl | rfl | rfl | rfl | rfl | rfl | rfl | rfl <;> exact ⟨_, rfl, by omega, by omega⟩
        have p1 : ((6 : Int) ^ j) ≤ 6 ^ 4 ∧ 1 ≤ (6 : Int) ^ j := by
          have : j ≤ 4 := by omega
          rcases (show j = 0 ∨ j = 1 ∨ j = 2 ∨ j = 3 ∨ j = 4 by omega) with rfl | rfl | rfl | rfl | rfl <;> decide
        have p2 : (6 : Int) ^ (j + 1) = 6 ^ j * 6 := Int.pow_succ _ _
        refine ⟨[.own c, .fro (dL found), .fro (dL fall), .fro (.int j), s4, .no, .no], by simp, .inl ?_⟩
        have z1 := lc_zip (it := xZip (xOp gAdd (xLst (xCons (xC (.int 0)) xNil)) (xVar 2)) (xOp gAdd (xVar 2) (xLst (xCons (xC (.int 0)) xNil)))) (g := gtT 2 (gsC (gtN 5) (gsC (gtN 6) gsN))) (te := xOp gSub (xVar 5) (xOp gMul (xVar 3) (xVar 6))) (vs := [5, 6]) (ρ0 := [.own c, .fro (dL found), .fro (dL fall), .fro (.int j), s4, .no, .no]) (ρ := [.own c, .fro (dL found), .fro (dL fall), .fro (.int j), s4, .no, .no])
          (0 :: fall) (fall ++ [0]) (fun l r => l - j * r) (by
            have g1 : gAdd (.lst [.int 0]) (dL fall) = some (dL (0 :: fall)) := by
              have : 1 + fall.length ≤ 16777216 := by omega
              simp [gAdd, this]
            have g2 : gAdd (dL fall) (.lst [.int 0]) = some (dL (fall ++ [0])) := by
              have : fall.length + 1 ≤ 16777216 := by omega
              simp [gAdd, this]
            simp [g1, g2]) rfl (by simp; omega) fun x _ y _ => ⟨[.own c, .fro (dL found), .fro (dL fall), .fro (.int j), s4, .fro (.int x), .fro (.int y)], by simp [wipeR], by simp [wipeR], by
              have m := ev_mulI (j : Int) y (.inl (by omega))
              simp [m]⟩
        obtain ⟨fall', hf'⟩ : ∃ l, List.zipWith (fun l r => l - (j : Int) * r) (0 :: fall) (fall ++ [0]) = l := ⟨_, rfl⟩
        rw [hf'] at z1
        have l1 : fall'.length = j + 2 := by rw [← hf']; simp; omega
        have b1 : ∀ x ∈ fall', -(6 : Int) ^ (j + 1) ≤ x ∧ x ≤ 6 ^ (j + 1) := by
          rw [← hf']
          refine zw_bd _ (6 ^ j) (6 ^ j) (6 ^ (j + 1)) _ _ ?_ ?_ ?_
          · intro x hx
            rcases List.mem_cons.mp hx with rfl | hx
            · omega
            · exact h4 x hx
          · intro x hx
            rcases List.mem_append.mp hx with hx | hx
            · exact h4 x hx
            · simp at hx; omega
          · intro x y x1 x2 y1 y2
            rw [p2]
            generalize (6 : Int) ^ j = B at *
            rcases (show j = 0 ∨ j = 1 ∨ j = 2 ∨ j = 3 ∨ j = 4 by omega) with rfl | rfl | rfl | rfl | rfl <;> simp <;> omega
        have z2 := lc_zip (it := xZip (xOp gAdd (xVar 1) (xOp gMul (xLst (xCons (xC (.int 0)) xNil)) (xOp gSub (xUn gLen (xVar 2)) (xUn gLen (xVar 1))))) (xVar 2)) (g := gtT 2 (gsC (gtN 5) (gsC (gtN 6) gsN))) (te := xOp gAdd (xVar 5) (xOp gMul (xVar 4) (xVar 6))) (vs := [5, 6]) (ρ0 := [.own c2, .fro (dL found), .fro (dL fall'), .fro (.int j), .fro (.int m), .no, .no]) (ρ := [.own c2, .fro (dL found), .fro (dL fall'), .fro (.int j), .fro (.int m), .no, .no])
          (found ++ [0]) fall' (fun l r => l + m * r) (by
            have g0 : ((j + 2 : Nat) : Int) - ((j + 1 : Nat) : Int) = 1 := by omega
            have g1 : gMul (.lst [.int 0]) (.int 1) = some (.lst [.int 0]) := rfl
            have g2 : gAdd (dL found) (.lst [.int 0]) = some (dL (found ++ [0])) := by
              have : found.length + 1 ≤ 16777216 := by omega
              simp [gAdd, this]
            have n1 : gLen (dL fall') = some (.int ((j + 2 : Nat) : Int)) := by simp [l1]
            have n2 : gLen (dL found) = some (.int ((j + 1 : Nat) : Int)) := by simp [h1]
            generalize hF : dL fall' = F at n1 ⊢
            generalize dL found = F2 at n2 g2 ⊢
            generalize ((j + 2 : Nat) : Int) = J2 at g0 n1
            generalize ((j + 1 : Nat) : Int) = J1 at g0 n2
            simp [n1, n2, g0, g1, g2]
            rw [← hF]
            simp) rfl (by simp; omega) fun x _ y _ => ⟨[.own c2, .fro (dL found), .fro (dL fall'), .fro (.int j), .fro (.int m), .fro (.int x), .fro (.int y)], by simp [wipeR], by simp [wipeR], by
              have mm := ev_mulI m y (.inl (by omega))
              simp [mm]⟩
        obtain ⟨found', hg'⟩ : ∃ l, List.zipWith (fun l r => l + m * r) (found ++ [0]) fall' = l := ⟨_, rfl⟩
        rw [hg'] at z2
        refine ⟨[.own c2, .fro (dL found'), .fro (dL fall'), .fro (.int j), .fro (.int m), .no, .no], .inl ?_, j + 1, k, c2, found', fall', _, _, rfl, by omega, hc2, rfl, by rw [← hg']; simp; omega, l1, ?_, b1⟩
        · simp [z1, e1, e2, z2]
        · rw [← hg']
          refine zw_bd _ (100 + (j : Int) * 1000000) (6 ^ (j + 1)) _ _ _ ?_ b1 ?_
          · intro x hx
            rcases List.mem_append.mp hx with hx | hx
            · exact h3 x hx
            · simp at hx; omega
          · intro x y x1 x2 y1 y2
            rw [p2] at y1 y2
            have q : (6 : Int) ^ j ≤ 1296 := p1.1
            generalize (6 : Int) ^ j = B at *
            have v1 : m * y ≤ 466560 ∧ -466560 ≤ m * y := by
              have : (m * y).natAbs ≤ 60 * 7776 := by rw [Int.natAbs_mul]; exact Nat.mul_le_mul (by omega) (by omega)
              omega
            have : ((j + 1 : Nat) : Int) * 1000000 = (j : Int) * 1000000 + 1000000 := by omega
            omega) (by
      rintro ρ ⟨j, k, c, found, fall, s3, s4, e, hjk, hc, rfl, h1, h2, h3, h4⟩
      cases k with
      | succ k => simp [rangeD] at e
      | zero => exact ⟨c, found, _, _, _, rfl, hc, by omega, fun x hx => by have := h3 x hx; omega⟩)
  obtain ⟨c', found, s2, s3, s4, e, hc', hl, hb⟩ := loop (rangeD 0 (1 + r).toNat) [.own c2, .fro (dL [a - 49]), .fro (dL [1]), .no, .no, .no, .no] ⟨0, (1 + r).toNat, c2, [a - 49], [1], _, _, rfl, by omega, hc2, rfl, rfl, rfl, by intro x hx; simp at hx; omega, by intro x hx; simp at hx; subst hx; decide⟩
  have i1 : Sm.inR (1 + r) = true := ev_inR _ (by omega) (by omega)
  have t := law_tidied_ok .lst (.inr rfl) found (by omega)
  refine ⟨tidy found, c', ?_, hc', by have := tidy_len found; omega, fun x hx => by have := hb x (tidy_mem found x hx); omega, tidy_last found⟩
  simp only [dL, List.map_cons, List.map_nil] at e
  simp [f__law_falls, b__law_falls, mkIo, slotsOf, e1, e2, i1, e, t]
theorem near_of {f : List Int} (h : gDef f) : Near f := ⟨⟨by have := h.1; omega, fun c hc => by have := h.2.1 c hc; omega, h.2.2⟩, by have := h.1; omega, fun c hc => by have := h.2.1 c hc; omega⟩
theorem pl_rng (P : D → Bool) (k : Nat) (lo : Int) : plL 5 ((rangeD lo k).filter P) = true := plL_of fun x hx => by
  obtain ⟨i, rfl, _, _⟩ := rangeD_mem _ _ _ (List.mem_filter.mp hx).1
  rfl
theorem lay_rng (P : D → Bool) (k : Nat) (lo : Int) : D.layL 63 ((rangeD lo k).filter P) = true := by
  have : ∀ l : List D, (∀ x ∈ l, ∃ i, x = D.int i) → D.layL 63 l = true := by
    intro l
    induction l with
    | nil => exact fun _ => rfl
    | cons a l ih =>
      intro h
      obtain ⟨i, rfl⟩ := h a (by simp)
      simp [D.layL, D.lay, ih fun x hx => h x (by simp [hx])]
  exact this _ fun x hx => by
    obtain ⟨i, rfl, _, _⟩ := rangeD_mem _ _ _ (List.mem_filter.mp hx).1
    exact ⟨i, rfl⟩
theorem turn_ok (f : List Int) (hf : gDef f) (c : D) (hc : Cup c) (s3 s5 s6 s7 : Sl) (s4' : D) : ∃ c' s6' s7' , Cup c' ∧
    (sSeq (sAsg (xCallIo LB.f__law_some 0 (xCons (xLst (xCons (xOp gAdd (xC (.int 1)) (xCallIo LB.f__law_roll 0 (xCons (xC (.int 240)) xNil))) (xCons (xOp gAdd (xC (.int 1)) (xCallIo LB.f__law_roll 0 (xCons (xC (.int 12)) xNil))) xNil))) xNil)) (gtN 6))
    (sSeq (sAsg (xLc (xRng1 (xVar 6)) (gtN 4) (tvOf (xOp gNe (xOp gMod (xUn gInt (xOp gSub (xCall LB.f__law_value_2 (xCons (xVar 1) (xCons (xVar 4) xNil))) (xVar 2))) (xVar 6)) (xC (.int 0)))) (xVar 4) [4]) (gtN 7))
    (sIf (tvNot (tvOf (xCall (LB.f__law_like_2 8) (xCons (xLst (xCons (xCall LB.f_is_constant (xCons (xVar 1) (xCons (xVar 6) xNil))) (xCons (xCall LB.f_first_other (xCons (xVar 1) (xCons (xVar 6) xNil))) xNil))) (xCons (xLst (xCons (xOp gEq (xVar 7) (xLst xNil)) (xCons (xIte (tvOf (xOp gNe (xVar 7) (xLst xNil))) (xOp gIdx (xVar 7) (xC (.int 0))) (xC .non)) xNil))) xNil))))) (sRet (xC (.bl false))) sNx)))
      [.own c, .fro (dT f), .fro (.int (hz f 0)), s3, .fro s4', s5, s6, s7] = .nx [.own c', .fro (dT f), .fro (.int (hz f 0)), s3, .fro s4', s5, s6', s7'] := by
  obtain ⟨a, c1, e1, a0, a1, hc1⟩ := roll_ok c hc 240 (by omega) (by omega)
  obtain ⟨b, c2, e2, b0, b1, hc2⟩ := roll_ok c1 hc1 12 (by omega) (by omega)
  obtain ⟨d, c3, e3, hd, hc3⟩ := some_ok c2 hc2 [.int (1 + a), .int (1 + b)] (by simp) (by simp)
  obtain ⟨n, rfl, n1, n2⟩ : ∃ n : Nat, d = dN n ∧ 1 ≤ n ∧ n ≤ 240 := by
    simp at hd
    rcases hd with rfl | rfl
    · exact ⟨(1 + a).toNat, by congr 1; omega, by omega, by omega⟩
    · exact ⟨(1 + b).toNat, by congr 1; omega, by omega, by omega⟩
  have nf := near_of hf
  have ic := is_constant_ok f nf (by have := hf.1; omega) n n1 n2
  have fo := first_other_ok f nf.pol n n1 n2
  have i1 : Sm.inR (n : Int) = true := ev_inR _ (by omega) (by omega)
  have cm := xLc_filter (it := xRng1 (xVar 6)) (g := gtN 4) (tt := tvOf (xOp gNe (xOp gMod (xUn gInt (xOp gSub (xCall LB.f__law_value_2 (xCons (xVar 1) (xCons (xVar 4) xNil))) (xVar 2))) (xVar 6)) (xC (.int 0)))) (te := xVar 4) (vs := [4])
    (ρ0 := [.own c3, .fro (dT f), .fro (.int (hz f 0)), s3, .fro s4', s5, .fro (dN n), s7]) (ρ := [.own c3, .fro (dT f), .fro (.int (hz f 0)), s3, .fro s4', s5, .fro (dN n), s7]) (ds := rangeD 0 n) (ot f n) id (by simp [i1]) rfl (Nat.le_trans (List.length_filter_le ..) (by rw [rangeD_len]; omega)) fun d hd => by
      obtain ⟨x, rfl, x1, x2⟩ := rangeD_mem _ _ _ hd
      have lv := law_value_ok .tup (.inl rfl) f x (by omega)
      have m := ev_modI (hz f x - hz f 0) n (by omega)
      exact ⟨[.own c3, .fro (dT f), .fro (.int (hz f 0)), s3, .fro (.int x), s5, .fro (dN n), s7], by simp [wipeR], by simp [wipeR], by simp [lv, m, ot, vOf], fun _ => by simp⟩
  rw [List.map_id] at cm
  have on := others_nil f n (by omega)
  have pl0 := lay_rng (ot f n) n 0
  obtain ⟨L, hL⟩ : ∃ L, (rangeD 0 n).filter (ot f n) = L := ⟨_, rfl⟩
  rw [hL] at cm fo on pl0
  refine ⟨c3, .fro (dN n), .fro (.lst L), hc3, ?_⟩
  cases L with
  | nil =>
    have q := on.mp rfl
    have q2 : ((cst f : Int) % n == 0) = true := by rw [beq_iff_eq]; exact q
    rw [q2] at ic
    have lk := like_refl 7 (.lst [.bl true, .non]) rfl
    have g1 : gEq (.lst []) (.lst []) = some (.bl true) := rfl
    have g2 : gNe (.lst []) (.lst []) = some (.bl false) := rfl
    simp [e1, e2, e3, cm, ic, fo, g1, g2, hd0, lk]
  | cons d L =>
    have q2 : ((cst f : Int) % n == 0) = false := by
      rw [beq_eq_false_iff_ne]
      intro h
      have := on.mpr h
      cases this
    rw [q2] at ic
    obtain ⟨x, rfl, _, _⟩ := rangeD_mem n 0 d (List.mem_filter.mp (show d ∈ (rangeD 0 n).filter (ot f n) by rw [hL]; simp)).1
    have lk := like_refl 7 (.lst [.bl false, .int x]) rfl
    have g1 : gEq (.lst (.int x :: L)) (.lst []) = some (.bl false) := by
      unfold gEq
      rw [show (D.lst (.int x :: L)).lay 64 = true from pl0]
      rfl
    have g2 : gNe (.lst (.int x :: L)) (.lst []) = some (.bl true) := by
      unfold gNe
      rw [show (D.lst (.int x :: L)).lay 64 = true from pl0]
      rfl
    have g3 : gIdx (.lst (.int x :: L)) (.int 0) = some (.int x) := by
      show atI (.int x :: L) 0 = _
      unfold atI ixN
      rw [if_pos (by omega), if_pos (by simp <;> omega)]
      rfl
    simp [e1, e2, e3, cm, ic, fo, g1, g2, g3, hd0, lk]
theorem right_ok (c : D) (hc : Cup c) : ∃ c', f__law_right c [] = .ok (.bl true, c') ∧ Cup c' := by
  obtain ⟨r, c1, e1, r0, r1, hc1⟩ := roll_ok c hc 3 (by omega) (by omega)
  obtain ⟨f, c2, hc2, hf, e2⟩ : ∃ f c2, Cup c2 ∧ gDef f ∧ xIte (tvOf (xOp gGt (xCallIo LB.f__law_roll 0 (xCons (xC (.int 3)) xNil)) (xC (.int 0)))) (xCallIo f__law_falls 0 xNil) (xCallIo LB.f__law_poly_2 0 (xCons (xC (.int 5)) xNil)) [.own c, .no, .no, .no, .no, .no, .no, .no] = .ok (dT f, [.own c2, .no, .no, .no, .no, .no, .no, .no]) := by
    by_cases h : 0 < r
    · obtain ⟨f, c2, e, hc2, hf⟩ := falls_ok c1 hc1
      exact ⟨f, c2, hc2, hf, by simp [e1, h, e]⟩
    · obtain ⟨f, c2, e, hc2, hf⟩ := law_poly_ok c1 hc1 5 (by omega) (by omega)
      exact ⟨f, c2, hc2, ⟨by have := hf.len; omega, hf.bd, hf.ld⟩, by simp [e1, h, e]⟩
  have nf := near_of hf
  have l6 := hf.1
  have v0 := law_value_ok .tup (.inl rfl) f 0 (by simp)
  have loop := forL_run (g := gtN 4) (b := sAsg (xCall f__law_part (xCons (xVar 3) (xCons (xUn gAbs (xOp gSub (xCall LB.f__law_value_2 (xCons (xVar 1) (xCons (xVar 4) xNil))) (xVar 2))) xNil))) (gtN 3))
    (fun ds ρ => ∃ (k : Nat) (x : Int) (g : Nat) (s : Sl), ds = rangeD x k ∧ -9 ≤ x ∧ x + k ≤ 30 ∧ (k = 0 → ∃ d, s = .fro d) ∧ g ≤ 2 ^ 238 ∧ ρ = [.own c2, .fro (dT f), .fro (.int (hz f 0)), .fro (dN g), s, .no, .no, .no] ∧ gcdGo (vOf f) k x g = cst f)
    (fun fl => ∃ d, fl = .nx [.own c2, .fro (dT f), .fro (.int (hz f 0)), .fro (dN (cst f)), .fro d, .no, .no, .no]) (by
      rintro d ds ρ ⟨k, x, g, s, e, hx, hk, _, hg, rfl, hG⟩
      cases k with
      | zero => simp [rangeD] at e
      | succ k =>
        simp only [rangeD, List.cons.injEq] at e
        obtain ⟨rfl, rfl⟩ := e
        have vx := law_value_ok .tup (.inl rfl) f x (by omega)
        have nv := near_v nf x (by omega)
        have ab := gAbs_ok (hz f x - hz f 0)
        have co := part_ok g (vOf f x).natAbs (by have : (2 : Nat) ^ 238 + 2 ^ 238 < 2 ^ 240 := by decide +kernel
                                                  omega)
        refine ⟨[.own c2, .fro (dT f), .fro (.int (hz f 0)), .fro (dN g), .fro (.int x), .no, .no, .no], by simp, .inl ⟨[.own c2, .fro (dT f), .fro (.int (hz f 0)), .fro (dN (Nat.gcd g (vOf f x).natAbs)), .fro (.int x), .no, .no, .no], .inl ?_, k, x + 1, _, _, rfl, by omega, by omega, fun _ => ⟨_, rfl⟩, gcd_le _ _ _ hg nv, rfl, hG⟩⟩
        simp only [vOf] at co
        simp [vx, ab, co, vOf]) (by
      rintro ρ ⟨k, x, g, s, e, hx, hk, hs, hg, rfl, hG⟩
      cases k with
      | succ k => simp [rangeD] at e
      | zero =>
        obtain ⟨d, rfl⟩ := hs rfl
        rw [← hG]
        exact ⟨d, rfl⟩)
  obtain ⟨d4, e3⟩ := loop (rangeD (-9) 39) [.own c2, .fro (dT f), .fro (.int (hz f 0)), .fro (dN 0), .no, .no, .no, .no] ⟨39, -9, 0, .no, rfl, by omega, by omega, fun h => by omega, by omega, rfl, gcd_wide f (-9) 39 (by omega) (by omega)⟩
  have cp := constant_part_ok f nf (by omega)
  have cb := constant_by_ok f nf (by omega)
  have cm := xLc_filter (it := xRng2 (xC (.int 1)) (xC (.int 241))) (g := gtN 6) (tt := tvOf (xOp gEq (xOp gMod (xUn gInt (xVar 3)) (xVar 6)) (xC (.int 0)))) (te := xVar 6) (vs := [6])
    (ρ0 := [.own c2, .fro (dT f), .fro (.int (hz f 0)), .fro (dN (cst f)), .fro d4, .no, .no, .no]) (ρ := [.own c2, .fro (dT f), .fro (.int (hz f 0)), .fro (dN (cst f)), .fro d4, .no, .no, .no]) (ds := rangeD 1 240) (dv (cst f)) id (by simp) rfl (Nat.le_trans (List.length_filter_le ..) (by rw [rangeD_len]; omega)) fun d hd => by
      obtain ⟨x, rfl, x1, x2⟩ := rangeD_mem _ _ _ hd
      have m := ev_modI (cst f) x (by omega)
      exact ⟨[.own c2, .fro (dT f), .fro (.int (hz f 0)), .fro (dN (cst f)), .fro d4, .no, .fro (.int x), .no], by simp [wipeR], by simp [wipeR], by simp [m, dv], fun _ => by simp⟩
  rw [List.map_id] at cm
  have lk := like_refl 7 (.lst [dN (cst f), .tup ((rangeD 1 240).filter (dv (cst f)))]) (by
    simp [pl, plL, pl_rng (dv (cst f)) 240 1])
  have loop2 := forL_run (g := gtN 5) (b := sSeq (sAsg (xCallIo LB.f__law_some 0 (xCons (xLst (xCons (xOp gAdd (xC (.int 1)) (xCallIo LB.f__law_roll 0 (xCons (xC (.int 240)) xNil))) (xCons (xOp gAdd (xC (.int 1)) (xCallIo LB.f__law_roll 0 (xCons (xC (.int 12)) xNil))) xNil))) xNil)) (gtN 6))
    (sSeq (sAsg (xLc (xRng1 (xVar 6)) (gtN 4) (tvOf (xOp gNe (xOp gMod (xUn gInt (xOp gSub (xCall LB.f__law_value_2 (xCons (xVar 1) (xCons (xVar 4) xNil))) (xVar 2))) (xVar 6)) (xC (.int 0)))) (xVar 4) [4]) (gtN 7))
    (sIf (tvNot (tvOf (xCall (LB.f__law_like_2 8) (xCons (xLst (xCons (xCall LB.f_is_constant (xCons (xVar 1) (xCons (xVar 6) xNil))) (xCons (xCall LB.f_first_other (xCons (xVar 1) (xCons (xVar 6) xNil))) xNil))) (xCons (xLst (xCons (xOp gEq (xVar 7) (xLst xNil)) (xCons (xIte (tvOf (xOp gNe (xVar 7) (xLst xNil))) (xOp gIdx (xVar 7) (xC (.int 0))) (xC .non)) xNil))) xNil))))) (sRet (xC (.bl false))) sNx)))
    (fun ds ρ => ∃ c s5 s6 s7, Cup c ∧ ρ = [.own c, .fro (dT f), .fro (.int (hz f 0)), .fro (dN (cst f)), .fro d4, s5, s6, s7])
    (fun fl => ∃ c s5 s6 s7, Cup c ∧ fl = .nx [.own c, .fro (dT f), .fro (.int (hz f 0)), .fro (dN (cst f)), .fro d4, s5, s6, s7]) (by
      rintro d ds ρ ⟨c, s5, s6, s7, hc, rfl⟩
      obtain ⟨c', s6', s7', hc', e⟩ := turn_ok f hf c hc (.fro (dN (cst f))) (.fro d) s6 s7 d4
      exact ⟨[.own c, .fro (dT f), .fro (.int (hz f 0)), .fro (dN (cst f)), .fro d4, .fro d, s6, s7], by simp, .inl ⟨_, .inl e, c', _, _, _, hc', rfl⟩⟩) (by
      rintro ρ ⟨c, s5, s6, s7, hc, rfl⟩
      exact ⟨c, s5, s6, s7, hc, rfl⟩)
  obtain ⟨c5, s5, s6, s7, hc5, e5⟩ := loop2 (rangeD 0 4) [.own c2, .fro (dT f), .fro (.int (hz f 0)), .fro (dN (cst f)), .fro d4, .no, .no, .no] ⟨c2, _, _, _, hc2, rfl⟩
  refine ⟨c5, ?_, hc5⟩
  simp only [dN, Int.natCast_zero] at e3 e5 lk cp cm
  simp [f__law_right, b__law_right, mkIo, slotsOf, -ev_Ite, e2, v0, e3, cp, cb, cm, lk, e5]
theorem law_true (ns : List Int) (h : ns.length ≤ 63) : f_law [.scr ns] = .ok (.bl true) := by
  obtain ⟨c, e, hc⟩ := cup_ok ns h
  have loop := forL_run (g := gtN 2) (b := sIf (tvNot (tvOf (xCallIo f__law_right 1 xNil))) (sRet (xC (.bl false))) sNx) (fun ds ρ => ∃ c s2, Cup c ∧ ρ = [.fro (.scr ns), .own c, s2]) (fun fl => ∃ c s2, fl = .nx [.fro (.scr ns), .own c, s2])
    (by
      rintro d ds ρ ⟨c, s2, hc, rfl⟩
      obtain ⟨c', e, hc'⟩ := right_ok c hc
      exact ⟨[.fro (.scr ns), .own c, .fro d], by simp, .inl ⟨[.fro (.scr ns), .own c', .fro d], .inl (by simp [e]), c', _, hc', rfl⟩⟩) (by
      rintro ρ ⟨c, s2, hc, rfl⟩
      exact ⟨c, s2, rfl⟩)
  obtain ⟨c', s2, l⟩ := loop (rangeD 0 8) [.fro (.scr ns), .own c, .no] ⟨c, .no, hc, rfl⟩
  simp [f_law, b_law, mkFn, slotsOf, fixed_ok, e, l]
end Lk63
namespace Lk63
open PySem PySem.Spec PyProof.Rows L2 Sm
theorem all_mk {P : Program} {w : World} {K : PySem.W.Frag} {h : Heap} {mg : Str → Option Value} {fa : Addr} (X : K.In h) (Gn : h.Ns mainGlobals mg) (hfa : mg "law" = some (.ref fa))
    {f0 : Addr} {od0 an0 : Option Addr} {sl0 : Array (Option Value)} {oc0 kV0 dc0 pm0 cd0 ct0 : Value}
    (a0 : PySem.W.nsIn K mainGlobals "is_whole" = some (some (.ref f0))) (l0 : K.lookup f0 = some ⟨oc0, od0, .func (PySem.W.fnOf "is_whole" "is_whole" (defArgs s_is_whole) (defBody s_is_whole) (defScope s_is_whole) .none kV0 dc0 pm0 an0 cd0 ct0), sl0⟩) (c0 : PySem.W.codeIn K cd0 "is_whole" = true) (k0 : PySem.W.keepIn K (.ref f0) = true)
    {f1 : Addr} {od1 an1 : Option Addr} {sl1 : Array (Option Value)} {oc1 kV1 dc1 pm1 cd1 ct1 : Value}
    (a1 : PySem.W.nsIn K mainGlobals "need_whole" = some (some (.ref f1))) (l1 : K.lookup f1 = some ⟨oc1, od1, .func (PySem.W.fnOf "need_whole" "need_whole" (defArgs s_need_whole) (defBody s_need_whole) (defScope s_need_whole) .none kV1 dc1 pm1 an1 cd1 ct1), sl1⟩) (c1 : PySem.W.codeIn K cd1 "need_whole" = true) (k1 : PySem.W.keepIn K (.ref f1) = true)
    {f2 : Addr} {od2 an2 : Option Addr} {sl2 : Array (Option Value)} {oc2 kV2 dc2 pm2 cd2 ct2 : Value}
    (a2 : PySem.W.nsIn K mainGlobals "is_tuple_of" = some (some (.ref f2))) (l2 : K.lookup f2 = some ⟨oc2, od2, .func (PySem.W.fnOf "is_tuple_of" "is_tuple_of" (defArgs s_is_tuple_of) (defBody s_is_tuple_of) (defScope s_is_tuple_of) .none kV2 dc2 pm2 an2 cd2 ct2), sl2⟩) (c2 : PySem.W.codeIn K cd2 "is_tuple_of" = true) (k2 : PySem.W.keepIn K (.ref f2) = true)
    {f3 : Addr} {od3 an3 : Option Addr} {sl3 : Array (Option Value)} {oc3 kV3 dc3 pm3 cd3 ct3 : Value}
    (a3 : PySem.W.nsIn K mainGlobals "is_poly" = some (some (.ref f3))) (l3 : K.lookup f3 = some ⟨oc3, od3, .func (PySem.W.fnOf "is_poly" "is_poly" (defArgs s_is_poly) (defBody s_is_poly) (defScope s_is_poly) .none kV3 dc3 pm3 an3 cd3 ct3), sl3⟩) (c3 : PySem.W.codeIn K cd3 "is_poly" = true) (k3 : PySem.W.keepIn K (.ref f3) = true)
    {f4 : Addr} {od4 an4 : Option Addr} {sl4 : Array (Option Value)} {oc4 kV4 dc4 pm4 cd4 ct4 : Value}
    (a4 : PySem.W.nsIn K mainGlobals "need_poly" = some (some (.ref f4))) (l4 : K.lookup f4 = some ⟨oc4, od4, .func (PySem.W.fnOf "need_poly" "need_poly" (defArgs s_need_poly) (defBody s_need_poly) (defScope s_need_poly) .none kV4 dc4 pm4 an4 cd4 ct4), sl4⟩) (c4 : PySem.W.codeIn K cd4 "need_poly" = true) (k4 : PySem.W.keepIn K (.ref f4) = true)
    {f5 : Addr} {od5 an5 : Option Addr} {sl5 : Array (Option Value)} {oc5 kV5 dc5 pm5 cd5 ct5 : Value}
    (a5 : PySem.W.nsIn K mainGlobals "value_at" = some (some (.ref f5))) (l5 : K.lookup f5 = some ⟨oc5, od5, .func (PySem.W.fnOf "value_at" "value_at" (defArgs s_value_at) (defBody s_value_at) (defScope s_value_at) .none kV5 dc5 pm5 an5 cd5 ct5), sl5⟩) (c5 : PySem.W.codeIn K cd5 "value_at" = true) (k5 : PySem.W.keepIn K (.ref f5) = true)
    {f6 : Addr} {od6 an6 : Option Addr} {sl6 : Array (Option Value)} {oc6 kV6 dc6 pm6 cd6 ct6 : Value}
    (a6 : PySem.W.nsIn K mainGlobals "need_n" = some (some (.ref f6))) (l6 : K.lookup f6 = some ⟨oc6, od6, .func (PySem.W.fnOf "need_n" "need_n" (defArgs s_need_n) (defBody s_need_n) (defScope s_need_n) .none kV6 dc6 pm6 an6 cd6 ct6), sl6⟩) (c6 : PySem.W.codeIn K cd6 "need_n" = true) (k6 : PySem.W.keepIn K (.ref f6) = true)
    {f7 : Addr} {od7 an7 : Option Addr} {sl7 : Array (Option Value)} {oc7 kV7 dc7 pm7 cd7 ct7 : Value}
    (a7 : PySem.W.nsIn K mainGlobals "rest_in" = some (some (.ref f7))) (l7 : K.lookup f7 = some ⟨oc7, od7, .func (PySem.W.fnOf "rest_in" "rest_in" (defArgs s_rest_in) (defBody s_rest_in) (defScope s_rest_in) .none kV7 dc7 pm7 an7 cd7 ct7), sl7⟩) (c7 : PySem.W.codeIn K cd7 "rest_in" = true) (k7 : PySem.W.keepIn K (.ref f7) = true)
    {f8 : Addr} {od8 an8 : Option Addr} {sl8 : Array (Option Value)} {oc8 kV8 dc8 pm8 cd8 ct8 : Value}
    (a8 : PySem.W.nsIn K mainGlobals "rest_at" = some (some (.ref f8))) (l8 : K.lookup f8 = some ⟨oc8, od8, .func (PySem.W.fnOf "rest_at" "rest_at" (defArgs s_rest_at) (defBody s_rest_at) (defScope s_rest_at) .none kV8 dc8 pm8 an8 cd8 ct8), sl8⟩) (c8 : PySem.W.codeIn K cd8 "rest_at" = true) (k8 : PySem.W.keepIn K (.ref f8) = true)
    {f9 : Addr} {od9 an9 : Option Addr} {sl9 : Array (Option Value)} {oc9 kV9 dc9 pm9 cd9 ct9 : Value}
    (a9 : PySem.W.nsIn K mainGlobals "common_in" = some (some (.ref f9))) (l9 : K.lookup f9 = some ⟨oc9, od9, .func (PySem.W.fnOf "common_in" "common_in" (defArgs s_common_in) (defBody s_common_in) (defScope s_common_in) .none kV9 dc9 pm9 an9 cd9 ct9), sl9⟩) (c9 : PySem.W.codeIn K cd9 "common_in" = true) (k9 : PySem.W.keepIn K (.ref f9) = true)
    {f10 : Addr} {od10 an10 : Option Addr} {sl10 : Array (Option Value)} {oc10 kV10 dc10 pm10 cd10 ct10 : Value}
    (a10 : PySem.W.nsIn K mainGlobals "constant_in" = some (some (.ref f10))) (l10 : K.lookup f10 = some ⟨oc10, od10, .func (PySem.W.fnOf "constant_in" "constant_in" (defArgs s_constant_in) (defBody s_constant_in) (defScope s_constant_in) .none kV10 dc10 pm10 an10 cd10 ct10), sl10⟩) (c10 : PySem.W.codeIn K cd10 "constant_in" = true) (k10 : PySem.W.keepIn K (.ref f10) = true)
    {f11 : Addr} {od11 an11 : Option Addr} {sl11 : Array (Option Value)} {oc11 kV11 dc11 pm11 cd11 ct11 : Value}
    (a11 : PySem.W.nsIn K mainGlobals "is_constant" = some (some (.ref f11))) (l11 : K.lookup f11 = some ⟨oc11, od11, .func (PySem.W.fnOf "is_constant" "is_constant" (defArgs s_is_constant) (defBody s_is_constant) (defScope s_is_constant) .none kV11 dc11 pm11 an11 cd11 ct11), sl11⟩) (c11 : PySem.W.codeIn K cd11 "is_constant" = true) (k11 : PySem.W.keepIn K (.ref f11) = true)
    {f12 : Addr} {od12 an12 : Option Addr} {sl12 : Array (Option Value)} {oc12 kV12 dc12 pm12 cd12 ct12 : Value}
    (a12 : PySem.W.nsIn K mainGlobals "first_other" = some (some (.ref f12))) (l12 : K.lookup f12 = some ⟨oc12, od12, .func (PySem.W.fnOf "first_other" "first_other" (defArgs s_first_other) (defBody s_first_other) (defScope s_first_other) .none kV12 dc12 pm12 an12 cd12 ct12), sl12⟩) (c12 : PySem.W.codeIn K cd12 "first_other" = true) (k12 : PySem.W.keepIn K (.ref f12) = true)
    {f13 : Addr} {od13 an13 : Option Addr} {sl13 : Array (Option Value)} {oc13 kV13 dc13 pm13 cd13 ct13 : Value}
    (a13 : PySem.W.nsIn K mainGlobals "constant_part" = some (some (.ref f13))) (l13 : K.lookup f13 = some ⟨oc13, od13, .func (PySem.W.fnOf "constant_part" "constant_part" (defArgs s_constant_part) (defBody s_constant_part) (defScope s_constant_part) .none kV13 dc13 pm13 an13 cd13 ct13), sl13⟩) (c13 : PySem.W.codeIn K cd13 "constant_part" = true) (k13 : PySem.W.keepIn K (.ref f13) = true)
    {f14 : Addr} {od14 an14 : Option Addr} {sl14 : Array (Option Value)} {oc14 kV14 dc14 pm14 cd14 ct14 : Value}
    (a14 : PySem.W.nsIn K mainGlobals "constant_by" = some (some (.ref f14))) (l14 : K.lookup f14 = some ⟨oc14, od14, .func (PySem.W.fnOf "constant_by" "constant_by" (defArgs s_constant_by) (defBody s_constant_by) (defScope s_constant_by) .none kV14 dc14 pm14 an14 cd14 ct14), sl14⟩) (c14 : PySem.W.codeIn K cd14 "constant_by" = true) (k14 : PySem.W.keepIn K (.ref f14) = true)
    {f15 : Addr} {od15 an15 : Option Addr} {sl15 : Array (Option Value)} {oc15 kV15 dc15 pm15 cd15 ct15 : Value}
    (a15 : PySem.W.nsIn K mainGlobals "_law_cup" = some (some (.ref f15))) (l15 : K.lookup f15 = some ⟨oc15, od15, .func (PySem.W.fnOf "_law_cup" "_law_cup" (defArgs s__law_cup) (defBody s__law_cup) (defScope s__law_cup) .none kV15 dc15 pm15 an15 cd15 ct15), sl15⟩) (c15 : PySem.W.codeIn K cd15 "_law_cup" = true) (k15 : PySem.W.keepIn K (.ref f15) = true)
    {f16 : Addr} {od16 an16 : Option Addr} {sl16 : Array (Option Value)} {oc16 kV16 dc16 pm16 cd16 ct16 : Value}
    (a16 : PySem.W.nsIn K mainGlobals "_law_roll" = some (some (.ref f16))) (l16 : K.lookup f16 = some ⟨oc16, od16, .func (PySem.W.fnOf "_law_roll" "_law_roll" (defArgs s__law_roll) (defBody s__law_roll) (defScope s__law_roll) .none kV16 dc16 pm16 an16 cd16 ct16), sl16⟩) (c16 : PySem.W.codeIn K cd16 "_law_roll" = true) (k16 : PySem.W.keepIn K (.ref f16) = true)
    {f17 : Addr} {od17 an17 : Option Addr} {sl17 : Array (Option Value)} {oc17 kV17 dc17 pm17 cd17 ct17 : Value}
    (a17 : PySem.W.nsIn K mainGlobals "_law_some" = some (some (.ref f17))) (l17 : K.lookup f17 = some ⟨oc17, od17, .func (PySem.W.fnOf "_law_some" "_law_some" (defArgs s__law_some) (defBody s__law_some) (defScope s__law_some) .none kV17 dc17 pm17 an17 cd17 ct17), sl17⟩) (c17 : PySem.W.codeIn K cd17 "_law_some" = true) (k17 : PySem.W.keepIn K (.ref f17) = true)
    {f18 : Addr} {od18 an18 : Option Addr} {sl18 : Array (Option Value)} {oc18 kV18 dc18 pm18 cd18 ct18 : Value}
    (a18 : PySem.W.nsIn K mainGlobals "_law_sort" = some (some (.ref f18))) (l18 : K.lookup f18 = some ⟨oc18, od18, .func (PySem.W.fnOf "_law_sort" "_law_sort" (defArgs s__law_sort) (defBody s__law_sort) (defScope s__law_sort) .none kV18 dc18 pm18 an18 cd18 ct18), sl18⟩) (c18 : PySem.W.codeIn K cd18 "_law_sort" = true) (k18 : PySem.W.keepIn K (.ref f18) = true)
    {f19 : Addr} {od19 an19 : Option Addr} {sl19 : Array (Option Value)} {oc19 kV19 dc19 pm19 cd19 ct19 : Value}
    (a19 : PySem.W.nsIn K mainGlobals "_law_like" = some (some (.ref f19))) (l19 : K.lookup f19 = some ⟨oc19, od19, .func (PySem.W.fnOf "_law_like" "_law_like" (defArgs s__law_like) (defBody s__law_like) (defScope s__law_like) .none kV19 dc19 pm19 an19 cd19 ct19), sl19⟩) (c19 : PySem.W.codeIn K cd19 "_law_like" = true) (k19 : PySem.W.keepIn K (.ref f19) = true)
    {f20 : Addr} {od20 an20 : Option Addr} {sl20 : Array (Option Value)} {oc20 kV20 dc20 pm20 cd20 ct20 : Value}
    (a20 : PySem.W.nsIn K mainGlobals "_law_value" = some (some (.ref f20))) (l20 : K.lookup f20 = some ⟨oc20, od20, .func (PySem.W.fnOf "_law_value" "_law_value" (defArgs s__law_value) (defBody s__law_value) (defScope s__law_value) .none kV20 dc20 pm20 an20 cd20 ct20), sl20⟩) (c20 : PySem.W.codeIn K cd20 "_law_value" = true) (k20 : PySem.W.keepIn K (.ref f20) = true)
    {f21 : Addr} {od21 an21 : Option Addr} {sl21 : Array (Option Value)} {oc21 kV21 dc21 pm21 cd21 ct21 : Value}
    (a21 : PySem.W.nsIn K mainGlobals "_law_tidied" = some (some (.ref f21))) (l21 : K.lookup f21 = some ⟨oc21, od21, .func (PySem.W.fnOf "_law_tidied" "_law_tidied" (defArgs s__law_tidied) (defBody s__law_tidied) (defScope s__law_tidied) .none kV21 dc21 pm21 an21 cd21 ct21), sl21⟩) (c21 : PySem.W.codeIn K cd21 "_law_tidied" = true) (k21 : PySem.W.keepIn K (.ref f21) = true)
    {f22 : Addr} {od22 an22 : Option Addr} {sl22 : Array (Option Value)} {oc22 kV22 dc22 pm22 cd22 ct22 : Value}
    (a22 : PySem.W.nsIn K mainGlobals "_law_poly" = some (some (.ref f22))) (l22 : K.lookup f22 = some ⟨oc22, od22, .func (PySem.W.fnOf "_law_poly" "_law_poly" (defArgs s__law_poly) (defBody s__law_poly) (defScope s__law_poly) .none kV22 dc22 pm22 an22 cd22 ct22), sl22⟩) (c22 : PySem.W.codeIn K cd22 "_law_poly" = true) (k22 : PySem.W.keepIn K (.ref f22) = true)
    {f23 : Addr} {od23 an23 : Option Addr} {sl23 : Array (Option Value)} {oc23 kV23 dc23 pm23 cd23 ct23 : Value}
    (a23 : PySem.W.nsIn K mainGlobals "_law_part" = some (some (.ref f23))) (l23 : K.lookup f23 = some ⟨oc23, od23, .func (PySem.W.fnOf "_law_part" "_law_part" (defArgs s__law_part) (defBody s__law_part) (defScope s__law_part) .none kV23 dc23 pm23 an23 cd23 ct23), sl23⟩) (c23 : PySem.W.codeIn K cd23 "_law_part" = true) (k23 : PySem.W.keepIn K (.ref f23) = true)
    {f24 : Addr} {od24 an24 : Option Addr} {sl24 : Array (Option Value)} {oc24 kV24 dc24 pm24 cd24 ct24 : Value}
    (a24 : PySem.W.nsIn K mainGlobals "_law_falls" = some (some (.ref f24))) (l24 : K.lookup f24 = some ⟨oc24, od24, .func (PySem.W.fnOf "_law_falls" "_law_falls" (defArgs s__law_falls) (defBody s__law_falls) (defScope s__law_falls) .none kV24 dc24 pm24 an24 cd24 ct24), sl24⟩) (c24 : PySem.W.codeIn K cd24 "_law_falls" = true) (k24 : PySem.W.keepIn K (.ref f24) = true)
    {f25 : Addr} {od25 an25 : Option Addr} {sl25 : Array (Option Value)} {oc25 kV25 dc25 pm25 cd25 ct25 : Value}
    (a25 : PySem.W.nsIn K mainGlobals "_law_fixed_right" = some (some (.ref f25))) (l25 : K.lookup f25 = some ⟨oc25, od25, .func (PySem.W.fnOf "_law_fixed_right" "_law_fixed_right" (defArgs s__law_fixed_right) (defBody s__law_fixed_right) (defScope s__law_fixed_right) .none kV25 dc25 pm25 an25 cd25 ct25), sl25⟩) (c25 : PySem.W.codeIn K cd25 "_law_fixed_right" = true) (k25 : PySem.W.keepIn K (.ref f25) = true)
    {f26 : Addr} {od26 an26 : Option Addr} {sl26 : Array (Option Value)} {oc26 kV26 dc26 pm26 cd26 ct26 : Value}
    (a26 : PySem.W.nsIn K mainGlobals "_law_right" = some (some (.ref f26))) (l26 : K.lookup f26 = some ⟨oc26, od26, .func (PySem.W.fnOf "_law_right" "_law_right" (defArgs s__law_right) (defBody s__law_right) (defScope s__law_right) .none kV26 dc26 pm26 an26 cd26 ct26), sl26⟩) (c26 : PySem.W.codeIn K cd26 "_law_right" = true) (k26 : PySem.W.keepIn K (.ref f26) = true)
    {f27 : Addr} {od27 an27 : Option Addr} {sl27 : Array (Option Value)} {oc27 kV27 dc27 pm27 cd27 ct27 : Value}
    (a27 : PySem.W.nsIn K mainGlobals "law" = some (some (.ref f27))) (l27 : K.lookup f27 = some ⟨oc27, od27, .func (PySem.W.fnOf "law" "law" (defArgs s_law) (defBody s_law) (defScope s_law) .none kV27 dc27 pm27 an27 cd27 ct27), sl27⟩) (c27 : PySem.W.codeIn K cd27 "law" = true) (k27 : PySem.W.keepIn K (.ref f27) = true)
    (z_abs : PySem.W.nsIn K mainGlobals "abs" = some none)
    (z_all : PySem.W.nsIn K mainGlobals "all" = some none)
    (z_bool : PySem.W.nsIn K mainGlobals "bool" = some none)
    (z_int : PySem.W.nsIn K mainGlobals "int" = some none)
    (z_isinstance : PySem.W.nsIn K mainGlobals "isinstance" = some none)
    (z_len : PySem.W.nsIn K mainGlobals "len" = some none)
    (z_list : PySem.W.nsIn K mainGlobals "list" = some none)
    (z_range : PySem.W.nsIn K mainGlobals "range" = some none)
    (z_tuple : PySem.W.nsIn K mainGlobals "tuple" = some none)
    (z_zip : PySem.W.nsIn K mainGlobals "zip" = some none)
    {t_GREAT : Tok} (i_GREAT : PySem.W.nsIn K mainGlobals "GREAT" = some (some (.int 1000000000000000000000000000000000000000000000000000000000000 t_GREAT)))
    {t_MOST : Tok} (i_MOST : PySem.W.nsIn K mainGlobals "MOST" = some (some (.int 240 t_MOST)))
    {t_PARTS : Tok} (i_PARTS : PySem.W.nsIn K mainGlobals "PARTS" = some (some (.int 240 t_PARTS))) :
    ∃ (fd : FuncData) (xc : Nat → Nat), (∀ (s : Shared) (v : Value), BindsTo s fd ⟨[v], []⟩ [("script", v)]) ∧ ∀ base : Heap, K.In base → base.Ns mainGlobals mg → FnOk P w K mg base (L2.CX P w) 12 fa fd ["script"] (spF ⟨K, xc, fun _ => True⟩ f_law) := by
  have e := hfa.symm.trans (PySem.W.mg_of X Gn a27)
  cases e
  have F0 := fun_mk (st := s_is_whole) l0 c0 k0
  have F1 := fun_mk (st := s_need_whole) l1 c1 k1
  have F2 := fun_mk (st := s_is_tuple_of) l2 c2 k2
  have F3 := fun_mk (st := s_is_poly) l3 c3 k3
  have F4 := fun_mk (st := s_need_poly) l4 c4 k4
  have F5 := fun_mk (st := s_value_at) l5 c5 k5
  have F6 := fun_mk (st := s_need_n) l6 c6 k6
  have F7 := fun_mk (st := s_rest_in) l7 c7 k7
  have F8 := fun_mk (st := s_rest_at) l8 c8 k8
  have F9 := fun_mk (st := s_common_in) l9 c9 k9
  have F10 := fun_mk (st := s_constant_in) l10 c10 k10
  have F11 := fun_mk (st := s_is_constant) l11 c11 k11
  have F12 := fun_mk (st := s_first_other) l12 c12 k12
  have F13 := fun_mk (st := s_constant_part) l13 c13 k13
  have F14 := fun_mk (st := s_constant_by) l14 c14 k14
  have F15 := fun_mk (st := s__law_cup) l15 c15 k15
  have F16 := fun_mk (st := s__law_roll) l16 c16 k16
  have F17 := fun_mk (st := s__law_some) l17 c17 k17
  have F18 := fun_mk (st := s__law_sort) l18 c18 k18
  have F19 := fun_mk (st := s__law_like) l19 c19 k19
  have F20 := fun_mk (st := s__law_value) l20 c20 k20
  have F21 := fun_mk (st := s__law_tidied) l21 c21 k21
  have F22 := fun_mk (st := s__law_poly) l22 c22 k22
  have F23 := fun_mk (st := s__law_part) l23 c23 k23
  have F24 := fun_mk (st := s__law_falls) l24 c24 k24
  have F25 := fun_mk (st := s__law_fixed_right) l25 c25 k25
  have F26 := fun_mk (st := s__law_right) l26 c26 k26
  have F27 := fun_mk (st := s_law) l27 c27 k27
  let T : Txt K mg := {
    a_is_whole := f0, d_is_whole := _, F_is_whole := F0, g_is_whole := PySem.W.mg_of X Gn a0, b_is_whole := F0.binds (ps := ["value", "low", "high"]) (fun _ _ _ _ _ _ us hl => match us, hl with | [_, _, _], _ => rfl),
    a_need_whole := f1, d_need_whole := _, F_need_whole := F1, g_need_whole := PySem.W.mg_of X Gn a1, b_need_whole := F1.binds (ps := ["value", "low", "high"]) (fun _ _ _ _ _ _ us hl => match us, hl with | [_, _, _], _ => rfl),
    a_is_tuple_of := f2, d_is_tuple_of := _, F_is_tuple_of := F2, g_is_tuple_of := PySem.W.mg_of X Gn a2, b_is_tuple_of := F2.binds (ps := ["value", "low", "high"]) (fun _ _ _ _ _ _ us hl => match us, hl with | [_, _, _], _ => rfl),
    a_is_poly := f3, d_is_poly := _, F_is_poly := F3, g_is_poly := PySem.W.mg_of X Gn a3, b_is_poly := F3.binds (ps := ["value"]) (fun _ _ _ _ _ _ us hl => match us, hl with | [_], _ => rfl),
    a_need_poly := f4, d_need_poly := _, F_need_poly := F4, g_need_poly := PySem.W.mg_of X Gn a4, b_need_poly := F4.binds (ps := ["f"]) (fun _ _ _ _ _ _ us hl => match us, hl with | [_], _ => rfl),
    a_value_at := f5, d_value_at := _, F_value_at := F5, g_value_at := PySem.W.mg_of X Gn a5, b_value_at := F5.binds (ps := ["f", "number"]) (fun _ _ _ _ _ _ us hl => match us, hl with | [_, _], _ => rfl),
    a_need_n := f6, d_need_n := _, F_need_n := F6, g_need_n := PySem.W.mg_of X Gn a6, b_need_n := F6.binds (ps := ["n"]) (fun _ _ _ _ _ _ us hl => match us, hl with | [_], _ => rfl),
    a_rest_in := f7, d_rest_in := _, F_rest_in := F7, g_rest_in := PySem.W.mg_of X Gn a7, b_rest_in := F7.binds (ps := ["number", "n"]) (fun _ _ _ _ _ _ us hl => match us, hl with | [_, _], _ => rfl),
    a_rest_at := f8, d_rest_at := _, F_rest_at := F8, g_rest_at := PySem.W.mg_of X Gn a8, b_rest_at := F8.binds (ps := ["parts", "number", "n"]) (fun _ _ _ _ _ _ us hl => match us, hl with | [_, _, _], _ => rfl),
    a_common_in := f9, d_common_in := _, F_common_in := F9, g_common_in := PySem.W.mg_of X Gn a9, b_common_in := F9.binds (ps := ["one", "other"]) (fun _ _ _ _ _ _ us hl => match us, hl with | [_, _], _ => rfl),
    a_constant_in := f10, d_constant_in := _, F_constant_in := F10, g_constant_in := PySem.W.mg_of X Gn a10, b_constant_in := F10.binds (ps := ["f"]) (fun _ _ _ _ _ _ us hl => match us, hl with | [_], _ => rfl),
    a_is_constant := f11, d_is_constant := _, F_is_constant := F11, g_is_constant := PySem.W.mg_of X Gn a11, b_is_constant := F11.binds (ps := ["f", "n"]) (fun _ _ _ _ _ _ us hl => match us, hl with | [_, _], _ => rfl),
    a_first_other := f12, d_first_other := _, F_first_other := F12, g_first_other := PySem.W.mg_of X Gn a12, b_first_other := F12.binds (ps := ["f", "n"]) (fun _ _ _ _ _ _ us hl => match us, hl with | [_, _], _ => rfl),
    a_constant_part := f13, d_constant_part := _, F_constant_part := F13, g_constant_part := PySem.W.mg_of X Gn a13, b_constant_part := F13.binds (ps := ["f"]) (fun _ _ _ _ _ _ us hl => match us, hl with | [_], _ => rfl),
    a_constant_by := f14, d_constant_by := _, F_constant_by := F14, g_constant_by := PySem.W.mg_of X Gn a14, b_constant_by := F14.binds (ps := ["f"]) (fun _ _ _ _ _ _ us hl => match us, hl with | [_], _ => rfl),
    a__law_cup := f15, d__law_cup := _, F__law_cup := F15, g__law_cup := PySem.W.mg_of X Gn a15, b__law_cup := F15.binds (ps := ["script"]) (fun _ _ _ _ _ _ us hl => match us, hl with | [_], _ => rfl),
    a__law_roll := f16, d__law_roll := _, F__law_roll := F16, g__law_roll := PySem.W.mg_of X Gn a16, b__law_roll := F16.binds (ps := ["cup", "many"]) (fun _ _ _ _ _ _ us hl => match us, hl with | [_, _], _ => rfl),
    a__law_some := f17, d__law_some := _, F__law_some := F17, g__law_some := PySem.W.mg_of X Gn a17, b__law_some := F17.binds (ps := ["cup", "things"]) (fun _ _ _ _ _ _ us hl => match us, hl with | [_, _], _ => rfl),
    a__law_sort := f18, d__law_sort := _, F__law_sort := F18, g__law_sort := PySem.W.mg_of X Gn a18, b__law_sort := F18.binds (ps := ["value"]) (fun _ _ _ _ _ _ us hl => match us, hl with | [_], _ => rfl),
    a__law_like := f19, d__law_like := _, F__law_like := F19, g__law_like := PySem.W.mg_of X Gn a19, b__law_like := F19.binds (ps := ["one", "other"]) (fun _ _ _ _ _ _ us hl => match us, hl with | [_, _], _ => rfl),
    a__law_value := f20, d__law_value := _, F__law_value := F20, g__law_value := PySem.W.mg_of X Gn a20, b__law_value := F20.binds (ps := ["f", "x"]) (fun _ _ _ _ _ _ us hl => match us, hl with | [_, _], _ => rfl),
    a__law_tidied := f21, d__law_tidied := _, F__law_tidied := F21, g__law_tidied := PySem.W.mg_of X Gn a21, b__law_tidied := F21.binds (ps := ["parts"]) (fun _ _ _ _ _ _ us hl => match us, hl with | [_], _ => rfl),
    a__law_poly := f22, d__law_poly := _, F__law_poly := F22, g__law_poly := PySem.W.mg_of X Gn a22, b__law_poly := F22.binds (ps := ["cup", "most"]) (fun _ _ _ _ _ _ us hl => match us, hl with | [_, _], _ => rfl),
    a__law_part := f23, d__law_part := _, F__law_part := F23, g__law_part := PySem.W.mg_of X Gn a23, b__law_part := F23.binds (ps := ["one", "other"]) (fun _ _ _ _ _ _ us hl => match us, hl with | [_, _], _ => rfl),
    a__law_falls := f24, d__law_falls := _, F__law_falls := F24, g__law_falls := PySem.W.mg_of X Gn a24, b__law_falls := F24.binds (ps := ["cup"]) (fun _ _ _ _ _ _ us hl => match us, hl with | [_], _ => rfl),
    a__law_fixed_right := f25, d__law_fixed_right := _, F__law_fixed_right := F25, g__law_fixed_right := PySem.W.mg_of X Gn a25, b__law_fixed_right := F25.binds (ps := []) (fun _ _ _ _ _ _ us hl => match us, hl with | [], _ => rfl),
    a__law_right := f26, d__law_right := _, F__law_right := F26, g__law_right := PySem.W.mg_of X Gn a26, b__law_right := F26.binds (ps := ["cup"]) (fun _ _ _ _ _ _ us hl => match us, hl with | [_], _ => rfl),
    a_law := fa, d_law := _, F_law := F27, g_law := PySem.W.mg_of X Gn a27, b_law := F27.binds (ps := ["script"]) (fun _ _ _ _ _ _ us hl => match us, hl with | [_], _ => rfl),
    n_abs := PySem.W.mg_none_of X Gn z_abs,
    n_all := PySem.W.mg_none_of X Gn z_all,
    n_bool := PySem.W.mg_none_of X Gn z_bool,
    n_int := PySem.W.mg_none_of X Gn z_int,
    n_isinstance := PySem.W.mg_none_of X Gn z_isinstance,
    n_len := PySem.W.mg_none_of X Gn z_len,
    n_list := PySem.W.mg_none_of X Gn z_list,
    n_range := PySem.W.mg_none_of X Gn z_range,
    n_tuple := PySem.W.mg_none_of X Gn z_tuple,
    n_zip := PySem.W.mg_none_of X Gn z_zip,
    t_GREAT := _, c_GREAT := PySem.W.mg_of X Gn i_GREAT,
    t_MOST := _, c_MOST := PySem.W.mg_of X Gn i_MOST,
    t_PARTS := _, c_PARTS := PySem.W.mg_of X Gn i_PARTS }
  exact ⟨_, _, fun s v => .of_eq rfl, fun base _ _ => ok_law T _⟩
end Lk63
open PySem PySem.W PyProof.Rows
set_option maxHeartbeats 0 in
theorem PySem.Challenge.cw_restsmapped_k63_whole_constant_polynomia_holds : PySem.Challenge.rw_restsmapped_k63_whole_constant_polynomia.Holds := by
  w_on; o_law; k_head; (case hw => w_witness2)
  k_fill
  refine Sm.walk_sm (l := PySem.Challenge.rw_restsmapped_k63_whole_constant_polynomia) (n := 63) (k := 12) (x := "script") Lk63.f_law rfl (by decide) rfl ⟨rfl, by decide, by decide⟩ (fun w h Y => PySem.W.kIn_of Y) Lk63.law_true ?F
  case F =>
    intro w mg fa h KX G hmg
    refine' Lk63.all_mk KX G hmg ?a0 ?l0 ?c0 ?k0 ?a1 ?l1 ?c1 ?k1 ?a2 ?l2 ?c2 ?k2 ?a3 ?l3 ?c3 ?k3 ?a4 ?l4 ?c4 ?k4 ?a5 ?l5 ?c5 ?k5 ?a6 ?l6 ?c6 ?k6 ?a7 ?l7 ?c7 ?k7 ?a8 ?l8 ?c8 ?k8 ?a9 ?l9 ?c9 ?k9 ?a10 ?l10 ?c10 ?k10 ?a11 ?l11 ?c11 ?k11 ?a12 ?l12 ?c12 ?k12 ?a13 ?l13 ?c13 ?k13 ?a14 ?l14 ?c14 ?k14 ?a15 ?l15 ?c15 ?k15 ?a16 ?l16 ?c16 ?k16 ?a17 ?l17 ?c17 ?k17 ?a18 ?l18 ?c18 ?k18 ?a19 ?l19 ?c19 ?k19 ?a20 ?l20 ?c20 ?k20 ?a21 ?l21 ?c21 ?k21 ?a22 ?l22 ?c22 ?k22 ?a23 ?l23 ?c23 ?k23 ?a24 ?l24 ?c24 ?k24 ?a25 ?l25 ?c25 ?k25 ?a26 ?l26 ?c26 ?k26 ?a27 ?l27 ?c27 ?k27 ?z_abs ?z_all ?z_bool ?z_int ?z_isinstance ?z_len ?z_list ?z_range ?z_tuple ?z_zip ?i_GREAT ?i_MOST ?i_PARTS
    (case a0 => k_is)
    (case l0 => k_is)
    (case c0 => k_is)
    (case k0 => k_is)
    (case a1 => k_is)
    (case l1 => k_is)
    (case c1 => k_is)
    (case k1 => k_is)
    (case a2 => k_is)
    (case l2 => k_is)
    (case c2 => k_is)
    (case k2 => k_is)
    (case a3 => k_is)
    (case l3 => k_is)
    (case c3 => k_is)
    (case k3 => k_is)
    (case a4 => k_is)
    (case l4 => k_is)
    (case c4 => k_is)
    (case k4 => k_is)
    (case a5 => k_is)
    (case l5 => k_is)
    (case c5 => k_is)
    (case k5 => k_is)
    (case a6 => k_is)
    (case l6 => k_is)
    (case c6 => k_is)
    (case k6 => k_is)
    (case a7 => k_is)
    (case l7 => k_is)
    (case c7 => k_is)
    (case k7 => k_is)
    (case a8 => k_is)
    (case l8 => k_is)
    (case c8 => k_is)
    (case k8 => k_is)
    (case a9 => k_is)
    (case l9 => k_is)
    (case c9 => k_is)
    (case k9 => k_is)
    (case a10 => k_is)
    (case l10 => k_is)
    (case c10 => k_is)
    (case k10 => k_is)
    (case a11 => k_is)
    (case l11 => k_is)
    (case c11 => k_is)
    (case k11 => k_is)
    (case a12 => k_is)
    (case l12 => k_is)
    (case c12 => k_is)
    (case k12 => k_is)
    (case a13 => k_is)
    (case l13 => k_is)
    (case c13 => k_is)
    (case k13 => k_is)
    (case a14 => k_is)
    (case l14 => k_is)
    (case c14 => k_is)
    (case k14 => k_is)
    (case a15 => k_is)
    (case l15 => k_is)
    (case c15 => k_is)
    (case k15 => k_is)
    (case a16 => k_is)
    (case l16 => k_is)
    (case c16 => k_is)
    (case k16 => k_is)
    (case a17 => k_is)
    (case l17 => k_is)
    (case c17 => k_is)
    (case k17 => k_is)
    (case a18 => k_is)
    (case l18 => k_is)
    (case c18 => k_is)
    (case k18 => k_is)
    (case a19 => k_is)
    (case l19 => k_is)
    (case c19 => k_is)
    (case k19 => k_is)
    (case a20 => k_is)
    (case l20 => k_is)
    (case c20 => k_is)
    (case k20 => k_is)
    (case a21 => k_is)
    (case l21 => k_is)
    (case c21 => k_is)
    (case k21 => k_is)
    (case a22 => k_is)
    (case l22 => k_is)
    (case c22 => k_is)
    (case k22 => k_is)
    (case a23 => k_is)
    (case l23 => k_is)
    (case c23 => k_is)
    (case k23 => k_is)
    (case a24 => k_is)
    (case l24 => k_is)
    (case c24 => k_is)
    (case k24 => k_is)
    (case a25 => k_is)
    (case l25 => k_is)
    (case c25 => k_is)
    (case k25 => k_is)
    (case a26 => k_is)
    (case l26 => k_is)
    (case c26 => k_is)
    (case k26 => k_is)
    (case a27 => k_is)
    (case l27 => k_is)
    (case c27 => k_is)
    (case k27 => k_is)
    (case z_abs => k_is)
    (case z_all => k_is)
    (case z_bool => k_is)
    (case z_int => k_is)
    (case z_isinstance => k_is)
    (case z_len => k_is)
    (case z_list => k_is)
    (case z_range => k_is)
    (case z_tuple => k_is)
    (case z_zip => k_is)
    (case i_GREAT => k_is)
    (case i_MOST => k_is)
    (case i_PARTS => k_is)
