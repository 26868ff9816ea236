import PyProof.Rows.All
import Wide.All
import OpenK.AllK
import Wide.FinOn
import HandS.ForMost
import HandS.ForExc
import HandS.ExcCtx
import HandS.HotCalls
import HandS.IsInst
import HandS.Walk
import HandS.More
import KE.SortData
import HandS.ExcIs
import HandS.TryOnly
import HandS.TryMany
import HandS.CallLocal
import HandS.Codes
import HandS.DeepEq
import HandS.Conv
import HandS.SortKw
import KE.SortKeyHeap
import PySem.Challenge.RW_snaptree_k05_refused_in_order
/-! Sn1 -/
set_option Elab.async false
set_option linter.all false
set_option maxRecDepth 100000
set_option autoImplicit false
set_option maxHeartbeats 1000000
/-! Sn1: data values with places, memories, and how they are held by an abstract heap -/
namespace Sn
open PySem PySem.Spec PyProof.Rows L2

/-- a value of the mirror: data, a place of the memory, a def's address -/
inductive Dv where
  | non | bl (b : Bool) | int (i : Int) | str (s : Str) | fn (n : Nat) | loc (n : Nat) | scr (ns : List Int)
  | lst (l : List Dv) | tup (l : List Dv)
  | dic (ks : List Key) (l : List Dv) | dit (ks : List (List Key)) (l : List Dv)
deriving Inhabited

/-- what stands at a place -/
inductive MO where
  | dead
  | lst (l : List Dv)
  | dic (kvs : List (Key × Dv))
  | dit (kvs : List (List Key × Dv))
  | ins (C : Nat) (fs : List Dv)
  | lck (kvs : List (Key × Dv))
  | lct (kvs : List (List Key × Dv))
deriving Inhabited
/-- what may change -/
def Fre : MO → Prop
  | .dead => False
  | .lck _ => False
  | .lct _ => False
  | _ => True
abbrev Mem := List MO
abbrev Lc := List (Option Dv)
/-- the classes of the program's own exceptions -/
abbrev XC := Nat

/-- what stands stays -/
def Le (D D' : Hp) : Prop := ∀ a o, D a = some o → D' a = some o
theorem Le.refl (D : Hp) : Le D D := fun _ _ h => h
theorem Le.trans {D D' D'' : Hp} (a : Le D D') (b : Le D' D'') : Le D D'' := fun x o h => b x o (a x o h)
theorem Le.free {D D' : Hp} (e : Le D D') {a : Addr} (h : D' a = none) : D a = none := by
  cases q : D a with
  | none => rfl
  | some o =>
    rw [e a o q] at h; cases h
theorem Le.new {D : Hp} {p : Addr} {o : HO} (h : D p = none) : Le D (upd D p o) := fun a u e => by
  rw [upd_ne (ne_of_none e h)]; exact e
theorem Le.mut {D H : Hp} {p : Addr} {o : HO} (e : Le D H) (h : D p = none) : Le D (upd H p o) := fun a u r => by
  have hne : a ≠ p := by
    rintro rfl
    rw [h] at r; cases r
  rw [upd_ne hne]
  exact e a u r
theorem Le.upd2 {D H : Hp} {p : Addr} {o : HO} (e : Le D H) : Le (upd D p o) (upd H p o) := fun a u r => by
  by_cases h : a = p
  · subst h
    rw [upd_same] at r ⊢
    exact r
  · rw [upd_ne h] at r ⊢
    exact e a u r
theorem Le.lst {D D' : Hp} (e : Le D D') {a : Addr} {xs : List V} (h : D a = some (.lst xs)) : D' a = some (.lst xs) := e _ _ h
theorem Le.tup {D D' : Hp} (e : Le D D') {a : Addr} {xs : List V} (h : D a = some (.tup xs)) : D' a = some (.tup xs) := e _ _ h
theorem Le.sqL {K : PySem.W.Frag} {D D' : Hp} (e : Le D D') {a : Addr} {xs : List V} (h : SqL K D a xs) : SqL K D' a xs := by
  rcases h with (h | ⟨ob, h⟩) | h
  · exact .inl (.inl (e _ _ h))
  · exact .inl (.inr ⟨ob, e _ _ h⟩)
  · exact .inr h
def DkAt (D : Hp) (a : Addr) (kvs : List (Key × V)) : Prop := D a = some (.dK kvs) ∨ ∃ ob, D a = some (.frz ob (.dK kvs))
def DtAt (D : Hp) (a : Addr) (kvs : List (List Key × V)) : Prop := D a = some (.dT kvs) ∨ ∃ ob, D a = some (.frz ob (.dT kvs))
theorem Le.dk {D D' : Hp} (e : Le D D') {a : Addr} {kvs : List (Key × V)} (h : DkAt D a kvs) : DkAt D' a kvs := by
  rcases h with h | ⟨ob, h⟩
  · exact .inl (e _ _ h)
  · exact .inr ⟨ob, e _ _ h⟩
theorem Le.dt {D D' : Hp} (e : Le D D') {a : Addr} {kvs : List (List Key × V)} (h : DtAt D a kvs) : DtAt D' a kvs := by
  rcases h with h | ⟨ob, h⟩
  · exact .inl (e _ _ h)
  · exact .inr ⟨ob, e _ _ h⟩

/-- the program as it stands: its written part, the classes' addresses, their fields' names in order, the errors' classes, the defs that are handed on -/
structure Cg where
  K : PySem.W.Frag
  cls : Nat → Addr
  names : Nat → List Str
  xa : XC → Addr
  fns : Nat → Addr

mutual
inductive Rep (K : Cg) (D : Hp) (adr : List Addr) : V → Dv → Prop
  | non : Rep K D adr .non .non
  | bl (b : Bool) : Rep K D adr (.bl b) (.bl b)
  | int (i : Int) : Rep K D adr (.int i) (.int i)
  | str (s : Str) : Rep K D adr (.str s) (.str s)
  | fn (n : Nat) : Rep K D adr (.ref (K.fns n)) (.fn n)
  | loc {n : Nat} {a : Addr} : adr[n]? = some a → Rep K D adr (.ref a) (.loc n)
  | scr {p : Addr} {ns : List Int} : SqL K.K D p (ns.map V.int) → Rep K D adr (.ref p) (.scr ns)
  | lst {p : Addr} {vs : List V} {ds : List Dv} : D p = some (.lst vs) → Reps K D adr vs ds → Rep K D adr (.ref p) (.lst ds)
  | tup {p : Addr} {vs : List V} {ds : List Dv} : D p = some (.tup vs) → Reps K D adr vs ds → Rep K D adr (.ref p) (.tup ds)
inductive Reps (K : Cg) (D : Hp) (adr : List Addr) : List V → List Dv → Prop
  | nil : Reps K D adr [] []
  | cons {v : V} {vs : List V} {d : Dv} {ds : List Dv} : Rep K D adr v d → Reps K D adr vs ds → Reps K D adr (v :: vs) (d :: ds)
end

/-- longer address lists -/
def Pf (a b : List Addr) : Prop := ∃ c, b = a ++ c
theorem Pf.refl (a : List Addr) : Pf a a := ⟨[], by simp⟩
theorem Pf.trans {a b c : List Addr} (h : Pf a b) (g : Pf b c) : Pf a c := by
  obtain ⟨x, rfl⟩ := h
  obtain ⟨y, rfl⟩ := g
  exact ⟨x ++ y, by simp⟩
theorem Pf.get {a b : List Addr} (h : Pf a b) {n : Nat} {x : Addr} (e : a[n]? = some x) : b[n]? = some x := by
  obtain ⟨c, rfl⟩ := h
  have hn := (List.getElem?_eq_some_iff.mp e).1
  rw [List.getElem?_append_left hn]
  exact e
theorem Pf.snoc {a : List Addr} {p : Addr} : Pf a (a ++ [p]) := ⟨[p], rfl⟩

section
variable {K : Cg} {D D' : Hp} {adr adr' : List Addr}
mutual
theorem Rep.mono (e : Le D D') (f : Pf adr adr') : ∀ (d : Dv) (v : V), Rep K D adr v d → Rep K D' adr' v d
  | .non, _, h => by cases h; exact .non
  | .bl b, _, h => by cases h; exact .bl b
  | .int i, _, h => by cases h; exact .int i
  | .str s, _, h => by cases h; exact .str s
  | .fn a, _, h => by cases h; exact .fn a
  | .loc n, _, h => by
    cases h with
    | loc q => exact .loc (f.get q)
  | .scr ns, _, h => by
    cases h with
    | scr q => exact .scr (e.sqL q)
  | .lst ds, _, h => by
    cases h with
    | lst q r => exact .lst (e.lst q) (Reps.mono e f ds _ r)
  | .tup ds, _, h => by
    cases h with
    | tup q r => exact .tup (e.tup q) (Reps.mono e f ds _ r)
  | .dic ks ds, _, h => by cases h
  | .dit ks ds, _, h => by cases h
theorem Reps.mono (e : Le D D') (f : Pf adr adr') : ∀ (ds : List Dv) (vs : List V), Reps K D adr vs ds → Reps K D' adr' vs ds
  | [], _, h => by cases h; exact .nil
  | d :: ds, _, h => by
    cases h with
    | cons q r => exact .cons (Rep.mono e f d _ q) (Reps.mono e f ds _ r)
end
theorem Reps.length : ∀ {vs : List V} {ds : List Dv}, Reps K D adr vs ds → vs.length = ds.length
  | [], [], _ => rfl
  | [], _ :: _, h => nomatch h
  | _ :: _, [], h => nomatch h
  | v :: vs, d :: ds, h => by
    cases h with
    | cons _ r => simp [Reps.length r]
theorem Reps.get : ∀ {vs : List V} {ds : List Dv} {i : Nat} {d : Dv}, Reps K D adr vs ds → ds[i]? = some d → ∃ v, vs[i]? = some v ∧ Rep K D adr v d
  | [], [], _, _, _, e => by simp at e
  | [], _ :: _, _, _, h, _ => nomatch h
  | _ :: _, [], _, _, h, _ => nomatch h
  | v :: vs, d :: ds, 0, _, h, e => by
    cases h with
    | cons q _ => simp at e; subst e; exact ⟨v, by simp, q⟩
  | v :: vs, d :: ds, i + 1, _, h, e => by
    cases h with
    | cons _ r =>
      obtain ⟨w, e1, e2⟩ := Reps.get (i := i) r (by simpa using e)
      exact ⟨w, by simpa using e1, e2⟩
theorem Reps.append : ∀ {vs ws : List V} {ds es : List Dv}, Reps K D adr vs ds → Reps K D adr ws es → Reps K D adr (vs ++ ws) (ds ++ es)
  | [], _, [], _, _, h => h
  | [], _, _ :: _, _, h, _ => nomatch h
  | _ :: _, _, [], _, h, _ => nomatch h
  | v :: vs, _, d :: ds, _, h, g => by
    cases h with
    | cons q r => exact .cons q (Reps.append r g)
theorem Reps.one {v : V} {d : Dv} (h : Rep K D adr v d) : Reps K D adr [v] [d] := .cons h .nil
theorem Reps.take : ∀ {vs : List V} {ds : List Dv} (n : Nat), Reps K D adr vs ds → Reps K D adr (vs.take n) (ds.take n)
  | [], [], n, _ => by simp; exact .nil
  | [], _ :: _, _, h => nomatch h
  | _ :: _, [], _, h => nomatch h
  | v :: vs, d :: ds, 0, _ => .nil
  | v :: vs, d :: ds, n + 1, h => by
    cases h with
    | cons q r => exact .cons q (Reps.take n r)
theorem Reps.drop : ∀ {vs : List V} {ds : List Dv} (n : Nat), Reps K D adr vs ds → Reps K D adr (vs.drop n) (ds.drop n)
  | _, _, 0, h => h
  | [], [], n + 1, _ => .nil
  | [], _ :: _, _ + 1, h => nomatch h
  | _ :: _, [], _ + 1, h => nomatch h
  | v :: vs, d :: ds, n + 1, h => by
    cases h with
    | cons q r => exact Reps.drop n r
theorem Reps.set : ∀ {vs : List V} {ds : List Dv} (i : Nat) {v : V} {d : Dv}, Reps K D adr vs ds → Rep K D adr v d → Reps K D adr (vs.set i v) (ds.set i d)
  | [], [], i, _, _, _, _ => by simp; exact .nil
  | [], _ :: _, _, _, _, h, _ => nomatch h
  | _ :: _, [], _, _, _, h, _ => nomatch h
  | v :: vs, d :: ds, 0, _, _, h, g => by
    cases h with
    | cons _ r => exact .cons g r
  | v :: vs, d :: ds, i + 1, _, _, h, g => by
    cases h with
    | cons q r => exact .cons q (Reps.set i r g)
theorem Reps.dropLast : ∀ {vs : List V} {ds : List Dv}, Reps K D adr vs ds → Reps K D adr vs.dropLast ds.dropLast := fun {vs ds} h => by
  rw [List.dropLast_eq_take, List.dropLast_eq_take, h.length]
  exact h.take _

/-! ### a value of a kind -/
theorem Rep.int_inv {v : V} {i : Int} (h : Rep K D adr v (.int i)) : v = .int i := by cases h; rfl
theorem Rep.bl_inv {v : V} {b : Bool} (h : Rep K D adr v (.bl b)) : v = .bl b := by cases h; rfl
theorem Rep.str_inv {v : V} {s : Str} (h : Rep K D adr v (.str s)) : v = .str s := by cases h; rfl
theorem Rep.non_inv {v : V} (h : Rep K D adr v .non) : v = .non := by cases h; rfl
theorem Rep.non_iff {v : V} {d : Dv} (h : Rep K D adr v d) : v = .non ↔ d = .non := by
  cases h <;> simp
end

/-! ### the memory -/
def KReps (K : Cg) (D : Hp) (adr : List Addr) {κ : Type} (kvs : List (κ × V)) (kds : List (κ × Dv)) : Prop :=
  kvs.map (·.1) = kds.map (·.1) ∧ Reps K D adr (kvs.map (·.2)) (kds.map (·.2))
def RO (G : Cg) (D : Hp) (adr : List Addr) (H : Hp) (a : Addr) : MO → Prop
  | .dead => True
  | .lst ds => ∃ vs, H a = some (.lst vs) ∧ Reps G D adr vs ds
  | .dic kds => ∃ kvs, H a = some (.dK kvs) ∧ KReps G D adr kvs kds
  | .dit kds => ∃ kvs, H a = some (.dT kvs) ∧ KReps G D adr kvs kds
  | .lck kds => ∃ kvs ob, D a = some (.frz ob (.dK kvs)) ∧ KReps G D adr kvs kds
  | .lct kds => ∃ kvs ob, D a = some (.frz ob (.dT kvs)) ∧ KReps G D adr kvs kds
  | .ins C ds => ∃ dx fv, H a = some (.ins (G.cls C) dx fv) ∧ fv.map (·.1) = (G.names C).take ds.length ∧ ds.length ≤ (G.names C).length ∧ Reps G D adr (fv.map (·.2)) ds
theorem KReps.mono {K : Cg} {D D' : Hp} {adr adr' : List Addr} {κ : Type} {kvs : List (κ × V)} {kds : List (κ × Dv)} (e : Le D D') (f : Pf adr adr') (h : KReps K D adr kvs kds) : KReps K D' adr' kvs kds :=
  ⟨h.1, Reps.mono e f _ _ h.2⟩
theorem RO.mono {G : Cg} {D D' : Hp} {adr adr' : List Addr} {H : Hp} {a : Addr} (e : Le D D') (f : Pf adr adr') : ∀ {o : MO}, RO G D adr H a o → RO G D' adr' H a o
  | .dead, _ => trivial
  | .lst ds, ⟨vs, h, r⟩ => ⟨vs, h, Reps.mono e f _ _ r⟩
  | .dic kds, ⟨vs, h, r⟩ => ⟨vs, h, r.mono e f⟩
  | .dit kds, ⟨vs, h, r⟩ => ⟨vs, h, r.mono e f⟩
  | .lck kds, ⟨vs, ob, h, r⟩ => ⟨vs, ob, e _ _ h, r.mono e f⟩
  | .lct kds, ⟨vs, ob, h, r⟩ => ⟨vs, ob, e _ _ h, r.mono e f⟩
  | .ins C ds, ⟨dx, fv, h, n, l, r⟩ => ⟨dx, fv, h, n, l, Reps.mono e f _ _ r⟩
theorem RO.heap {G : Cg} {D : Hp} {adr : List Addr} {H H' : Hp} {a : Addr} (e : H' a = H a) : ∀ {o : MO}, RO G D adr H a o → RO G D adr H' a o
  | .dead, _ => trivial
  | .lst ds, ⟨vs, h, r⟩ => ⟨vs, e.trans h, r⟩
  | .dic kds, ⟨vs, h, r⟩ => ⟨vs, e.trans h, r⟩
  | .dit kds, ⟨vs, h, r⟩ => ⟨vs, e.trans h, r⟩
  | .lck kds, h => h
  | .lct kds, h => h
  | .ins C ds, ⟨dx, fv, h, n, l, r⟩ => ⟨dx, fv, e.trans h, n, l, r⟩

structure RM (G : Cg) (D : Hp) (adr : List Addr) (m : Mem) (H : Hp) : Prop where
  le : Le D H
  nd : adr.Nodup
  len : adr.length = m.length
  fr : ∀ (n : Nat) (a : Addr) (o : MO), adr[n]? = some a → m[n]? = some o → Fre o → D a = none
  ex : ∀ a ∈ adr, H a ≠ none
  at_ : ∀ (n : Nat) (a : Addr) (o : MO), adr[n]? = some a → m[n]? = some o → RO G D adr H a o

section
variable {G : Cg} {D : Hp} {adr : List Addr} {m : Mem} {H : Hp}
theorem RM.start (G : Cg) (H : Hp) : RM G H [] [] H := ⟨Le.refl H, List.nodup_nil, rfl, fun n a o h => by simp at h, fun a h => by simp at h, fun n a o h => by simp at h⟩
theorem RM.notin (r : RM G D adr m H) {p : Addr} (h : H p = none) : p ∉ adr := fun q => r.ex p q h
theorem RM.dfree (r : RM G D adr m H) {p : Addr} (h : H p = none) : D p = none := r.le.free h
theorem RM.of_loc (r : RM G D adr m H) {v : V} {n : Nat} {o : MO} (h : Rep G D adr v (.loc n)) (e : m[n]? = some o) : ∃ a, v = .ref a ∧ adr[n]? = some a ∧ RO G D adr H a o := by
  cases h with
  | loc q => exact ⟨_, rfl, q, r.at_ _ _ _ q e⟩
/-- a new thing that is never changed -/
theorem RM.newD (r : RM G D adr m H) {p : Addr} {o : HO} (h : H p = none) : RM G (upd D p o) adr m (upd H p o) := by
  have hd := r.dfree h
  have hne : ∀ n a, adr[n]? = some a → a ≠ p := fun n a e q => r.notin h (q ▸ List.mem_of_getElem? e)
  refine ⟨r.le.upd2, r.nd, r.len, fun n a o' e1 e2 e3 => ?_, fun a e => ?_, fun n a o' e1 e2 => ?_⟩
  · rw [upd_ne (hne n a e1)]; exact r.fr n a o' e1 e2 e3
  · by_cases q : a = p
    · rw [q, upd_same]; exact fun z => nomatch z
    · rw [upd_ne q]; exact r.ex a e
  · exact ((r.at_ n a o' e1 e2).mono (Le.new hd) (Pf.refl _)).heap (upd_ne (hne n a e1))
/-- a new thing with a place -/
theorem RM.newM (r : RM G D adr m H) {p : Addr} {ho : HO} {o : MO} (h : H p = none) (ro : RO G D (adr ++ [p]) (upd H p ho) p o) : RM G D (adr ++ [p]) (m ++ [o]) (upd H p ho) := by
  have hd := r.dfree h
  have hni := r.notin h
  have hne : ∀ n a, adr[n]? = some a → a ≠ p := fun n a e q => hni (q ▸ List.mem_of_getElem? e)
  have split : ∀ n a o', (adr ++ [p])[n]? = some a → (m ++ [o])[n]? = some o' → (adr[n]? = some a ∧ m[n]? = some o') ∨ (a = p ∧ o' = o) := fun n a o' e1 e2 => by
    by_cases hn : n < adr.length
    · rw [List.getElem?_append_left hn] at e1
      rw [List.getElem?_append_left (by rw [← r.len]; exact hn)] at e2
      exact .inl ⟨e1, e2⟩
    · have hn' : adr.length ≤ n := Nat.le_of_not_lt hn
      rw [List.getElem?_append_right hn'] at e1
      rw [List.getElem?_append_right (by rw [← r.len]; exact hn')] at e2
      rw [r.len] at e1
      cases hk : n - m.length with
      | zero => rw [hk] at e1 e2; simp at e1 e2; exact .inr ⟨e1.symm, e2.symm⟩
      | succ k => rw [hk] at e1; simp at e1
  refine ⟨r.le.mut hd, ?_, by simp [r.len], fun n a o' e1 e2 e3 => ?_, fun a e => ?_, fun n a o' e1 e2 => ?_⟩
  · rw [List.nodup_append]
    exact ⟨r.nd, by simp, fun a ha b hb => by rw [List.mem_singleton] at hb; subst hb; exact fun q => hni (q ▸ ha)⟩
  · rcases split n a o' e1 e2 with ⟨q1, q2⟩ | ⟨q1, q2⟩
    · exact r.fr n a o' q1 q2 e3
    · rw [q1]; exact hd
  · by_cases q : a = p
    · rw [q, upd_same]; exact fun z => nomatch z
    · rw [upd_ne q]
      rcases List.mem_append.mp e with e | e
      · exact r.ex a e
      · exact absurd (List.mem_singleton.mp e) q
  · rcases split n a o' e1 e2 with ⟨q1, q2⟩ | ⟨q1, q2⟩
    · exact ((r.at_ n a o' q1 q2).mono (Le.refl D) Pf.snoc).heap (upd_ne (hne n a q1))
    · rw [q1, q2]; exact ro
/-- a thing with a place changes -/
theorem RM.setM (r : RM G D adr m H) {n : Nat} {a : Addr} {o o0 : MO} {ho : HO} (e1 : adr[n]? = some a) (e2 : m[n]? = some o0) (e3 : Fre o0) (ro : RO G D adr (upd H a ho) a o) : RM G D adr (m.set n o) (upd H a ho) := by
  have hd := r.fr n a o0 e1 e2 e3
  refine ⟨r.le.mut hd, r.nd, by simp [r.len], fun k b o' q1 q2 q3 => ?_, fun b q => ?_, fun k b o' q1 q2 => ?_⟩
  · by_cases hk : n = k
    · subst hk
      rw [e1] at q1; cases q1
      exact hd
    · rw [List.getElem?_set_ne hk] at q2
      exact r.fr k b o' q1 q2 q3
  · by_cases z : b = a
    · rw [z, upd_same]; exact fun z => nomatch z
    · rw [upd_ne z]; exact r.ex b q
  · by_cases hk : n = k
    · subst hk
      rw [e1] at q1; cases q1
      rw [List.getElem?_set_self (by have := (List.getElem?_eq_some_iff.mp e2).1; exact this)] at q2
      cases q2
      exact ro
    · rw [List.getElem?_set_ne hk] at q2
      have hba : b ≠ a := by
        rintro rfl
        obtain ⟨l1, g1⟩ := List.getElem?_eq_some_iff.mp e1
        obtain ⟨l2, g2⟩ := List.getElem?_eq_some_iff.mp q1
        exact hk ((List.getElem_inj r.nd).mp (g1.trans g2.symm))
      exact (r.at_ k b o' q1 q2).heap (upd_ne hba)
/-- nothing changes any more at a place: what stands there is data from now on -/
theorem RM.freeze (r : RM G D adr m H) {n : Nat} {a : Addr} {o0 : MO} {ho : HO} (e1 : adr[n]? = some a) (e2 : m[n]? = some o0) (e3 : Fre o0) (h : H a = some ho) : RM G (upd D a ho) adr (m.set n .dead) H ∧ Le D (upd D a ho) := by
  have hd := r.fr n a o0 e1 e2 e3
  have hl : Le D (upd D a ho) := Le.new hd
  refine ⟨⟨fun b u q => ?_, r.nd, by simp [r.len], fun k b o' q1 q2 q3 => ?_, r.ex, fun k b o' q1 q2 => ?_⟩, hl⟩
  · by_cases z : b = a
    · subst z
      rw [upd_same] at q
      exact h.trans q
    · rw [upd_ne z] at q
      exact r.le b u q
  · by_cases hk : n = k
    · subst hk
      rw [List.getElem?_set_self (by have := (List.getElem?_eq_some_iff.mp e2).1; exact this)] at q2
      cases q2
      exact q3.elim
    · rw [List.getElem?_set_ne hk] at q2
      have hba : b ≠ a := by
        rintro rfl
        obtain ⟨l1, g1⟩ := List.getElem?_eq_some_iff.mp e1
        obtain ⟨l2, g2⟩ := List.getElem?_eq_some_iff.mp q1
        exact hk ((List.getElem_inj r.nd).mp (g1.trans g2.symm))
      rw [upd_ne hba]
      exact r.fr k b o' q1 q2 q3
  · by_cases hk : n = k
    · subst hk
      rw [List.getElem?_set_self (by have := (List.getElem?_eq_some_iff.mp e2).1; exact this)] at q2
      cases q2
      trivial
    · rw [List.getElem?_set_ne hk] at q2
      exact (r.at_ k b o' q1 q2).mono hl (Pf.refl _)
end
end Sn
/-! Sn2 -/
set_option Elab.async false
set_option linter.all false
set_option maxRecDepth 100000
set_option autoImplicit false
set_option maxHeartbeats 1000000
/-! Sn2: the mirror's results; what a mirror's reading asks; blocks, names, tests -/
namespace Sn
open PySem PySem.Spec PyProof.Rows L2

/-! with the context of an exception known to be none (L2N) -/
theorem passLN {X : Cx} : Passes (L2N.CX X.prog X.w) X E0 := fun _ _ _ _ _ _ _ h => by
  obtain ⟨_, _, _, _, _, _, _, _, _, _, _, _, z⟩ := h
  exact z.elim
theorem takes0N {X : Cx} : L2N.Takes X (fun _ _ _ _ => False) := fun _ _ x => by
  obtain ⟨_, _, _, _, _, _, _, _, _, _, _, _, _, _, _, _, z⟩ := x
  exact z.elim
theorem okXN {P : Program} {w : World} {K : PySem.W.Frag} {mg : Str → Option Value} {base : Heap} {x qual : Str} {st : Stmt} {f : Addr} {fd : FuncData} {N ps : List Str} {k : Nat} {sp : Sp} (F : Fun K x qual st f fd) (S : FnScope N ps (defScope st)) (len : ∀ vs H Q E, sp vs H Q E → vs.length = ps.length)
    (hbody : ∀ (cdv : Value) (A : Around) (outer : List Env) (s : Shared) (H : Hp) (vs : List V) (Q : VK) (E : XK), Room k (A.deeper (envOfC qual (defScope st) s.heap.objs.size f cdv)) → sp vs H Q E →
      ∃ t, PSs (cxOf (L2N.CX P w) P w K mg base N qual (defScope st) f cdv A outer s H E) (defBody st) t ∧ t { nx := fun _ H' => Q .non H', rt := Q } (start N vs) H) : FnOk P w K mg base (L2N.CX P w) (k + 1) f fd ps sp := by
  obtain ⟨oc, od, kV, doc, pm, an, cdv, ct, osl, rfl, lk, hcd⟩ := F.ex
  exact fn_of lk hcd S len fun A outer s H vs Q E hr hsp => hbody cdv A outer s H vs Q E hr hsp

inductive Res (α : Type) where
  | ok (a : α) (m : Mem)
  | exc (c : XC) (m : Mem)
  | bad
@[simp] def Res.bind {α β : Type} (r : Res α) (k : α → Mem → Res β) : Res β :=
  match r with
  | .ok a m => k a m
  | .exc c m => .exc c m
  | .bad => .bad
abbrev Er (α : Type) := Lc → Mem → Res α
abbrev E := Er Dv
abbrev T := Er Bool
abbrev A := Er (List Dv)
inductive Out where
  | nx (l : Lc) (m : Mem)
  | rt (d : Dv) (m : Mem)
  | bk (l : Lc) (m : Mem)
  | ct (l : Lc) (m : Mem)
  | exc (c : XC) (l : Lc) (m : Mem)
  | bad
abbrev S := Lc → Mem → Out

def RS (G : Cg) (D : Hp) (adr : List Addr) (l : Lc) (σ : L2.St) : Prop :=
  l.length = σ.length ∧ ∀ (i : Nat) (d : Dv), l[i]? = some (some d) → ∃ v, σ[i]? = some (some v) ∧ Rep G D adr v d
theorem RS.mono {G : Cg} {D D' : Hp} {adr adr' : List Addr} {l : Lc} {σ : L2.St} (e : Le D D') (f : Pf adr adr') (h : RS G D adr l σ) : RS G D' adr' l σ :=
  ⟨h.1, fun i d q => let ⟨v, a, b⟩ := h.2 i d q; ⟨v, a, b.mono e f⟩⟩
theorem RS.set {G : Cg} {D : Hp} {adr : List Addr} {l : Lc} {σ : L2.St} {i : Nat} {d : Dv} {v : V} (h : RS G D adr l σ) (r : Rep G D adr v d) : RS G D adr (l.set i (some d)) (σ.set i (some v)) := by
  refine ⟨by simp [h.1], fun j e q => ?_⟩
  by_cases hij : i = j
  · subst hij
    have hl : i < l.length := by
      have := (List.getElem?_eq_some_iff.mp q).1
      simpa using this
    rw [List.getElem?_set_self hl] at q
    cases q
    exact ⟨v, by rw [List.getElem?_set_self (by rw [← h.1]; exact hl)], r⟩
  · rw [List.getElem?_set_ne hij] at q
    obtain ⟨w, a, b⟩ := h.2 j e q
    exact ⟨w, by rw [List.getElem?_set_ne hij]; exact a, b⟩

abbrev Rel (α β : Type) := Hp → List Addr → β → α → Prop
abbrev relE (G : Cg) : Rel Dv V := fun D adr v d => Rep G D adr v d
abbrev relT : Rel Bool Bool := fun _ _ b c => b = c
abbrev relA (G : Cg) : Rel (List Dv) (List V) := fun D adr vs ds => Reps G D adr vs ds

/-- behind an expression -/
def Aft (G : Cg) (W : WX) (σ : L2.St) {α β : Type} (rel : Rel α β) (D : Hp) (adr : List Addr) (r : Res α) (Q : β → Hp → Prop) : Prop :=
  match r with
  | .ok d m' => ∀ v H' D' adr', Le D D' → Pf adr adr' → RM G D' adr' m' H' → rel D' adr' v d → Q v H'
  | .exc c m' => ∀ H' D' adr', Le D D' → Pf adr adr' → RM G D' adr' m' H' → W (.ref (G.xa c)) none σ H'
  | .bad => False
section
variable {G : Cg} {W : WX} {σ : L2.St} {α β γ δ : Type} {rel : Rel α β} {rel2 : Rel γ δ} {D D' : Hp} {adr adr' : List Addr} {r : Res α}
theorem Aft.mono {Q : β → Hp → Prop} (e : Le D D') (f : Pf adr adr') (h : Aft G W σ rel D adr r Q) : Aft G W σ rel D' adr' r Q := by
  cases r with
  | ok d m => exact fun v H' D2 a2 l p => h v H' D2 a2 (e.trans l) (f.trans p)
  | exc c m => exact fun H' D2 a2 l p => h H' D2 a2 (e.trans l) (f.trans p)
  | bad => exact h
theorem Aft.imp {Q Q' : β → Hp → Prop} (h : Aft G W σ rel D adr r Q) (q : ∀ v H, Q v H → Q' v H) : Aft G W σ rel D adr r Q' := by
  cases r with
  | ok d m => exact fun v H' D2 a2 l p rm re => q _ _ (h v H' D2 a2 l p rm re)
  | exc c m => exact h
  | bad => exact h
theorem Aft.bind {k : α → Mem → Res γ} {Q : δ → Hp → Prop} (h : Aft G W σ rel2 D adr (r.bind k) Q) :
    Aft G W σ rel D adr r (fun v H1 => ∃ D1 adr1 d m1, Le D D1 ∧ Pf adr adr1 ∧ RM G D1 adr1 m1 H1 ∧ rel D1 adr1 v d ∧ Aft G W σ rel2 D1 adr1 (k d m1) Q) := by
  cases r with
  | ok d m => exact fun v H1 D1 a1 l p rm re => ⟨D1, a1, d, m, l, p, rm, re, h.mono l p⟩
  | exc c m => exact h
  | bad => exact h
theorem Aft.ok {d : α} {m : Mem} {Q : β → Hp → Prop} {v : β} {H : Hp} (h : Aft G W σ rel D adr (.ok d m) Q) (rm : RM G D adr m H) (re : rel D adr v d) : Q v H :=
  h v H D adr (Le.refl _) (Pf.refl _) rm re
end

/-- a mirror's reading -/
def tX (G : Cg) (W : WX) {α β : Type} (rel : Rel α β) (e : Er α) : L2.St → Hp → (β → Hp → Prop) → Prop := fun σ H Q =>
  ∃ D adr l m, RM G D adr m H ∧ RS G D adr l σ ∧ Aft G W σ rel D adr (e l m) Q
abbrev tM (G : Cg) (W : WX) (e : E) : TE := tX G W (relE G) e
abbrev tMT (G : Cg) (W : WX) (e : T) : TT := tX G W relT e
abbrev tMA (G : Cg) (W : WX) (e : A) : TA := tX G W (relA G) e

/-- behind a statement -/
def AftS (G : Cg) (W : WX) (De : Ends) (D : Hp) (adr : List Addr) (r : Out) : Prop :=
  match r with
  | .nx l m => ∀ σ' H' D' adr', Le D D' → Pf adr adr' → RM G D' adr' m H' → RS G D' adr' l σ' → De.nx σ' H'
  | .bk l m => ∀ σ' H' D' adr', Le D D' → Pf adr adr' → RM G D' adr' m H' → RS G D' adr' l σ' → De.bk σ' H'
  | .ct l m => ∀ σ' H' D' adr', Le D D' → Pf adr adr' → RM G D' adr' m H' → RS G D' adr' l σ' → De.ct σ' H'
  | .rt d m => ∀ v H' D' adr', Le D D' → Pf adr adr' → RM G D' adr' m H' → Rep G D' adr' v d → De.rt v H'
  | .exc c l m => ∀ σ' H' D' adr', Le D D' → Pf adr adr' → RM G D' adr' m H' → RS G D' adr' l σ' → W (.ref (G.xa c)) none σ' H'
  | .bad => False
theorem AftS.mono {G : Cg} {W : WX} {De : Ends} {D D' : Hp} {adr adr' : List Addr} {r : Out} (e : Le D D') (f : Pf adr adr') (h : AftS G W De D adr r) : AftS G W De D' adr' r := by
  cases r with
  | nx l m => exact fun s H' D2 a2 x p => h s H' D2 a2 (e.trans x) (f.trans p)
  | bk l m => exact fun s H' D2 a2 x p => h s H' D2 a2 (e.trans x) (f.trans p)
  | ct l m => exact fun s H' D2 a2 x p => h s H' D2 a2 (e.trans x) (f.trans p)
  | rt d m => exact fun s H' D2 a2 x p => h s H' D2 a2 (e.trans x) (f.trans p)
  | exc c l m => exact fun s H' D2 a2 x p => h s H' D2 a2 (e.trans x) (f.trans p)
  | bad => exact h
def tS (G : Cg) (W : WX) (s : S) : TS := fun De σ H => ∃ D adr l m, RM G D adr m H ∧ RS G D adr l σ ∧ AftS G W De D adr (s l m)

theorem PE_imp {X : Cx} {e : Expr} {t t' : TE} (h : PE X e t) (i : ∀ σ H Q, t' σ H Q → t σ H Q) : PE X e t' := ⟨fun pins s σ H Q I q => h.run pins s σ H Q I (i σ H Q q)⟩
theorem PT_imp {X : Cx} {e : Expr} {t t' : TT} (h : PT X e t) (i : ∀ σ H Q, t' σ H Q → t σ H Q) : PT X e t' := ⟨fun pins s σ H Q I q => h.run pins s σ H Q I (i σ H Q q)⟩
theorem PW_imp {X : Cx} {e : Expr} {t t' : TT} (h : PW X e t) (i : ∀ σ H Q, t' σ H Q → t σ H Q) : PW X e t' := ⟨fun w pins s σ H Q I q => h.run w pins s σ H Q I (i σ H Q q)⟩
theorem PA_imp {X : Cx} {e : List Expr} {t t' : TA} (h : PA X e t) (i : ∀ σ H Q, t' σ H Q → t σ H Q) : PA X e t' := ⟨fun pos pins s σ H Q I q => h.run pos pins s σ H Q I (i σ H Q q)⟩
theorem PS_imp {X : Cx} {e : Stmt} {t t' : TS} (h : PS X e t) (i : ∀ D σ H, t' D σ H → t D σ H) : PS X e t' := ⟨fun pins s σ H D I q => h.run pins s σ H D I (i D σ H q)⟩
theorem PSs_imp {X : Cx} {e : List Stmt} {t t' : TS} (h : PSs X e t) (i : ∀ D σ H, t' D σ H → t D σ H) : PSs X e t' := ⟨fun pins s σ H D I q => h.run pins s σ H D I (i D σ H q)⟩

/-- what a body's rules lean on -/
structure Ct (G : Cg) (X : Cx) (W : WX) : Prop where
  hk : X.K = G.K
  calm : X.calm = true
  tk : L2N.Takes X W
  nd : X.N.Nodup
  hu : X.A.units + 64 < cLine

section
variable {G : Cg} {X : Cx} {W : WX} {α β : Type} {rel : Rel α β} {σ : L2.St} {H : Hp}
/-- one step: what e gives, and the rest -/
theorem step {γ δ : Type} {rel2 : Rel γ δ} {D : Hp} {adr : List Addr} {l : Lc} {m : Mem} {e : Er α} {k : α → Mem → Res γ} {Q : δ → Hp → Prop} (rm : RM G D adr m H) (rs : RS G D adr l σ) (h : Aft G W σ rel2 D adr ((e l m).bind k) Q)
    {R : β → Hp → Prop} (q : ∀ v H1 D1 adr1 d m1, Le D D1 → Pf adr adr1 → RM G D1 adr1 m1 H1 → RS G D1 adr1 l σ → rel D1 adr1 v d → Aft G W σ rel2 D1 adr1 (k d m1) Q → R v H1) : tX G W rel e σ H R :=
  ⟨D, adr, l, m, rm, rs, (h.bind (rel := rel)).imp fun v H1 ⟨D1, a1, d, m1, e1, f1, rm1, re1, h1⟩ => q v H1 D1 a1 d m1 e1 f1 rm1 (rs.mono e1 f1) re1 h1⟩
/-- a last step -/
theorem last {D : Hp} {adr : List Addr} {l : Lc} {m : Mem} {e : Er α} {Q : β → Hp → Prop} (rm : RM G D adr m H) (rs : RS G D adr l σ) (h : Aft G W σ rel D adr (e l m) Q) : tX G W rel e σ H Q := ⟨D, adr, l, m, rm, rs, h⟩

/-! ### names, constants -/
def eVar (i : Nat) : E := fun l m => match l[i]? with
  | some (some d) => .ok d m
  | _ => .bad
def eC (d : Dv) : E := fun _ m => .ok d m
theorem me_var {i : Nat} {x : Str} {pos : Pos} (h : PE X (.Name x pos) (tVar i)) : PE X (.Name x pos) (tM G W (eVar i)) := PE_imp h fun σ H Q ⟨D, adr, l, m, rm, rs, a⟩ => by
  unfold eVar at a
  cases e : l[i]? with
  | none => rw [e] at a; exact False.elim a
  | some o =>
    cases o with
    | none => rw [e] at a; exact False.elim a
    | some d =>
      rw [e] at a
      obtain ⟨v, h1, h2⟩ := rs.2 i d e
      exact ⟨v, h1, a.ok rm h2⟩
theorem me_c {e : Expr} {v : V} {d : Dv} (h : PE X e (tC v)) (r : ∀ K D adr, Rep K D adr v d) : PE X e (tM G W (eC d)) := PE_imp h fun σ H Q ⟨D, adr, l, m, rm, rs, a⟩ => a.ok rm (r _ _ _)
theorem me_int {i : Int} {j pos} : PE X (.Constant (.int i) j pos) (tM G W (eC (.int i))) := me_c pe_int fun _ _ _ => .int i
theorem me_str {i : Str} {j pos} : PE X (.Constant (.str i) j pos) (tM G W (eC (.str i))) := me_c pe_str fun _ _ _ => .str i
theorem me_bl {i : Bool} {j pos} : PE X (.Constant (.bool i) j pos) (tM G W (eC (.bl i))) := me_c pe_bl fun _ _ _ => .bl i
theorem me_non {j pos} : PE X (.Constant .none j pos) (tM G W (eC .non)) := me_c pe_non fun _ _ _ => .non

/-! ### operators by values -/
def OpS (G : Cg) (r : R2) (f : Dv → Dv → Mem → Res Dv) : Prop := ∀ (D : Hp) (adr : List Addr) (m : Mem) (H : Hp) (x y : V) (dx dy : Dv), RM G D adr m H → Rep G D adr x dx → Rep G D adr y dy →
  ∀ (σ : L2.St) (W : WX) (Q : VK), Aft G W σ (relE G) D adr (f dx dy m) Q → r x y H Q
def eBin (f : Dv → Dv → Mem → Res Dv) (a b : E) : E := fun l m => (a l m).bind fun x m1 => (b l m1).bind fun y m2 => f x y m2
theorem bin_imp {r : R2} {f : Dv → Dv → Mem → Res Dv} {ma mb : E} (s : OpS G r f) (σ : L2.St) (H : Hp) (Q : VK) : tM G W (eBin f ma mb) σ H Q → tOp r (tM G W ma) (tM G W mb) σ H Q := fun ⟨D, adr, l, m, rm, rs, a⟩ =>
  step rm rs a fun x H1 D1 a1 dx m1 e1 f1 rm1 rs1 rx b => step rm1 rs1 b fun y H2 D2 a2 dy m2 e2 f2 rm2 rs2 ry c =>
    s D2 a2 m2 H2 x y dx dy rm2 (rx.mono e2 f2) ry σ W Q c
theorem me_bin {op : Operator} {r : R2} {f : Dv → Dv → Mem → Res Dv} {a b : Expr} {ma mb : E} {pos : Pos} (s : OpS G r f) (ho : OpR X (binaryOp op) r) (ha : PE X a (tM G W ma)) (hb : PE X b (tM G W mb)) : PE X (.BinOp a op b pos) (tM G W (eBin f ma mb)) :=
  PE_imp (pe_op ho ha hb) (bin_imp s)
theorem me_cmp {op : CmpOp} {r : R2} {f : Dv → Dv → Mem → Res Dv} {a b : Expr} {ma mb : E} {pos : Pos} (s : OpS G r f) (ho : OpR X (compareOp op) r) (ha : PE X a (tM G W ma)) (hb : PE X b (tM G W mb)) (hm : behindInMarks op b = false) : PE X (.Compare a [op] [b] pos) (tM G W (eBin f ma mb)) :=
  PE_imp (pe_cmpR ho ha hb hm) (bin_imp s)
def asB : Dv → Mem → Res Bool := fun d m => match d with
  | .bl b => .ok b m
  | _ => .bad
def tV (e : E) : T := fun l m => (e l m).bind asB
theorem asB_rel {D : Hp} {adr : List Addr} {H : Hp} {v : V} {d : Dv} {m : Mem} {Q : Bool → Hp → Prop} (rm : RM G D adr m H) (r : Rep G D adr v d) (a : Aft G W σ relT D adr (asB d m) Q) : ∃ b, v = .bl b ∧ Q b H := by
  unfold asB at a
  cases d with
  | bl b => exact ⟨b, r.bl_inv, a.ok rm rfl⟩
  | _ => exact False.elim a
theorem mt_cmp {op : CmpOp} {r : R2} {f : Dv → Dv → Mem → Res Dv} {a b : Expr} {ma mb : E} {pos : Pos} (s : OpS G r f) (ho : OpR X (compareOp op) r) (ha : PE X a (tM G W ma)) (hb : PE X b (tM G W mb)) (hm : behindInMarks op b = false) : PT X (.Compare a [op] [b] pos) (tMT G W (tV (eBin f ma mb))) :=
  PT_imp (pt_cmpR ho ha hb hm) fun σ H Q ⟨D, adr, l, m, rm, rs, a⟩ => bin_imp s σ H _ (step rm rs a fun v H1 D1 a1 d m1 e1 f1 rm1 rs1 re b => asB_rel rm1 re b)
/-- an expression whose value is True or False, as a test -/
theorem mt_val {e : Expr} {me : E} (h : PE X e (tM G W me)) (he : ∀ whole, isTrue e X.env whole = (do let v ← whole; standAt e.pos; holding [v] (truthy v)) := by intro _; rfl) : PT X e (tMT G W (tV me)) :=
  PT_imp (pt_val h he) fun σ H Q ⟨D, adr, l, m, rm, rs, a⟩ => step rm rs a fun v H1 D1 a1 d m1 e1 f1 rm1 rs1 re b => asB_rel rm1 re b
def eUn (f : Dv → Mem → Res Dv) (a : E) : E := fun l m => (a l m).bind f
def UnS (G : Cg) (r : V → Hp → VK → Prop) (f : Dv → Mem → Res Dv) : Prop := ∀ (D : Hp) (adr : List Addr) (m : Mem) (H : Hp) (x : V) (dx : Dv), RM G D adr m H → Rep G D adr x dx →
  ∀ (σ : L2.St) (W : WX) (Q : VK), Aft G W σ (relE G) D adr (f dx m) Q → r x H Q
theorem me_un {op : UnaryOp} {r : V → Hp → VK → Prop} {f : Dv → Mem → Res Dv} {a : Expr} {ma : E} {pos : Pos} (s : UnS G r f) (ho : UnR X (unaryOp op) r) (ha : PE X a (tM G W ma)) : PE X (.UnaryOp op a pos) (tM G W (eUn f ma)) :=
  PE_imp (pe_un ho ha) fun σ H Q ⟨D, adr, l, m, rm, rs, a⟩ => step rm rs a fun x H1 D1 a1 dx m1 e1 f1 rm1 rs1 rx b => s D1 a1 m1 H1 x dx rm1 rx σ W Q b

/-! ### and, or, not -/
def tAndM (a b : T) : T := fun l m => (a l m).bind fun x m1 => if x then b l m1 else .ok false m1
def tOrM (a b : T) : T := fun l m => (a l m).bind fun x m1 => if x then .ok true m1 else b l m1
def tNotM (a : T) : T := fun l m => (a l m).bind fun x m1 => .ok (!x) m1
theorem mw_and1 {a : Expr} {ma : T} {pos : Pos} (h : PT X a (tMT G W ma)) : PW X (.BoolOp .And [a] pos) (tMT G W ma) := pw_and1 h
theorem mw_or1 {a : Expr} {ma : T} {pos : Pos} (h : PT X a (tMT G W ma)) : PW X (.BoolOp .Or [a] pos) (tMT G W ma) := pw_or1 h
theorem mw_and {a b : Expr} {rest : List Expr} {ma mb : T} {pos : Pos} (ha : PT X a (tMT G W ma)) (hb : PW X (.BoolOp .And (b :: rest) pos) (tMT G W mb)) : PW X (.BoolOp .And (a :: b :: rest) pos) (tMT G W (tAndM ma mb)) :=
  PW_imp (pw_and ha hb) fun σ H Q ⟨D, adr, l, m, rm, rs, a⟩ => step rm rs a fun x H1 D1 a1 dx m1 e1 f1 rm1 rs1 rx b => by
    subst rx
    cases x with
    | true => exact last rm1 rs1 b
    | false => exact b.ok rm1 rfl
theorem mw_or {a b : Expr} {rest : List Expr} {ma mb : T} {pos : Pos} (ha : PT X a (tMT G W ma)) (hb : PW X (.BoolOp .Or (b :: rest) pos) (tMT G W mb)) : PW X (.BoolOp .Or (a :: b :: rest) pos) (tMT G W (tOrM ma mb)) :=
  PW_imp (pw_or ha hb) fun σ H Q ⟨D, adr, l, m, rm, rs, a⟩ => step rm rs a fun x H1 D1 a1 dx m1 e1 f1 rm1 rs1 rx b => by
    subst rx
    cases x with
    | true => exact b.ok rm1 rfl
    | false => exact last rm1 rs1 b
theorem mt_not {a : Expr} {ma : T} {pos : Pos} (ha : PT X a (tMT G W ma)) : PT X (.UnaryOp .Not a pos) (tMT G W (tNotM ma)) :=
  PT_imp (pt_not ha) fun σ H Q ⟨D, adr, l, m, rm, rs, a⟩ => step rm rs a fun x H1 D1 a1 dx m1 e1 f1 rm1 rs1 rx b => by
    subst rx
    exact b.ok rm1 rfl
/-- as values -/
def eAnd (a b : E) : E := fun l m => (a l m).bind fun x m1 => match x with
  | .bl c => if c then b l m1 else .ok (.bl false) m1
  | _ => .bad
def eOr (a b : E) : E := fun l m => (a l m).bind fun x m1 => match x with
  | .bl c => if c then .ok (.bl true) m1 else b l m1
  | _ => .bad
def eNot (a : E) : E := fun l m => (a l m).bind fun x m1 => match x with
  | .bl c => .ok (.bl (!c)) m1
  | _ => .bad
theorem me_one {a : Expr} {ma : E} {op} {pos : Pos} (h : PE X a (tM G W ma)) : PE X (.BoolOp op [a] pos) (tM G W ma) := pe_one h
theorem me_and {a b : Expr} {rest : List Expr} {ma mb : E} {pos : Pos} (ha : PE X a (tM G W ma)) (hb : PE X (.BoolOp .And (b :: rest) pos) (tM G W mb)) : PE X (.BoolOp .And (a :: b :: rest) pos) (tM G W (eAnd ma mb)) :=
  PE_imp (pe_and ha hb) fun σ H Q ⟨D, adr, l, m, rm, rs, a⟩ => step rm rs a fun x H1 D1 a1 dx m1 e1 f1 rm1 rs1 rx b => by
    cases dx with
    | bl c =>
      refine ⟨c, rx.bl_inv, ?_⟩
      cases c with
      | true => exact last rm1 rs1 b
      | false => exact b.ok rm1 (.bl false)
    | _ => exact False.elim b
theorem me_or {a b : Expr} {rest : List Expr} {ma mb : E} {pos : Pos} (ha : PE X a (tM G W ma)) (hb : PE X (.BoolOp .Or (b :: rest) pos) (tM G W mb)) : PE X (.BoolOp .Or (a :: b :: rest) pos) (tM G W (eOr ma mb)) :=
  PE_imp (pe_or ha hb) fun σ H Q ⟨D, adr, l, m, rm, rs, a⟩ => step rm rs a fun x H1 D1 a1 dx m1 e1 f1 rm1 rs1 rx b => by
    cases dx with
    | bl c =>
      refine ⟨c, rx.bl_inv, ?_⟩
      cases c with
      | true => exact b.ok rm1 (.bl true)
      | false => exact last rm1 rs1 b
    | _ => exact False.elim b
theorem me_not {a : Expr} {ma : E} {pos : Pos} (ha : PE X a (tM G W ma)) : PE X (.UnaryOp .Not a pos) (tM G W (eNot ma)) :=
  PE_imp (pe_not ha) fun σ H Q ⟨D, adr, l, m, rm, rs, a⟩ => step rm rs a fun x H1 D1 a1 dx m1 e1 f1 rm1 rs1 rx b => by
    cases dx with
    | bl c => exact ⟨c, rx.bl_inv, b.ok rm1 (.bl _)⟩
    | _ => exact False.elim b

/-! ### arguments, displays -/
def aNil : A := fun _ m => .ok [] m
def aCons (e : E) (r : A) : A := fun l m => (e l m).bind fun x m1 => (r l m1).bind fun xs m2 => .ok (x :: xs) m2
theorem ma_nil : PA X [] (tMA G W aNil) := PA_imp pa_nil fun σ H Q ⟨D, adr, l, m, rm, rs, a⟩ => a.ok rm .nil
theorem ma_cons {e : Expr} {es : List Expr} {me : E} {mr : A} (he : PE X e (tM G W me)) (hr : PA X es (tMA G W mr)) (hs : starEach (e :: es) X.env = (false, eval e X.env) :: starEach es X.env := by rfl) : PA X (e :: es) (tMA G W (aCons me mr)) :=
  PA_imp (pa_cons he hr hs) fun σ H Q ⟨D, adr, l, m, rm, rs, a⟩ => step rm rs a fun x H1 D1 a1 dx m1 e1 f1 rm1 rs1 rx b =>
    step rm1 rs1 b fun xs H2 D2 a2 ds m2 e2 f2 rm2 rs2 rxs c => c.ok rm2 (.cons (rx.mono e2 f2) rxs)
def big : Nat := 16777216
theorem big_eq : big = sizeLine := by decide +kernel
/-- a new tuple, a new list that is data, a new list with a place -/
def mkTup (ds : List Dv) (m : Mem) : Res Dv := if ds.length ≤ big then .ok (.tup ds) m else .bad
def mkLst (ds : List Dv) (m : Mem) : Res Dv := if ds.length ≤ big then .ok (.lst ds) m else .bad
def newLst (ds : List Dv) (m : Mem) : Res Dv := if ds.length ≤ big then .ok (.loc m.length) (m ++ [.lst ds]) else .bad
theorem mkTup_ok {D : Hp} {adr : List Addr} {H : Hp} {m : Mem} {vs : List V} {ds : List Dv} {Q : VK} (rm : RM G D adr m H) (r : Reps G D adr vs ds) (a : Aft G W σ (relE G) D adr (mkTup ds m) Q) :
    vs.length ≤ sizeLine ∧ ∀ p, H p = none → Q (.ref p) (upd H p (.tup vs)) := by
  unfold mkTup at a
  split at a
  · rename_i h
    refine ⟨by rw [r.length, ← big_eq]; exact h, fun p hp => ?_⟩
    have hd := rm.dfree hp
    have hl : Le D (upd D p (.tup vs)) := Le.new hd
    exact a _ _ (upd D p (.tup vs)) adr hl (Pf.refl _) (rm.newD hp) (.tup upd_same (Reps.mono hl (Pf.refl _) _ _ r))
  · exact False.elim a
theorem mkLst_ok {D : Hp} {adr : List Addr} {H : Hp} {m : Mem} {vs : List V} {ds : List Dv} {Q : VK} (rm : RM G D adr m H) (r : Reps G D adr vs ds) (a : Aft G W σ (relE G) D adr (mkLst ds m) Q) :
    vs.length ≤ sizeLine ∧ ∀ p, H p = none → Q (.ref p) (upd H p (.lst vs)) := by
  unfold mkLst at a
  split at a
  · rename_i h
    refine ⟨by rw [r.length, ← big_eq]; exact h, fun p hp => ?_⟩
    have hd := rm.dfree hp
    have hl : Le D (upd D p (.lst vs)) := Le.new hd
    exact a _ _ (upd D p (.lst vs)) adr hl (Pf.refl _) (rm.newD hp) (.lst upd_same (Reps.mono hl (Pf.refl _) _ _ r))
  · exact False.elim a
theorem newLst_ok {D : Hp} {adr : List Addr} {H : Hp} {m : Mem} {vs : List V} {ds : List Dv} {Q : VK} (rm : RM G D adr m H) (r : Reps G D adr vs ds) (a : Aft G W σ (relE G) D adr (newLst ds m) Q) :
    vs.length ≤ sizeLine ∧ ∀ p, H p = none → Q (.ref p) (upd H p (.lst vs)) := by
  unfold newLst at a
  split at a
  · rename_i h
    refine ⟨by rw [r.length, ← big_eq]; exact h, fun p hp => ?_⟩
    exact a _ _ D (adr ++ [p]) (Le.refl D) Pf.snoc (rm.newM hp ⟨vs, upd_same, Reps.mono (Le.refl D) Pf.snoc _ _ r⟩) (.loc (by rw [← rm.len]; simp))
  · exact False.elim a
def eMk (k : List Dv → Mem → Res Dv) (es : A) : E := fun l m => (es l m).bind k
theorem me_tup {es : List Expr} {ms : A} {x1} {pos : Pos} (h : PA X es (tMA G W ms)) : PE X (.Tuple es x1 pos) (tM G W (eMk mkTup ms)) :=
  PE_imp (pe_tup h) fun σ H Q ⟨D, adr, l, m, rm, rs, a⟩ => step rm rs a fun vs H1 D1 a1 ds m1 e1 f1 rm1 rs1 r b => mkTup_ok rm1 r b
theorem me_lst {es : List Expr} {ms : A} {pos : Pos} (h : PA X es (tMA G W ms)) : PE X (.List es pos) (tM G W (eMk mkLst ms)) :=
  PE_imp (pe_lst h) fun σ H Q ⟨D, adr, l, m, rm, rs, a⟩ => step rm rs a fun vs H1 D1 a1 ds m1 e1 f1 rm1 rs1 r b => mkLst_ok rm1 r b
theorem me_lstN {es : List Expr} {ms : A} {pos : Pos} (h : PA X es (tMA G W ms)) : PE X (.List es pos) (tM G W (eMk newLst ms)) :=
  PE_imp (pe_lst h) fun σ H Q ⟨D, adr, l, m, rm, rs, a⟩ => step rm rs a fun vs H1 D1 a1 ds m1 e1 f1 rm1 rs1 r b => newLst_ok rm1 r b
/-- an if-else expression -/
def eIf (t : T) (a b : E) : E := fun l m => (t l m).bind fun x m1 => if x then a l m1 else b l m1

/-! ### blocks and small statements -/
def sNil : S := fun l m => .nx l m
def sSeq (a b : S) : S := fun l m => match a l m with
  | .nx l1 m1 => b l1 m1
  | .rt d m1 => .rt d m1
  | .bk l1 m1 => .bk l1 m1
  | .ct l1 m1 => .ct l1 m1
  | .exc c l1 m1 => .exc c l1 m1
  | .bad => .bad
theorem mss_nil : PSs X [] (tS G W sNil) := PSs_imp pss_nil fun De σ H ⟨D, adr, l, m, rm, rs, a⟩ => a σ H D adr (Le.refl _) (Pf.refl _) rm rs
theorem mss_cons {st : Stmt} {rest : List Stmt} {a b : S} (ha : PS X st (tS G W a)) (hb : PSs X rest (tS G W b)) : PSs X (st :: rest) (tS G W (sSeq a b)) :=
  PSs_imp (pss_cons ha hb) fun De σ H ⟨D, adr, l, m, rm, rs, h⟩ => by
    refine ⟨D, adr, l, m, rm, rs, ?_⟩
    unfold sSeq at h
    cases e : a l m with
    | nx l1 m1 =>
      rw [e] at h
      exact fun σ' H' D' a' x p rm' rs' => ⟨D', a', l1, m1, rm', rs', h.mono x p⟩
    | rt d m1 => rw [e] at h; exact h
    | bk l1 m1 => rw [e] at h; exact h
    | ct l1 m1 => rw [e] at h; exact h
    | exc c l1 m1 => rw [e] at h; exact h
    | bad => rw [e] at h; exact h
theorem mss_one {st : Stmt} {a : S} (ha : PS X st (tS G W a)) : PSs X [st] (tS G W a) := pss_one ha
/-- a statement over an expression's result -/
@[simp] def Res.out {α : Type} (r : Res α) (l : Lc) (k : α → Mem → Out) : Out := match r with
  | .ok d m => k d m
  | .exc c m => .exc c l m
  | .bad => .bad
theorem stepS {De : Ends} {D : Hp} {adr : List Addr} {l : Lc} {m : Mem} {e : Er α} {k : α → Mem → Out} (rm : RM G D adr m H) (rs : RS G D adr l σ) (h : AftS G W De D adr ((e l m).out l k))
    {R : β → Hp → Prop} (q : ∀ v H1 D1 adr1 d m1, Le D D1 → Pf adr adr1 → RM G D1 adr1 m1 H1 → RS G D1 adr1 l σ → rel D1 adr1 v d → AftS G W De D1 adr1 (k d m1) → R v H1) : tX G W rel e σ H R := by
  refine ⟨D, adr, l, m, rm, rs, ?_⟩
  cases x : e l m with
  | ok d m1 => rw [x] at h; exact fun v H' D' a' e1 f1 rm' re => q v H' D' a' d m1 e1 f1 rm' (rs.mono e1 f1) re (h.mono e1 f1)
  | exc c m1 => rw [x] at h; exact fun H' D' a' e1 f1 rm' => h σ H' D' a' e1 f1 rm' (rs.mono e1 f1)
  | bad => rw [x] at h; exact h
def sSet (i : Nat) (e : E) : S := fun l m => (e l m).out l fun d m1 => .nx (l.set i (some d)) m1
theorem ms_set {i : Nat} {x : Str} {e : Expr} {me : E} {pos pos' : Pos} (h : PS X (.Assign [.Name x pos'] e pos) (tAsg (tM G W me) (gName i))) : PS X (.Assign [.Name x pos'] e pos) (tS G W (sSet i me)) :=
  PS_imp h fun De σ H ⟨D, adr, l, m, rm, rs, a⟩ => stepS rm rs a fun v H1 D1 a1 d m1 e1 f1 rm1 rs1 re b => b _ _ _ _ (Le.refl _) (Pf.refl _) rm1 (rs1.set re)
def sExpr (e : E) : S := fun l m => (e l m).out l fun _ m1 => .nx l m1
theorem ms_expr {e : Expr} {me : E} {pos : Pos} (h : PE X e (tM G W me)) (hs : swapsWith e none pos.line X.env = pure false := by rfl) : PS X (.Expr e pos) (tS G W (sExpr me)) :=
  PS_imp (ps_expr h hs) fun De σ H ⟨D, adr, l, m, rm, rs, a⟩ => stepS rm rs a fun v H1 D1 a1 d m1 e1 f1 rm1 rs1 re b => b _ _ _ _ (Le.refl _) (Pf.refl _) rm1 rs1
def sRet (e : E) : S := fun l m => (e l m).out l fun d m1 => .rt d m1
theorem ms_ret {e : Expr} {me : E} {pos : Pos} (h : PE X e (tM G W me)) : PS X (.Return (some e) pos) (tS G W (sRet me)) :=
  PS_imp (ps_ret h) fun De σ H ⟨D, adr, l, m, rm, rs, a⟩ => stepS rm rs a fun v H1 D1 a1 d m1 e1 f1 rm1 rs1 re b => b _ _ _ _ (Le.refl _) (Pf.refl _) rm1 re
theorem ms_pass {pos : Pos} : PS X (.Pass pos) (tS G W sNil) := PS_imp ps_pass fun De σ H ⟨D, adr, l, m, rm, rs, a⟩ => a σ H D adr (Le.refl _) (Pf.refl _) rm rs
def sIf (t : T) (a b : S) : S := fun l m => (t l m).out l fun x m1 => if x then a l m1 else b l m1
theorem ms_if {c : Expr} {a b : List Stmt} {mc : T} {ma mb : S} {pos : Pos} (hc : PT X c (tMT G W mc)) (ha : PSs X a (tS G W ma)) (hb : PSs X b (tS G W mb)) : PS X (.If c a b pos) (tS G W (sIf mc ma mb)) :=
  PS_imp (ps_if hc ha hb) fun De σ H ⟨D, adr, l, m, rm, rs, a⟩ => stepS rm rs a fun v H1 D1 a1 d m1 e1 f1 rm1 rs1 re b => by
    subst re
    cases v with
    | true => exact ⟨D1, a1, l, m1, rm1, rs1, b⟩
    | false => exact ⟨D1, a1, l, m1, rm1, rs1, b⟩
end
end Sn
/-! Sn3 -/
set_option Elab.async false
set_option linter.all false
set_option maxRecDepth 100000
set_option autoImplicit false
set_option maxHeartbeats 1000000
/-! Sn3: operators, items, slices, kinds, lengths -/
namespace Sn
open PySem PySem.Spec PyProof.Rows L2

/-- an exact list; a list that is read; a tuple -/
def lx (m : Mem) : Dv → Option (List Dv)
  | .lst ds => some ds
  | .loc n => match m[n]? with
    | some (.lst ds) => some ds
    | _ => none
  | _ => none
def sq (m : Mem) : Dv → Option (List Dv)
  | .scr ns => some (ns.map Dv.int)
  | d => lx m d
def tq : Dv → Option (List Dv)
  | .tup ds => some ds
  | _ => none
section
variable {G : Cg} {X : Cx} {W : WX} {D : Hp} {adr : List Addr} {m : Mem} {H : Hp} {v : V} {d : Dv} {ds : List Dv} {σ : L2.St}
theorem RM.lx (rm : RM G D adr m H) (r : Rep G D adr v d) (e : lx m d = some ds) : ∃ p vs, v = .ref p ∧ H p = some (.lst vs) ∧ Reps G D adr vs ds := by
  unfold Sn.lx at e
  split at e
  · cases e
    cases r with
    | lst q s => exact ⟨_, _, rfl, rm.le.lst q, s⟩
  · rename_i n
    split at e
    · rename_i ds' h
      cases e
      obtain ⟨a, rfl, h1, vs, h2, h3⟩ := rm.of_loc r h
      exact ⟨a, vs, rfl, h2, h3⟩
    · cases e
  · cases e
theorem reps_ints (K : Cg) (D : Hp) (adr : List Addr) : ∀ ns : List Int, Reps K D adr (ns.map V.int) (ns.map Dv.int)
  | [] => .nil
  | n :: r => .cons (.int n) (reps_ints K D adr r)
theorem RM.sq (rm : RM G D adr m H) (r : Rep G D adr v d) (e : sq m d = some ds) : ∃ p vs, v = .ref p ∧ SqL G.K H p vs ∧ Reps G D adr vs ds := by
  unfold Sn.sq at e
  split at e
  · cases e
    cases r with
    | scr q => exact ⟨_, _, rfl, rm.le.sqL q, reps_ints _ _ _ _⟩
  · obtain ⟨p, vs, h1, h2, h3⟩ := rm.lx r e
    exact ⟨p, vs, h1, SqL.of h2, h3⟩
theorem RM.tq (rm : RM G D adr m H) (r : Rep G D adr v d) (e : tq d = some ds) : ∃ p vs, v = .ref p ∧ H p = some (.tup vs) ∧ Reps G D adr vs ds := by
  unfold Sn.tq at e
  split at e
  · cases e
    cases r with
    | tup q s => exact ⟨_, _, rfl, rm.le.tup q, s⟩
  · cases e

/-! ### + - * // % ** -/
def rAddS : R2 := fun x y H Q => ∃ i j, x = .str i ∧ y = .str j ∧ i.length + j.length ≤ sizeLine ∧ Q (.str (i ++ j)) H
def rAddX (K : PySem.W.Frag) : R2 := fun x y H Q => rI0 (fun i j => .int (i + j)) x y H Q ∨ rAddS x y H Q ∨ rCat x y H Q ∨ rCatT K x y H Q
theorem op_addX : OpR X (binaryOp .Add) (rAddX X.K) := op_add.or (OpR.or op_add_str (op_cat.or op_catT))
def addD (x y : Dv) (m : Mem) : Res Dv :=
  match x, y with
  | .int i, .int j => .ok (.int (i + j)) m
  | .str i, .str j => if i.length + j.length ≤ big then .ok (.str (i ++ j)) m else .bad
  | .tup xs, .tup ys => if xs.length + ys.length ≤ big ∧ xs ≠ [] then .ok (.tup (xs ++ ys)) m else .bad
  | x, y => match lx m x, lx m y with
    | some xs, some ys => mkLst (xs ++ ys) m
    | _, _ => .bad
theorem addD_lst {x y : V} {dx dy : Dv} {xs ys : List Dv} {Q : VK} (rm : RM G D adr m H) (rx : Rep G D adr x dx) (ry : Rep G D adr y dy) (hx : lx m dx = some xs) (hy : lx m dy = some ys) (a : Aft G W σ (relE G) D adr (mkLst (xs ++ ys) m) Q) : rCat x y H Q := by
  obtain ⟨p, vs, rfl, h1, h2⟩ := rm.lx rx hx
  obtain ⟨q, ws, rfl, h3, h4⟩ := rm.lx ry hy
  obtain ⟨z, k⟩ := mkLst_ok rm (h2.append h4) a
  exact ⟨p, q, vs, ws, rfl, rfl, h1, h3, by rw [List.length_append] at z; exact z, k⟩
theorem addD_s : OpS G (rAddX G.K) addD := fun D adr m H x y dx dy rm rx ry σ W Q a => by
  unfold addD at a
  split at a
  · exact .inl ⟨_, _, rx.int_inv, ry.int_inv, a.ok rm (.int _)⟩
  · split at a
    · rename_i h
      exact .inr (.inl ⟨_, _, rx.str_inv, ry.str_inv, by rw [← big_eq]; exact h, a.ok rm (.str _)⟩)
    · exact a.elim
  · split at a
    · rename_i h
      cases rx with
      | @tup p vs _ q s =>
        cases ry with
        | @tup p' ws _ q' s' =>
          refine .inr (.inr (.inr ⟨_, _, vs, ws, rfl, rfl, SqT.of (rm.le.tup q), SqT.of (rm.le.tup q'), fun z => h.2 ?_, by rw [s.length, s'.length, ← big_eq]; exact h.1, fun z => ?_, fun z t ht => ?_⟩))
          · subst z
            have := s.length
            exact List.eq_nil_of_length_eq_zero (by simpa using this.symm)
          · subst z
            cases s'
            simp only [List.append_nil] at a
            exact a.ok rm (.tup q s)
          · have hl : Le D (upd D t (.tup (vs ++ ws))) := Le.new (rm.dfree ht)
            exact a _ _ _ adr hl (Pf.refl _) (rm.newD ht) (.tup upd_same (Reps.mono hl (Pf.refl _) _ _ (s.append s')))
    · exact a.elim
  · split at a
    · rename_i xs ys hx hy
      exact .inr (.inr (.inl (addD_lst rm rx ry hx hy a)))
    · exact a.elim
def intOp (f : Int → Int → Option Dv) (x y : Dv) (m : Mem) : Res Dv := match x, y with
  | .int i, .int j => match f i j with
    | some d => .ok d m
    | none => .bad
  | _, _ => .bad
theorem intOp_s {C : Int → Int → Prop} {g : Int → Int → V} {f : Int → Int → Option Dv} (h : ∀ i j d, f i j = some d → C i j ∧ ∀ D adr, Rep G D adr (g i j) d) : OpS G (rI C g) (intOp f) := fun D adr m H x y dx dy rm rx ry σ W Q a => by
  unfold intOp at a
  split at a
  · rename_i i j
    split at a
    · rename_i d e
      obtain ⟨h1, h2⟩ := h _ _ _ e
      exact ⟨i, j, rx.int_inv, ry.int_inv, h1, a.ok rm (h2 _ _)⟩
    · exact a.elim
  · exact a.elim
theorem intOp0_s {g : Int → Int → V} {f : Int → Int → Option Dv} (h : ∀ i j d, f i j = some d → ∀ D adr, Rep G D adr (g i j) d) : OpS G (rI0 g) (intOp f) := fun D adr m H x y dx dy rm rx ry σ W Q a => by
  obtain ⟨i, j, h1, h2, _, q⟩ := intOp_s (C := fun _ _ => True) (fun i j d e => ⟨trivial, h i j d e⟩) D adr m H x y dx dy rm rx ry σ W Q a
  exact ⟨i, j, h1, h2, q⟩
def subD : Dv → Dv → Mem → Res Dv := intOp fun i j => some (.int (i - j))
theorem subD_s : OpS G (rI0 fun i j => .int (i - j)) subD := intOp0_s fun i j d e D adr => by cases e; exact .int _
def fdivD : Dv → Dv → Mem → Res Dv := intOp fun i j => if 0 < j ∧ j < 1073741824 then some (.int (i / j)) else none
theorem fdivD_s : OpS G (rI CDiv fun i j => .int (i / j)) fdivD := intOp_s fun i j d e => by
  split at e
  · rename_i h; cases e; exact ⟨h, fun _ _ => .int _⟩
  · cases e
def modD : Dv → Dv → Mem → Res Dv := intOp fun i j => if 0 < j then some (.int (i % j)) else none
theorem modD_s : OpS G (rI (fun _ j => 0 < j) fun i j => .int (i % j)) modD := intOp_s fun i j d e => by
  split at e
  · rename_i h; cases e; exact ⟨h, fun _ _ => .int _⟩
  · cases e
def powD : Dv → Dv → Mem → Res Dv := intOp fun i j => if 0 ≤ j ∧ j ≤ 1000000 ∧ i.natAbs < 2 ^ 64 then some (.int (i ^ j.toNat)) else none
theorem powD_s : OpS G (rI CPow fun i j => .int (i ^ j.toNat)) powD := intOp_s fun i j d e => by
  split at e
  · rename_i h; cases e; exact ⟨h, fun _ _ => .int _⟩
  · cases e
def negD : Dv → Mem → Res Dv := fun x m => match x with
  | .int i => .ok (.int (-i)) m
  | _ => .bad
theorem negD_s : UnS G (rU fun i => .int (-i)) negD := fun D adr m H x dx rm rx σ W Q a => by
  unfold negD at a
  split at a
  · exact ⟨_, rx.int_inv, a.ok rm (.int _)⟩
  · exact a.elim
/-- a text times a number -/
def rRepS : R2 := fun x y H Q => ∃ z k, x = .str z ∧ y = .int k ∧ 0 ≤ k ∧ k ≤ 1000 ∧ z.length ≤ 1000 ∧ Q (.str (Txt.mul z k)) H
theorem mulOk_small {z : Str} {k : Int} (h0 : 0 ≤ k) (h1 : k ≤ 1000) (h2 : z.length ≤ 1000) : MulOk z k := by
  refine ⟨?_, fun hk _ => ?_, fun hk _ => ?_⟩
  · rw [decide_eq_false (by omega), decide_eq_false (by omega)] <;> rfl
  · have h3 : ((2 ^ 63 - 1 : Int) / 1000) ≤ (2 ^ 63 - 1) / k := Int.le_ediv_of_mul_le (by omega) (by
      have : (2 ^ 63 - 1 : Int) / 1000 * k ≤ (2 ^ 63 - 1 : Int) / 1000 * 1000 := Int.mul_le_mul_of_nonneg_left h1 (by decide)
      omega)
    have h4 : (1000 : Int) ≤ (2 ^ 63 - 1) / 1000 := by decide
    omega
  · unfold Builtin.Str.tooLong
    have : z.length * k.toNat ≤ 1000 * 1000 := Nat.mul_le_mul h2 (by omega)
    rw [sizeLine_eq]
    exact decide_eq_false (by omega)
theorem op_repS : OpR X (binaryOp .Mult) rRepS := by
  intro pins s σ H x y v u Q I rx ry h
  obtain ⟨z, k, rfl, rfl, h0, h1, h2, q⟩ := h
  obtain ⟨t, rfl⟩ := rx
  obtain ⟨t', rfl⟩ := ry
  exact SB.mul (mulOk_small h0 h1 h2) fun t2 k2 => ⟨.str _, H, I.tok _, ⟨_, rfl⟩, q⟩
def rMulX : R2 := fun x y H Q => rI CMul (fun i j => .int (i * j)) x y H Q ∨ rRepS x y H Q ∨ rRep x y H Q
theorem op_mulX' : OpR X (binaryOp .Mult) rMulX := op_mul.or (op_repS.or op_rep)
def mulD (x y : Dv) (m : Mem) : Res Dv := match x, y with
  | .int i, .int j => if (-(2 ^ 64) < i ∧ i < 2 ^ 64) ∨ (-(2 ^ 64) < j ∧ j < 2 ^ 64) then .ok (.int (i * j)) m else .bad
  | .str z, .int k => if 0 ≤ k ∧ k ≤ 1000 ∧ z.length ≤ 1000 then .ok (.str (Txt.mul z k)) m else .bad
  | x, .int k => match lx m x with
    | some xs => if 0 ≤ k ∧ k ≤ 1000 ∧ xs.length ≤ 1000 then .ok (.lst (List.replicate k.toNat xs).flatten) m else .bad
    | none => .bad
  | _, _ => .bad
theorem Reps.rep {K : Cg} {vs : List V} {ds : List Dv} (h : Reps K D adr vs ds) : ∀ k : Nat, Reps K D adr (List.replicate k vs).flatten (List.replicate k ds).flatten
  | 0 => .nil
  | k + 1 => by
    rw [List.replicate_succ, List.replicate_succ, List.flatten_cons, List.flatten_cons]
    exact h.append (Reps.rep h k)
theorem mulD_s : OpS G rMulX mulD := fun D adr m H x y dx dy rm rx ry σ W Q a => by
  unfold mulD at a
  split at a
  · split at a
    · rename_i h
      exact .inl ⟨_, _, rx.int_inv, ry.int_inv, h, a.ok rm (.int _)⟩
    · exact a.elim
  · split at a
    · rename_i h
      exact .inr (.inl ⟨_, _, rx.str_inv, ry.int_inv, h.1, h.2.1, h.2.2, a.ok rm (.str _)⟩)
    · exact a.elim
  · rename_i k h1 h2
    split at a
    · rename_i xs hx
      split at a
      · rename_i h
        obtain ⟨p, vs, rfl, h3, h4⟩ := rm.lx rx hx
        have hz : vs.length * k.toNat ≤ 1000 * 1000 := by rw [h4.length]; exact Nat.mul_le_mul h.2.2 (by omega)
        refine .inr (.inr ⟨p, k, vs, rfl, ry.int_inv, h3, by omega, by omega, Nat.le_trans hz (by decide +kernel), fun q hq => ?_⟩)
        have hl : Le D (upd D q (.lst (List.replicate k.toNat vs).flatten)) := Le.new (rm.dfree hq)
        exact a _ _ _ adr hl (Pf.refl _) (rm.newD hq) (.lst upd_same (Reps.mono hl (Pf.refl _) _ _ (h4.rep _)))
      · exact a.elim
    · exact a.elim
  · exact a.elim

/-! ### comparisons -/
def ltD : Dv → Dv → Mem → Res Dv := intOp fun i j => some (.bl (decide (i < j)))
theorem ltD_s : OpS G (rI0 fun i j => .bl (decide (i < j))) ltD := intOp0_s fun i j d e D adr => by cases e; exact .bl _
def gtD : Dv → Dv → Mem → Res Dv := intOp fun i j => some (.bl (decide (j < i)))
theorem gtD_s : OpS G (rI0 fun i j => .bl (decide (j < i))) gtD := intOp0_s fun i j d e D adr => by cases e; exact .bl _
def geD : Dv → Dv → Mem → Res Dv := intOp fun i j => some (.bl (decide (j ≤ i)))
theorem geD_s : OpS G (rI0 fun i j => .bl (decide (j ≤ i))) geD := intOp0_s fun i j d e D adr => by cases e; exact .bl _
def rLeX : R2 := fun x y H Q => rI0 (fun i j => .bl (decide (i ≤ j))) x y H Q ∨ (∃ i j, x = .str i ∧ y = .str j ∧ Q (.bl (!decide (j.cps.toList < i.cps.toList))) H)
theorem op_leX : OpR X (compareOp .LtE) rLeX := op_le.or op_le_str
def leD (x y : Dv) (m : Mem) : Res Dv := match x, y with
  | .int i, .int j => .ok (.bl (decide (i ≤ j))) m
  | .str i, .str j => .ok (.bl (!decide (j.cps.toList < i.cps.toList))) m
  | _, _ => .bad
theorem leD_s : OpS G rLeX leD := fun D adr m H x y dx dy rm rx ry σ W Q a => by
  unfold leD at a
  split at a
  · exact .inl ⟨_, _, rx.int_inv, ry.int_inv, a.ok rm (.bl _)⟩
  · exact .inr ⟨_, _, rx.str_inv, ry.str_inv, a.ok rm (.bl _)⟩
  · exact a.elim
/-- is None, is not None -/
def rIsNn : R2 := fun x y H Q => y = .non ∧ Q (.bl (decide (x = .non))) H
def rNotNn : R2 := fun x y H Q => y = .non ∧ Q (.bl (!decide (x = .non))) H
def isNon : Dv → Bool
  | .non => true
  | _ => false
theorem isNon_iff {x : V} {d : Dv} (r : Rep G D adr x d) : decide (x = .non) = isNon d := by
  cases r <;> rfl
def isD (x y : Dv) (m : Mem) : Res Dv := match y with
  | .non => .ok (.bl (isNon x)) m
  | _ => .bad
def isnD (x y : Dv) (m : Mem) : Res Dv := match y with
  | .non => .ok (.bl (!isNon x)) m
  | _ => .bad
theorem isD_s : OpS G rIsNn isD := fun D adr m H x y dx dy rm rx ry σ W Q a => by
  unfold isD at a
  split at a
  · exact ⟨ry.non_inv, by rw [isNon_iff rx]; exact a.ok rm (.bl _)⟩
  · exact a.elim
theorem isnD_s : OpS G rNotNn isnD := fun D adr m H x y dx dy rm rx ry σ W Q a => by
  unfold isnD at a
  split at a
  · exact ⟨ry.non_inv, by rw [isNon_iff rx]; exact a.ok rm (.bl _)⟩
  · exact a.elim
/-! data in the library's own words -/
mutual
def toPy (m : Mem) : Dv → Option PyData
  | .non => some .none
  | .bl b => some (.bool b)
  | .int i => some (.int i)
  | .str s => some (.str s)
  | .scr ns => some (.list (ns.map PyData.int))
  | .lst ds => (toPys m ds).map .list
  | .tup ds => (toPys m ds).map .tuple
  | _ => none
def toPys (m : Mem) : List Dv → Option (List PyData)
  | [] => some []
  | d :: ds => match toPy m d, toPys m ds with
    | some p, some ps => some (p :: ps)
    | _, _ => none
end
/-- a list at a place, seen as data -/
def vw (m : Mem) (d : Dv) : Dv := match d with
  | .loc n => match m[n]? with
    | some (.lst ds) => .lst ds
    | _ => d
  | _ => d
theorem dp_ints (K : PySem.W.Frag) (H : Hp) : ∀ ns : List Int, DpAll K H (ns.map V.int) (ns.map PyData.int)
  | [] => .nil
  | n :: r => .cons (.int n) (dp_ints K H r)
mutual
theorem toPy_dp (rm : RM G D adr m H) : ∀ (d : Dv) (v : V) (p : PyData), Rep G D adr v d → toPy m d = some p → Dp G.K H v p
  | .non, _, _, r, e => by cases r; cases e; exact .non
  | .bl b, _, _, r, e => by cases r; cases e; exact .bl b
  | .int b, _, _, r, e => by cases r; cases e; exact .int b
  | .str b, _, _, r, e => by cases r; cases e; exact .str b
  | .scr ns, _, _, r, e => by
    cases r with
    | scr q => cases e; exact .lst (rm.le.sqL q) (dp_ints _ _ _)
  | .lst ds, _, _, r, e => by
    cases r with
    | lst q s =>
      unfold toPy at e
      cases h : toPys m ds with
      | none => rw [h] at e; cases e
      | some ps => rw [h] at e; cases e; exact .lst (SqL.of (rm.le.lst q)) (toPys_dp rm ds _ ps s h)
  | .tup ds, _, _, r, e => by
    cases r with
    | tup q s =>
      unfold toPy at e
      cases h : toPys m ds with
      | none => rw [h] at e; cases e
      | some ps => rw [h] at e; cases e; exact .tup (SqT.of (rm.le.tup q)) (toPys_dp rm ds _ ps s h)
  | .fn _, _, _, _, e => by cases e
  | .loc _, _, _, _, e => by cases e
  | .dic _ _, _, _, _, e => by cases e
  | .dit _ _, _, _, _, e => by cases e
theorem toPys_dp (rm : RM G D adr m H) : ∀ (ds : List Dv) (vs : List V) (ps : List PyData), Reps G D adr vs ds → toPys m ds = some ps → DpAll G.K H vs ps
  | [], _, _, r, e => by cases r; cases e; exact .nil
  | d :: ds, _, _, r, e => by
    cases r with
    | cons q s =>
      unfold toPys at e
      split at e
      · rename_i p ps h1 h2
        cases e
        exact .cons (toPy_dp rm d _ p q h1) (toPys_dp rm ds _ ps s h2)
      · cases e
end
theorem vw_dp (rm : RM G D adr m H) {d : Dv} {v : V} {p : PyData} (r : Rep G D adr v d) (e : toPy m (vw m d) = some p) : Dp G.K H v p := by
  unfold vw at e
  split at e
  · rename_i n
    split at e
    · rename_i ds h
      obtain ⟨a, rfl, h1, vs, h2, h3⟩ := rm.of_loc r h
      unfold toPy at e
      cases h : toPys m ds with
      | none => rw [h] at e; cases e
      | some ps => rw [h] at e; cases e; exact .lst (SqL.of h2) (toPys_dp rm ds _ ps h3 h)
    · exact toPy_dp rm _ _ _ r e
  · exact toPy_dp rm _ _ _ r e
/-- scalars -/
def scD : Dv → Option V
  | .non => some .non
  | .bl b => some (.bl b)
  | .int i => some (.int i)
  | .str s => some (.str s)
  | _ => none
theorem scD_v {d : Dv} {v w : V} (r : Rep G D adr v d) (e : scD d = some w) : v = w := by
  unfold scD at e
  split at e <;> cases e <;> cases r <;> rfl
def eqB (m : Mem) (x y : Dv) : Option Bool :=
  match scD x, scD y with
  | some v, some w => if scal v w then some (decide (v = w)) else none
  | _, _ => match toPy m (vw m x), toPy m (vw m y) with
    | some p, some q => if SeqAt.shaped p && SeqAt.shaped q then some (PyData.eqv p q) else none
    | _, _ => none
def eqD (x y : Dv) (m : Mem) : Res Dv := match eqB m x y with
  | some b => .ok (.bl b) m
  | none => .bad
def neD (x y : Dv) (m : Mem) : Res Dv := match eqB m x y with
  | some b => .ok (.bl (!b)) m
  | none => .bad
def rEqX (K : PySem.W.Frag) : R2 := fun x y H Q => rEq x y H Q ∨ rEqD K x y H Q
def rNeX (K : PySem.W.Frag) : R2 := fun x y H Q => rNe x y H Q ∨ rNeD K x y H Q
theorem op_eqX (hu : X.A.units + 64 < cLine) : OpR X (compareOp .Eq) (rEqX X.K) := op_eq.or (op_eqD hu)
theorem op_neX (hu : X.A.units + 64 < cLine) : OpR X (compareOp .NotEq) (rNeX X.K) := op_ne.or (op_neD hu)
theorem eqB_s (rm : RM G D adr m H) {x y : V} {dx dy : Dv} {b : Bool} (rx : Rep G D adr x dx) (ry : Rep G D adr y dy) (e : eqB m dx dy = some b) :
    (scal x y = true ∧ b = decide (x = y)) ∨ ∃ p q, Dp G.K H x p ∧ Dp G.K H y q ∧ SeqAt.shaped p = true ∧ SeqAt.shaped q = true ∧ b = PyData.eqv p q := by
  unfold eqB at e
  split at e
  · rename_i v w h1 h2
    split at e
    · rename_i h
      cases e
      rw [scD_v rx h1, scD_v ry h2]
      exact .inl ⟨h, rfl⟩
    · cases e
  · split at e
    · rename_i p q h1 h2
      split at e
      · rename_i h
        cases e
        rw [Bool.and_eq_true] at h
        exact .inr ⟨p, q, vw_dp rm rx h1, vw_dp rm ry h2, h.1, h.2, rfl⟩
      · cases e
    · cases e
theorem eqD_s : OpS G (rEqX G.K) eqD := fun D adr m H x y dx dy rm rx ry σ W Q a => by
  unfold eqD at a
  split at a
  · rename_i b e
    rcases eqB_s rm rx ry e with ⟨h1, h2⟩ | ⟨p, q, h1, h2, h3, h4, h5⟩
    · exact .inl ⟨h1, by rw [← h2]; exact a.ok rm (.bl _)⟩
    · exact .inr ⟨p, q, h1, h2, h3, h4, by rw [← h5]; exact a.ok rm (.bl _)⟩
  · exact a.elim
theorem neD_s : OpS G (rNeX G.K) neD := fun D adr m H x y dx dy rm rx ry σ W Q a => by
  unfold neD at a
  split at a
  · rename_i b e
    rcases eqB_s rm rx ry e with ⟨h1, h2⟩ | ⟨p, q, h1, h2, h3, h4, h5⟩
    · exact .inl ⟨h1, by rw [← h2]; exact a.ok rm (.bl _)⟩
    · exact .inr ⟨p, q, h1, h2, h3, h4, by rw [← h5]; exact a.ok rm (.bl _)⟩
  · exact a.elim
/-- one sign in a text; a flat thing in a list -/
def rInX (K : PySem.W.Frag) : R2 := fun x y H Q => (∃ (c : Nat) (z : Str), x = .str ⟨#[c]⟩ ∧ y = .str z ∧ Q (.bl (decide (c ∈ z.cps.toList))) H) ∨ rIn K false x y H Q
def rNotInX (K : PySem.W.Frag) : R2 := fun x y H Q => (∃ (c : Nat) (z : Str), x = .str ⟨#[c]⟩ ∧ y = .str z ∧ Q (.bl (!decide (c ∈ z.cps.toList))) H) ∨ rIn K true x y H Q
theorem op_inX : OpR X (compareOp .In) (rInX X.K) := op_in_sign.or op_in_seq
theorem op_notInX : OpR X (compareOp .NotIn) (rNotInX X.K) := op_notIn_sign.or op_notIn_seq
/-- flat data in the layer's words -/
def fl : List Dv → Option (List V)
  | [] => some []
  | d :: ds => match scD d, fl ds with
    | some v, some vs => some (v :: vs)
    | _, _ => none
theorem fl_v : ∀ {ds : List Dv} {vs ws : List V}, Reps G D adr vs ds → fl ds = some ws → vs = ws
  | [], _, _, r, e => by cases r; cases e; rfl
  | d :: ds, _, _, r, e => by
    cases r with
    | cons q s =>
      unfold fl at e
      split at e
      · rename_i v ws h1 h2
        cases e
        rw [scD_v q h1, fl_v s h2]
      · cases e
theorem scD_flat {d : Dv} {v : V} (e : scD d = some v) : flatV v = true := by
  unfold scD at e
  split at e <;> cases e <;> rfl
theorem fl_flat : ∀ {ds : List Dv} {vs : List V}, fl ds = some vs → vs.all flatV = true
  | [], _, e => by cases e; rfl
  | d :: ds, _, e => by
    unfold fl at e
    split at e
    · rename_i v ws h1 h2
      cases e
      rw [List.all_cons, scD_flat h1, fl_flat h2] <;> rfl
    · cases e
def inB (m : Mem) (x y : Dv) : Option Bool := match x, y with
  | .str c, .str z => if c.cps.size = 1 then some (decide (c.cps.getD 0 0 ∈ z.cps.toList)) else none
  | x, y => match scD x, (sq m y).bind fl with
    | some v, some vs => some (inV v vs)
    | _, _ => none
def inD (x y : Dv) (m : Mem) : Res Dv := match inB m x y with
  | some b => .ok (.bl b) m
  | none => .bad
def ninD (x y : Dv) (m : Mem) : Res Dv := match inB m x y with
  | some b => .ok (.bl (!b)) m
  | none => .bad
theorem inB_s (rm : RM G D adr m H) {x y : V} {dx dy : Dv} {b : Bool} (rx : Rep G D adr x dx) (ry : Rep G D adr y dy) (e : inB m dx dy = some b) :
    (∃ (c : Nat) (z : Str), x = .str ⟨#[c]⟩ ∧ y = .str z ∧ b = decide (c ∈ z.cps.toList)) ∨ ∃ p xs, y = .ref p ∧ (SqL G.K H p xs ∨ SqT G.K H p xs) ∧ flatV x = true ∧ xs.all flatV = true ∧ b = inV x xs := by
  unfold inB at e
  split at e
  · rename_i c z
    split at e
    · rename_i h
      cases e
      refine .inl ⟨c.cps.getD 0 0, z, ?_, ry.str_inv, rfl⟩
      rw [rx.str_inv]
      obtain ⟨a⟩ := c
      obtain ⟨l⟩ := a
      match l, h with
      | [n], _ => rfl
    · cases e
  · split at e
    · rename_i v vs h1 h2
      cases e
      obtain ⟨ds, h3, h4⟩ := Option.bind_eq_some_iff.mp h2
      obtain ⟨p, xs, rfl, h5, h6⟩ := rm.sq ry h3
      rw [scD_v rx h1]
      rw [fl_v h6 h4] at h5
      exact .inr ⟨p, vs, rfl, .inl h5, scD_flat h1, fl_flat h4, rfl⟩
    · cases e
theorem inD_s : OpS G (rInX G.K) inD := fun D adr m H x y dx dy rm rx ry σ W Q a => by
  unfold inD at a
  split at a
  · rename_i b e
    rcases inB_s rm rx ry e with ⟨c, z, h1, h2, h3⟩ | ⟨p, xs, h1, h2, h3, h4, h5⟩
    · exact .inl ⟨c, z, h1, h2, by rw [← h3]; exact a.ok rm (.bl _)⟩
    · exact .inr ⟨p, xs, h1, h2, h3, h4, by rw [if_neg Bool.false_ne_true, ← h5]; exact a.ok rm (.bl _)⟩
  · exact a.elim
theorem ninD_s : OpS G (rNotInX G.K) ninD := fun D adr m H x y dx dy rm rx ry σ W Q a => by
  unfold ninD at a
  split at a
  · rename_i b e
    rcases inB_s rm rx ry e with ⟨c, z, h1, h2, h3⟩ | ⟨p, xs, h1, h2, h3, h4, h5⟩
    · exact .inl ⟨c, z, h1, h2, by rw [← h3]; exact a.ok rm (.bl _)⟩
    · exact .inr ⟨p, xs, h1, h2, h3, h4, by rw [if_pos rfl, ← h5]; exact a.ok rm (.bl _)⟩
  · exact a.elim

/-! ### items, slices -/
def ixD (x y : Dv) (m : Mem) : Res Dv := match x, y with
  | .str z, .int i => if z.length ≤ big then (match atI z.cps.toList i with
    | some c => .ok (.str ⟨#[c]⟩) m
    | none => .bad) else .bad
  | .tup ds, .int i => (match atI ds i with
    | some d => .ok d m
    | none => .bad)
  | x, .int i => (match sq m x with
    | some ds => (match atI ds i with
      | some d => .ok d m
      | none => .bad)
    | none => .bad)
  | _, _ => .bad
theorem Reps.atI {K : Cg} {vs : List V} {ds : List Dv} {i : Int} {d : Dv} (h : Reps K D adr vs ds) (e : atI ds i = some d) : ∃ v, atI vs i = some v ∧ Rep K D adr v d := by
  unfold L2.atI at e ⊢
  obtain ⟨j, h1, h2⟩ := Option.bind_eq_some_iff.mp e
  obtain ⟨v, h3, h4⟩ := h.get h2
  exact ⟨v, by rw [h.length, h1]; exact h3, h4⟩
theorem ixD_s : OpS G (rIx G.K) ixD := fun D adr m H x y dx dy rm rx ry σ W Q a => by
  unfold ixD at a
  split at a
  · split at a
    · rename_i h
      split at a
      · rename_i c e
        exact .inr (.inr ⟨_, _, c, rx.str_inv, ry.int_inv, by rw [← big_eq]; exact h, e, a.ok rm (.str _)⟩)
      · exact a.elim
    · exact a.elim
  · split at a
    · rename_i d e
      obtain ⟨p, vs, rfl, h1, h2⟩ := rm.tq rx rfl
      obtain ⟨v, h3, h4⟩ := h2.atI e
      exact .inr (.inl ⟨p, vs, _, v, rfl, ry.int_inv, SqT.of h1, h3, a.ok rm h4⟩)
    · exact a.elim
  · split at a
    · rename_i ds e
      split at a
      · rename_i d e2
        obtain ⟨p, vs, rfl, h1, h2⟩ := rm.sq rx e
        obtain ⟨v, h3, h4⟩ := h2.atI e2
        exact .inl ⟨p, vs, _, v, rfl, ry.int_inv, h1, h3, a.ok rm h4⟩
      · exact a.elim
    · exact a.elim
  · exact a.elim
theorem me_ix {a b : Expr} {ma mb : E} {pos : Pos} (hk : X.K = G.K) (ha : PE X a (tM G W ma)) (hb : PE X b (tM G W mb)) (hs : PlainIx b) : PE X (.Subscript a b pos) (tM G W (eBin ixD ma mb)) :=
  PE_imp (pe_ix (by have h : IxR X (rIx X.K) := ix_seq
                    rw [hk] at h
                    exact h) ha hb hs) (bin_imp ixD_s)
/-- a part of a slice -/
abbrev O := Er (Option Int)
abbrev relO : Rel (Option Int) (Option Int) := fun _ _ b c => b = c
def oNone : O := fun _ m => .ok none m
def oSome (e : E) : O := fun l m => (e l m).bind fun d m1 => match d with
  | .int i => .ok (some i) m1
  | _ => .bad
theorem mo_none : PO X none (tX G W relO oNone) := ⟨fun pins s σ H Q I ⟨D, adr, l, m, rm, rs, a⟩ => po_none.run pins s σ H Q I (show tNoPart σ H Q from a.ok rm rfl)⟩
theorem mo_some {e : Expr} {me : E} (h : PE X e (tM G W me)) : PO X (some e) (tX G W relO (oSome me)) := ⟨fun pins s σ H Q I ⟨D, adr, l, m, rm, rs, a⟩ => (po_some h).run pins s σ H Q I (by
  refine step rm rs a fun v H1 D1 a1 d m1 e1 f1 rm1 rs1 re b => ?_
  cases d with
  | int i => exact ⟨i, re.int_inv, b.ok rm1 rfl⟩
  | _ => exact b.elim)⟩
def cutL {α : Type} (xs : List α) (lo hi : Option Int) : List α := (xs.drop (HT.sIx xs.length 0 lo)).take (HT.sIx xs.length xs.length hi - HT.sIx xs.length 0 lo)
theorem cutV_eq (xs : List V) (lo hi : Option Int) : cutV xs lo hi = cutL xs lo hi := rfl
theorem Reps.cut {K : Cg} {vs : List V} {ds : List Dv} (h : Reps K D adr vs ds) (lo hi : Option Int) : Reps K D adr (cutL vs lo hi) (cutL ds lo hi) := by
  unfold cutL
  rw [h.length]
  exact (h.drop _).take _
def rSlX (K : PySem.W.Frag) : V → Option Int → Option Int → Hp → VK → Prop := fun x lo hi H Q => rSlS x lo hi H Q ∨ rSlT K x lo hi H Q ∨ rSlL K x lo hi H Q
theorem sl_X : SlR X (rSlX X.K) := sl_str.or (sl_tup.or sl_list)
/-- a slice (of a tuple: not the whole) -/
def slD (x : Dv) (lo hi : Option Int) (m : Mem) : Res Dv := match x with
  | .str z => if z.length ≤ big then .ok (.str (cutS z lo hi)) m else .bad
  | .tup ds => if HT.sIx ds.length 0 lo = 0 ∧ HT.sIx ds.length ds.length hi = ds.length then .bad else .ok (.tup (cutL ds lo hi)) m
  | x => match sq m x with
    | some ds => .ok (.lst (cutL ds lo hi)) m
    | none => .bad
def eSl (e : E) (lo hi : O) : E := fun l m => (e l m).bind fun d m1 => (lo l m1).bind fun i m2 => (hi l m2).bind fun j m3 => slD d i j m3
theorem me_sl {e : Expr} {lo hi : Option Expr} {me : E} {ml mh : O} {p2 pos : Pos} (hk : X.K = G.K) (he : PE X e (tM G W me)) (hl : PO X lo (tX G W relO ml)) (hh : PO X hi (tX G W relO mh)) : PE X (.Subscript e (.Slice lo hi none p2) pos) (tM G W (eSl me ml mh)) := by
  have hr : SlR X (rSlX G.K) := by
    have h : SlR X (rSlX X.K) := sl_X
    rw [hk] at h
    exact h
  refine PE_imp (pe_slice hr he hl hh) fun σ H Q ⟨D, adr, l, m, rm, rs, a⟩ => ?_
  refine step rm rs a fun x H1 D1 a1 d m1 e1 f1 rm1 rs1 rx b => ?_
  refine step rm1 rs1 b fun i H2 D2 a2 i' m2 e2 f2 rm2 rs2 ri c => ?_
  subst ri
  refine step rm2 rs2 c fun j H3 D3 a3 j' m3 e3 f3 rm3 rs3 rj h => ?_
  subst rj
  have rx3 := (rx.mono e2 f2).mono e3 f3
  unfold slD at h
  split at h
  · split at h
    · rename_i hz
      exact .inl ⟨_, rx3.str_inv, by rw [← big_eq]; exact hz, h.ok rm3 (.str _)⟩
    · exact h.elim
  · split at h
    · exact h.elim
    · rename_i hw
      obtain ⟨p, vs, rfl, h1, h2⟩ := rm3.tq rx3 rfl
      refine .inr (.inl ⟨p, vs, rfl, SqT.of h1, by rw [h2.length]; exact hw, fun q hq => ?_⟩)
      have hl : Le D3 (upd D3 q (.tup (cutV vs i j))) := Le.new (rm3.dfree hq)
      exact h _ _ _ a3 hl (Pf.refl _) (rm3.newD hq) (.tup upd_same (Reps.mono hl (Pf.refl _) _ _ (h2.cut i j)))
  · split at h
    · rename_i ds e
      obtain ⟨p, vs, rfl, h1, h2⟩ := rm3.sq rx3 e
      refine .inr (.inr ⟨p, vs, rfl, h1, fun q hq => ?_⟩)
      have hl : Le D3 (upd D3 q (.lst (cutV vs i j))) := Le.new (rm3.dfree hq)
      exact h _ _ _ a3 hl (Pf.refl _) (rm3.newD hq) (.lst upd_same (Reps.mono hl (Pf.refl _) _ _ (h2.cut i j)))
    · exact h.elim

/-! ### built-in functions by values -/
def CaS (G : Cg) (r : List V → Hp → VK → Prop) (f : List Dv → Mem → Res Dv) : Prop := ∀ (D : Hp) (adr : List Addr) (m : Mem) (H : Hp) (xs : List V) (ds : List Dv), RM G D adr m H → Reps G D adr xs ds →
  ∀ (σ : L2.St) (W : WX) (Q : VK), Aft G W σ (relE G) D adr (f ds m) Q → r xs H Q
theorem cb_imp {r : List V → Hp → VK → Prop} {f : List Dv → Mem → Res Dv} {ms : A} (s : CaS G r f) (σ : L2.St) (H : Hp) (Q : VK) : tM G W (eMk f ms) σ H Q → tCB r (tMA G W ms) σ H Q := fun ⟨D, adr, l, m, rm, rs, a⟩ =>
  step rm rs a fun vs H1 D1 a1 ds m1 e1 f1 rm1 rs1 r b => s D1 a1 m1 H1 vs ds rm1 r σ W Q b
inductive Tn where
  | none | bool | int | str | list | tuple | dict
deriving DecidableEq
def Tn.name : Tn → String
  | .none => "NoneType" | .bool => "bool" | .int => "int" | .str => "str" | .list => "list" | .tuple => "tuple" | .dict => "dict"
def tyOf (m : Mem) : Dv → Option Tn
  | .non => some .none
  | .bl _ => some .bool
  | .int _ => some .int
  | .str _ => some .str
  | .scr _ => some .list
  | .lst _ => some .list
  | .tup _ => some .tuple
  | .dic _ _ => some .dict
  | .loc n => match m[n]? with
    | some (.lst _) => some .list
    | some (.dic _) => some .dict
    | some (.dit _) => some .dict
    | _ => none
  | _ => none
def isA (t T : Tn) : Bool := decide (t = T) || (decide (t = .bool) && decide (T = .int))
theorem isA_kit (t T : Tn) : kitB t.name T.name = some (isA t T) := by
  cases t <;> cases T <;> decide +kernel
theorem tyOf_x (rm : RM G D adr m H) {v : V} {d : Dv} {t : Tn} (r : Rep G D adr v d) (e : tyOf m d = some t) : TyX G.K H v (.type t.name) := by
  have lst : ∀ {a : Addr} {xs : List V}, SqL G.K H a xs → TyX G.K H (.ref a) (.type "list") := fun {a xs} h => by
    rcases h with (h | ⟨o, h⟩) | ⟨o, its, n, h, hc, _⟩
    · exact .base (.lst h)
    · exact .base (.frz h)
    · exact .kList h hc
  unfold tyOf at e
  split at e
  · cases e; cases r; exact .base .non
  · cases e; cases r; exact .base (.bl _)
  · cases e; cases r; exact .base (.int _)
  · cases e; cases r; exact .base (.str _)
  · cases e
    cases r with
    | scr q => exact lst (rm.le.sqL q)
  · cases e
    cases r with
    | lst q s => exact .base (.lst (rm.le.lst q))
  · cases e
    cases r with
    | tup q s => exact .base (.tup (rm.le.tup q))
  · cases e
    cases r
  · split at e
    · rename_i h
      cases e
      obtain ⟨a, rfl, h1, vs, h2, h3⟩ := rm.of_loc r h
      exact .base (.lst h2)
    · rename_i h
      cases e
      obtain ⟨a, rfl, h1, vs, h2, h3⟩ := rm.of_loc r h
      exact .base (.dK h2)
    · rename_i h
      cases e
      obtain ⟨a, rfl, h1, vs, h2, h3⟩ := rm.of_loc r h
      exact .base (.dT h2)
    · cases e
  · cases e
/-- isinstance of one of the built-in types; of one out of two -/
def isiD (T : Tn) (x : Dv) (m : Mem) : Res Dv := match tyOf m x with
  | some t => .ok (.bl (isA t T)) m
  | none => .bad
def isi2D (T U : Tn) (x : Dv) (m : Mem) : Res Dv := match tyOf m x with
  | some t => .ok (.bl (isA t T || isA t U)) m
  | none => .bad
theorem me_isi {x y : Expr} {me : E} {p pos : Pos} {T : Tn} (hk : X.K = G.K) (hg : Gl X "isinstance") (hm : X.mg "isinstance" = none) (hx : PE X x (tM G W me)) (hy : PE X y (tC (.ty T.name)))
    (he : starEach [x, y] X.env = (false, eval x X.env) :: starEach [y] X.env := by rfl) (he2 : starEach [y] X.env = (false, eval y X.env) :: starEach [] X.env := by rfl) (hpl : (backTo pos (starEach [y] X.env)).any (·.1) = false := by rfl) :
    PE X (.Call (.Name "isinstance" p) [x, y] [] pos) (tM G W (eUn (isiD T) me)) := by
  have hr : CallR X (.builtin "isinstance") (rIsi G.K) := by
    have h : CallR X (.builtin "isinstance") (rIsi X.K) := call_isi
    rw [hk] at h
    exact h
  refine PE_imp (pe_callB hr hg hm (by decide +kernel) (pa_cons hx (pa_cons hy pa_nil he2) he) (he := he) (hpl := hpl)) fun σ H Q ⟨D, adr, l, m, rm, rs, a⟩ => ?_
  refine step rm rs a fun v H1 D1 a1 d m1 e1 f1 rm1 rs1 r b => ?_
  unfold isiD at b
  split at b
  · rename_i t e
    exact ⟨v, .ty T.name, .type t.name, .type T.name, _, rfl, .ty _, tyOf_x rm1 r e, kit_ty (isA_kit t T), b.ok rm1 (.bl _)⟩
  · exact b.elim
theorem me_isi2 {x y z : Expr} {me : E} {p pos tp : Pos} {x1} {T U : Tn} (hk : X.K = G.K) (hg : Gl X "isinstance") (hm : X.mg "isinstance" = none) (hx : PE X x (tM G W me)) (hy : PE X y (tC (.ty T.name))) (hz : PE X z (tC (.ty U.name)))
    (he : starEach [x, .Tuple [y, z] x1 tp] X.env = (false, eval x X.env) :: starEach [.Tuple [y, z] x1 tp] X.env := by rfl) (he2 : starEach [.Tuple [y, z] x1 tp] X.env = (false, eval (.Tuple [y, z] x1 tp) X.env) :: starEach [] X.env := by rfl)
    (he3 : starEach [y, z] X.env = (false, eval y X.env) :: starEach [z] X.env := by rfl) (he4 : starEach [z] X.env = (false, eval z X.env) :: starEach [] X.env := by rfl)
    (hpl : (backTo pos (starEach [.Tuple [y, z] x1 tp] X.env)).any (·.1) = false := by rfl) :
    PE X (.Call (.Name "isinstance" p) [x, .Tuple [y, z] x1 tp] [] pos) (tM G W (eUn (isi2D T U) me)) := by
  have hr : CallR X (.builtin "isinstance") (rIsiT G.K) := by
    have h : CallR X (.builtin "isinstance") (rIsiT X.K) := call_isiT
    rw [hk] at h
    exact h
  refine PE_imp (pe_callB hr hg hm (by decide +kernel) (pa_cons hx (pa_cons (pe_tup (pa_cons hy (pa_cons hz pa_nil he4) he3)) pa_nil he2) he) (he := he) (hpl := hpl)) fun σ H Q ⟨D, adr, l, m, rm, rs, a⟩ => ?_
  refine step rm rs a fun v H1 D1 a1 d m1 e1 f1 rm1 rs1 r b => ?_
  refine ⟨by show 2 ≤ sizeLine; decide +kernel, fun q hq => ?_⟩
  unfold isi2D at b
  split at b
  · rename_i t e
    have hl : Le D1 (upd D1 q (.tup [.ty T.name, .ty U.name])) := Le.new (rm1.dfree hq)
    have rm2 := rm1.newD (o := .tup [.ty T.name, .ty U.name]) hq
    refine ⟨v, q, [.ty T.name, .ty U.name], .type t.name, [.type T.name, .type U.name], _, rfl, upd_same, .cons (.ty _) (.cons (.ty _) .nil), tyOf_x rm2 (r.mono hl (Pf.refl _)) e, ?_, (b.mono hl (Pf.refl _)).ok rm2 (.bl _)⟩
    exact kitAny_cons (kit_ty (isA_kit t T)) (fun h0 => kitAny_cons (kit_ty (isA_kit t U)) (fun h1 => by rw [h0, h1]; exact kitAny_nil) (fun h1 => by rw [h0, h1] <;> rfl)) (fun h0 => by rw [h0] <;> rfl)
  · exact b.elim
/-- len -/
def lenD (ds : List Dv) (m : Mem) : Res Dv := match ds with
  | [.str z] => if z.length ≤ big then .ok (.int z.length) m else .bad
  | [.tup xs] => .ok (.int xs.length) m
  | [x] => match sq m x with
    | some xs => .ok (.int xs.length) m
    | none => .bad
  | _ => .bad
theorem Reps.one_inv {K : Cg} {vs : List V} {d : Dv} (h : Reps K D adr vs [d]) : ∃ v, vs = [v] ∧ Rep K D adr v d := by
  cases h with
  | cons q r => cases r; exact ⟨_, rfl, q⟩
theorem Reps.two_inv {K : Cg} {vs : List V} {d e : Dv} (h : Reps K D adr vs [d, e]) : ∃ v w, vs = [v, w] ∧ Rep K D adr v d ∧ Rep K D adr w e := by
  cases h with
  | cons q r =>
    obtain ⟨w, rfl, p⟩ := r.one_inv
    exact ⟨_, w, rfl, q, p⟩
def rLen (K : PySem.W.Frag) : List V → Hp → VK → Prop := fun xs H Q => ∃ x n, xs = [x] ∧ LenV K x H n ∧ Q (.int n) H
theorem lenD_s : CaS G (rLen G.K) lenD := fun D adr m H xs ds rm r σ W Q a => by
  unfold lenD at a
  split at a
  · split at a
    · rename_i h
      obtain ⟨v, rfl, q⟩ := r.one_inv
      exact ⟨v, _, rfl, by rw [q.str_inv]; exact ⟨by rw [← big_eq]; exact h, rfl⟩, a.ok rm (.int _)⟩
    · exact a.elim
  · obtain ⟨v, rfl, q⟩ := r.one_inv
    obtain ⟨p, vs, rfl, h1, h2⟩ := rm.tq q rfl
    exact ⟨_, vs.length, rfl, .inr ⟨vs, SqT.of h1, rfl⟩, by rw [h2.length]; exact a.ok rm (.int _)⟩
  · obtain ⟨v, rfl, q⟩ := r.one_inv
    split at a
    · rename_i xs e
      obtain ⟨p, vs, rfl, h1, h2⟩ := rm.sq q e
      exact ⟨_, vs.length, rfl, .inl ⟨vs, h1, rfl⟩, by rw [h2.length]; exact a.ok rm (.int _)⟩
    · exact a.elim
  · exact a.elim
/-- list(..) as data, with a place; tuple(..) -/
def stq (m : Mem) : Dv → Option (List Dv)
  | .tup ds => some ds
  | d => sq m d
theorem RM.stq (rm : RM G D adr m H) (r : Rep G D adr v d) (e : stq m d = some ds) : ∃ p vs, v = .ref p ∧ (SqL G.K H p vs ∨ SqT G.K H p vs) ∧ Reps G D adr vs ds := by
  unfold Sn.stq at e
  split at e
  · cases e
    obtain ⟨p, vs, rfl, h1, h2⟩ := rm.tq r rfl
    exact ⟨p, vs, rfl, .inr (SqT.of h1), h2⟩
  · obtain ⟨p, vs, rfl, h1, h2⟩ := rm.sq r e
    exact ⟨p, vs, rfl, .inl h1, h2⟩
def listD (ds : List Dv) (m : Mem) : Res Dv := match ds with
  | [x] => match stq m x with
    | some xs => mkLst xs m
    | none => .bad
  | _ => .bad
def listN (ds : List Dv) (m : Mem) : Res Dv := match ds with
  | [x] => match stq m x with
    | some xs => newLst xs m
    | none => .bad
  | _ => .bad
def tupleD (ds : List Dv) (m : Mem) : Res Dv := match ds with
  | [.tup xs] => .ok (.tup xs) m
  | [x] => match sq m x with
    | some xs => mkTup xs m
    | none => .bad
  | _ => .bad
def rListOf (K : PySem.W.Frag) : List V → Hp → VK → Prop := fun xs H Q => ∃ p ys, xs = [.ref p] ∧ (SqL K H p ys ∨ SqT K H p ys) ∧ ∀ l, H l = none → Q (.ref l) (upd H l (.lst ys))
theorem listD_s : CaS G (rListOf G.K) listD := fun D adr m H xs ds rm r σ W Q a => by
  unfold listD at a
  split at a
  · obtain ⟨v, rfl, q⟩ := r.one_inv
    split at a
    · rename_i xs e
      obtain ⟨p, vs, rfl, h1, h2⟩ := rm.stq q e
      exact ⟨p, vs, rfl, h1, (mkLst_ok rm h2 a).2⟩
    · exact a.elim
  · exact a.elim
theorem listN_s : CaS G (rListOf G.K) listN := fun D adr m H xs ds rm r σ W Q a => by
  unfold listN at a
  split at a
  · obtain ⟨v, rfl, q⟩ := r.one_inv
    split at a
    · rename_i xs e
      obtain ⟨p, vs, rfl, h1, h2⟩ := rm.stq q e
      exact ⟨p, vs, rfl, h1, (newLst_ok rm h2 a).2⟩
    · exact a.elim
  · exact a.elim
def rTupOf (K : PySem.W.Frag) : List V → Hp → VK → Prop := fun xs H Q => ∃ p ys, xs = [.ref p] ∧ ((SqL K H p ys ∧ ∀ l, H l = none → Q (.ref l) (upd H l (.tup ys))) ∨ (SqT K H p ys ∧ Q (.ref p) H))
theorem tupleD_s : CaS G (rTupOf G.K) tupleD := fun D adr m H xs ds rm r σ W Q a => by
  unfold tupleD at a
  split at a
  · obtain ⟨v, rfl, q⟩ := r.one_inv
    cases q with
    | tup q s => exact ⟨_, _, rfl, .inr ⟨SqT.of (rm.le.tup q), a.ok rm (.tup q s)⟩⟩
  · obtain ⟨v, rfl, q⟩ := r.one_inv
    split at a
    · rename_i xs e
      obtain ⟨p, vs, rfl, h1, h2⟩ := rm.sq q e
      exact ⟨p, vs, rfl, .inl ⟨h1, (mkTup_ok rm h2 a).2⟩⟩
    · exact a.elim
  · exact a.elim
/-- int(..) of an int or a bool; abs; max, min of two -/
def intD (ds : List Dv) (m : Mem) : Res Dv := match ds with
  | [.int i] => .ok (.int i) m
  | [.bl b] => .ok (.int (if b then 1 else 0)) m
  | _ => .bad
theorem intD_s : CaS G (fun xs H Q => (∃ i, xs = [.int i] ∧ Q (.int i) H) ∨ ∃ k, xs = [.bl k] ∧ Q (.int (if k then 1 else 0)) H) intD := fun D adr m H xs ds rm r σ W Q a => by
  unfold intD at a
  split at a
  · obtain ⟨v, rfl, q⟩ := r.one_inv
    exact .inl ⟨_, by rw [q.int_inv], a.ok rm (.int _)⟩
  · obtain ⟨v, rfl, q⟩ := r.one_inv
    exact .inr ⟨_, by rw [q.bl_inv], a.ok rm (.int _)⟩
  · exact a.elim
def absD (ds : List Dv) (m : Mem) : Res Dv := match ds with
  | [.int i] => .ok (.int (if i < 0 then -i else i)) m
  | _ => .bad
theorem absD_s : CaS G (fun xs H Q => ∃ i, xs = [.int i] ∧ Q (.int (if i < 0 then -i else i)) H) absD := fun D adr m H xs ds rm r σ W Q a => by
  unfold absD at a
  split at a
  · obtain ⟨v, rfl, q⟩ := r.one_inv
    exact ⟨_, by rw [q.int_inv], a.ok rm (.int _)⟩
  · exact a.elim
def maxD (ds : List Dv) (m : Mem) : Res Dv := match ds with
  | [.int i, .int j] => .ok (.int (if j > i then j else i)) m
  | _ => .bad
def minD (ds : List Dv) (m : Mem) : Res Dv := match ds with
  | [.int i, .int j] => .ok (.int (if j < i then j else i)) m
  | _ => .bad
theorem maxD_s : CaS G (fun xs H Q => ∃ i j, xs = [.int i, .int j] ∧ Q (.int (if j > i then j else i)) H) maxD := fun D adr m H xs ds rm r σ W Q a => by
  unfold maxD at a
  split at a
  · obtain ⟨v, w, rfl, q1, q2⟩ := r.two_inv
    exact ⟨_, _, by rw [q1.int_inv, q2.int_inv], a.ok rm (.int _)⟩
  · exact a.elim
theorem minD_s : CaS G (fun xs H Q => ∃ i j, xs = [.int i, .int j] ∧ Q (.int (if j < i then j else i)) H) minD := fun D adr m H xs ds rm r σ W Q a => by
  unfold minD at a
  split at a
  · obtain ⟨v, w, rfl, q1, q2⟩ := r.two_inv
    exact ⟨_, _, by rw [q1.int_inv, q2.int_inv], a.ok rm (.int _)⟩
  · exact a.elim
/-- all([..]) over truth values -/
def bls : List Dv → Option (List Bool)
  | [] => some []
  | .bl b :: r => (bls r).map (b :: ·)
  | _ => none
theorem bls_v : ∀ {ds : List Dv} {vs : List V} {bs : List Bool}, Reps G D adr vs ds → bls ds = some bs → vs = bs.map V.bl
  | [], _, _, r, e => by cases r; cases e; rfl
  | d :: ds, _, _, r, e => by
    cases r with
    | cons q s =>
      cases d with
      | bl b =>
        unfold bls at e
        obtain ⟨cs, h1, h2⟩ := Option.map_eq_some_iff.mp e
        subst h2
        rw [q.bl_inv, bls_v s h1] <;> rfl
      | _ => cases e
def allD (ds : List Dv) (m : Mem) : Res Dv := match ds with
  | [x] => match (sq m x).bind bls with
    | some bs => .ok (.bl (bs.all id)) m
    | none => .bad
  | _ => .bad
end
end Sn
/-! Sn4 -/
set_option Elab.async false
set_option linter.all false
set_option maxRecDepth 100000
set_option autoImplicit false
set_option maxHeartbeats 1000000
/-! Sn4: defs, calls, instances, raise -/
namespace Sn
open PySem PySem.Spec PyProof.Rows L2

/-! ### back to fewer places -/
mutual
def clo (n : Nat) : Dv → Bool
  | .loc k => decide (k < n)
  | .lst ds => clos n ds
  | .tup ds => clos n ds
  | .dic _ ds => clos n ds
  | .dit _ ds => clos n ds
  | _ => true
def clos (n : Nat) : List Dv → Bool
  | [] => true
  | d :: ds => clo n d && clos n ds
end
section
variable {K : Cg} {D D' : Hp} {adr adr' : List Addr}
theorem Pf.back {a b : List Addr} (h : Pf a b) {n : Nat} {x : Addr} (hn : n < a.length) (e : b[n]? = some x) : a[n]? = some x := by
  obtain ⟨c, rfl⟩ := h
  rw [List.getElem?_append_left hn] at e
  exact e
mutual
theorem Rep.back (f : Pf adr adr') : ∀ (d : Dv) (v : V), clo adr.length d = true → Rep K D adr' v d → Rep K D adr v d
  | .non, _, _, h => by cases h; exact .non
  | .bl b, _, _, h => by cases h; exact .bl b
  | .int i, _, _, h => by cases h; exact .int i
  | .str s, _, _, h => by cases h; exact .str s
  | .fn a, _, _, h => by cases h; exact .fn a
  | .loc n, _, c, h => by
    cases h with
    | loc q => exact .loc (f.back (of_decide_eq_true c) q)
  | .scr ns, _, _, h => by
    cases h with
    | scr q => exact .scr q
  | .lst ds, _, c, h => by
    cases h with
    | lst q r => exact .lst q (Reps.back f ds _ c r)
  | .tup ds, _, c, h => by
    cases h with
    | tup q r => exact .tup q (Reps.back f ds _ c r)
  | .dic ks ds, _, c, h => by cases h
  | .dit ks ds, _, c, h => by cases h
theorem Reps.back (f : Pf adr adr') : ∀ (ds : List Dv) (vs : List V), clos adr.length ds = true → Reps K D adr' vs ds → Reps K D adr vs ds
  | [], _, _, h => by cases h; exact .nil
  | d :: ds, _, c, h => by
    cases h with
    | cons q r =>
      unfold clos at c
      rw [Bool.and_eq_true] at c
      exact .cons (Rep.back f d _ c.1 q) (Reps.back f ds _ c.2 r)
end
mutual
theorem Rep.clo : ∀ (d : Dv) (v : V), Rep K D adr v d → clo adr.length d = true
  | .non, _, _ => rfl
  | .bl b, _, _ => rfl
  | .int i, _, _ => rfl
  | .str s, _, _ => rfl
  | .fn a, _, _ => rfl
  | .loc n, _, h => by
    cases h with
    | loc q => exact decide_eq_true (List.getElem?_eq_some_iff.mp q).1
  | .scr ns, _, _ => rfl
  | .lst ds, _, h => by
    cases h with
    | lst q r => exact Reps.clos ds _ r
  | .tup ds, _, h => by
    cases h with
    | tup q r => exact Reps.clos ds _ r
  | .dic ks ds, _, h => by cases h
  | .dit ks ds, _, h => by cases h
theorem Reps.clos : ∀ (ds : List Dv) (vs : List V), Reps K D adr vs ds → clos adr.length ds = true
  | [], _, _ => rfl
  | d :: ds, _, h => by
    cases h with
    | cons q r =>
      unfold Sn.clos
      rw [Rep.clo d _ q, Reps.clos ds _ r] <;> rfl
end
end
theorem RO.back {G : Cg} {D D' : Hp} {adr adr' : List Addr} {H H' : Hp} {a : Addr} (f : Pf adr adr') : ∀ {o : MO}, RO G D adr H a o → RO G D' adr' H' a o → RO G D' adr H' a o
  | .dead, _, _ => trivial
  | .lst ds, ⟨_, _, r0⟩, ⟨vs, h, r⟩ => ⟨vs, h, Reps.back f _ _ (Reps.clos _ _ r0) r⟩
  | .dic kds, ⟨_, _, r0⟩, ⟨vs, h, r⟩ => ⟨vs, h, r.1, Reps.back f _ _ (Reps.clos _ _ r0.2) r.2⟩
  | .dit kds, ⟨_, _, r0⟩, ⟨vs, h, r⟩ => ⟨vs, h, r.1, Reps.back f _ _ (Reps.clos _ _ r0.2) r.2⟩
  | .lck kds, ⟨_, _, _, r0⟩, ⟨vs, ob, h, r⟩ => ⟨vs, ob, h, r.1, Reps.back f _ _ (Reps.clos _ _ r0.2) r.2⟩
  | .lct kds, ⟨_, _, _, r0⟩, ⟨vs, ob, h, r⟩ => ⟨vs, ob, h, r.1, Reps.back f _ _ (Reps.clos _ _ r0.2) r.2⟩
  | .ins C ds, ⟨_, _, _, _, _, r0⟩, ⟨dx, fv, h, n, l, r⟩ => ⟨dx, fv, h, n, l, Reps.back f _ _ (Reps.clos _ _ r0) r⟩
/-- what was made besides is forgotten, where the old places are as they were -/
theorem RM.back {G : Cg} {D D' : Hp} {adr adr' : List Addr} {m m' : Mem} {H H' : Hp} (r : RM G D adr m H) (r' : RM G D' adr' m' H') (f : Pf adr adr') (e : m'.take m.length = m) : RM G D' adr m H' := by
  have get : ∀ (n : Nat) (o : MO), m[n]? = some o → m'[n]? = some o := fun n o q => by
    have hn := (List.getElem?_eq_some_iff.mp q).1
    rw [← e, List.getElem?_take_of_lt hn] at q
    exact q
  refine ⟨r'.le, r.nd, r.len, fun n a o e1 e2 e3 => r'.fr n a o (f.get e1) (get n o e2) e3, fun a e1 => r'.ex a ?_, fun n a o e1 e2 => (r.at_ n a o e1 e2).back f (r'.at_ n a o (f.get e1) (get n o e2))⟩
  obtain ⟨c, rfl⟩ := f
  exact List.mem_append_left _ e1

/-! ### defs -/
abbrev Fn := List Dv → Mem → Res Dv
open Classical in
/-- how a body's outcome is handed back: what it made besides is forgotten where it changed nothing that stood -/
noncomputable def fin (m0 : Mem) : Out → Res Dv
  | .nx _ m => if m.take m0.length = m0 then .ok .non m0 else .ok .non m
  | .rt d m => if m.take m0.length = m0 ∧ clo m0.length d = true then .ok d m0 else .ok d m
  | .exc c _ m => if m.take m0.length = m0 then .exc c m0 else .exc c m
  | _ => .bad
open Classical in
/-- .. a list with a place handed back as data -/
noncomputable def finF (m0 : Mem) : Out → Res Dv
  | .rt (.loc n) m => match m[n]? with
    | some (.lst ds) => if m.take m0.length = m0 ∧ m0.length ≤ n ∧ clos m0.length ds = true then .ok (.lst ds) m0 else .bad
    | _ => .bad
  | _ => .bad
noncomputable def mkFn (n N : Nat) (body : S) : Fn := fun ds m => if ds.length = n then fin m (body (ds.map some ++ List.replicate (N - n) none) m) else .bad
noncomputable def mkFnF (n N : Nat) (body : S) : Fn := fun ds m => if ds.length = n then finF m (body (ds.map some ++ List.replicate (N - n) none) m) else .bad
/-- the wish of a def's caller -/
abbrev We (E : XK) : WX := fun c d _ H => E c d H
/-- the promise of a def whose mirror is f -/
def spM (G : Cg) (n : Nat) (f : Fn) : Sp := fun vs H Q E => ∃ D adr m ds, RM G D adr m H ∧ Reps G D adr vs ds ∧ ds.length = n ∧ Aft G (We E) [] (relE G) D adr (f ds m) Q
theorem rs_start {G : Cg} {D : Hp} {adr : List Addr} {vs : List V} {ds : List Dv} (r : Reps G D adr vs ds) (k : Nat) : RS G D adr (ds.map some ++ List.replicate k none) (vs.map some ++ List.replicate k none) := by
  refine ⟨by simp [r.length], fun i d e => ?_⟩
  by_cases hi : i < ds.length
  · rw [List.getElem?_append_left (by simpa using hi), List.getElem?_map] at e
    cases h : ds[i]? with
    | none => rw [h] at e; cases e
    | some d' =>
      rw [h] at e
      cases e
      obtain ⟨v, h1, h2⟩ := r.get h
      refine ⟨v, ?_, h2⟩
      rw [List.getElem?_append_left (by simpa [r.length] using hi), List.getElem?_map, h1] <;> rfl
  · rw [List.getElem?_append_right (by simpa using Nat.le_of_not_lt hi), List.getElem?_replicate] at e
    split at e <;> cases e
section
variable {G : Cg} {P : Program} {w : World} {mg : Str → Option Value} {base : Heap}
theorem fin_s {D : Hp} {adr : List Addr} {m : Mem} {H : Hp} {o : Out} {Q : VK} {E : XK} (rm : RM G D adr m H) (a : Aft G (We E) [] (relE G) D adr (fin m o) Q) : AftS G (We E) { nx := fun _ H' => Q .non H', rt := Q } D adr o := by
  have hlen := rm.len
  cases o with
  | nx l m' =>
    simp only [fin] at a
    intro σ' H' D' a' e f rm' rs'
    split at a
    · rename_i h
      exact a .non H' D' adr e (Pf.refl _) (rm.back rm' f h) .non
    · exact a .non H' D' a' e f rm' .non
  | rt d m' =>
    simp only [fin] at a
    intro v H' D' a' e f rm' re
    split at a
    · rename_i h
      exact a v H' D' adr e (Pf.refl _) (rm.back rm' f h.1) (Rep.back f _ _ (by rw [hlen]; exact h.2) re)
    · exact a v H' D' a' e f rm' re
  | exc c l m' =>
    simp only [fin] at a
    intro σ' H' D' a' e f rm' rs'
    split at a
    · rename_i h
      exact a H' D' adr e (Pf.refl _) (rm.back rm' f h)
    · exact a H' D' a' e f rm'
  | bk l m' => exact False.elim a
  | ct l m' => exact False.elim a
  | bad => exact False.elim a
theorem finF_s {D : Hp} {adr : List Addr} {m : Mem} {H : Hp} {o : Out} {Q : VK} {E : XK} (rm : RM G D adr m H) (a : Aft G (We E) [] (relE G) D adr (finF m o) Q) : AftS G (We E) { nx := fun _ H' => Q .non H', rt := Q } D adr o := by
  have hlen := rm.len
  unfold finF at a
  split at a
  · rename_i n m'
    split at a
    · rename_i ds h
      split at a
      · rename_i hc
        intro v H' D' a' e f rm' re
        obtain ⟨b, rfl, h1, vs, h2, h3⟩ := rm'.of_loc re h
        obtain ⟨rm2, hl⟩ := rm'.freeze h1 h trivial h2
        have ht : (m'.set n .dead).take m.length = m := by
          rw [List.take_set_of_le hc.2.1]
          exact hc.1
        exact a (.ref b) H' (upd D' b (.lst vs)) adr (e.trans hl) (Pf.refl _) (rm.back rm2 f ht) (.lst upd_same (Reps.back f _ _ (by rw [hlen]; exact hc.2.2) (Reps.mono hl (Pf.refl _) _ _ h3)))
      · exact a.elim
    · exact a.elim
  · exact a.elim
/-- THE RULE for a def -/
theorem fn_ok {x qual : Str} {st : Stmt} {f : Addr} {fd : FuncData} {N ps : List Str} {k n M : Nat} {body : S} {g : Fn} (F : Fun G.K x qual st f fd) (Sc : FnScope N ps (defScope st)) (hn : ps.length = n) (hM : N.length = M) (hg : g = mkFn n M body)
    (hbody : ∀ (cdv : Value) (A : Around) (outer : List Env) (s : Shared) (H : Hp) (E : XK), Room k (A.deeper (envOfC qual (defScope st) s.heap.objs.size f cdv)) →
      PSs (cxOf (L2N.CX P w) P w G.K mg base N qual (defScope st) f cdv A outer s H E) (defBody st) (tS G (We E) body)) : FnOk P w G.K mg base (L2N.CX P w) (k + 1) f fd ps (spM G n g) := by
  subst hn hM hg
  refine okXN F Sc (fun vs H Q E h => ?_) (fun cdv A outer s H vs Q E hr h => ⟨tS G (We E) body, hbody cdv A outer s H E hr, ?_⟩)
  · obtain ⟨D, adr, m, ds, rm, r, hl, a⟩ := h
    rw [r.length, hl]
  · obtain ⟨D, adr, m, ds, rm, r, hl, a⟩ := h
    unfold mkFn at a
    rw [if_pos hl] at a
    refine ⟨D, adr, _, m, rm, ?_, fin_s rm a⟩
    have := rs_start r (N.length - ps.length)
    unfold L2.start
    rw [r.length, hl]
    exact this
theorem fn_okF {x qual : Str} {st : Stmt} {f : Addr} {fd : FuncData} {N ps : List Str} {k n M : Nat} {body : S} {g : Fn} (F : Fun G.K x qual st f fd) (Sc : FnScope N ps (defScope st)) (hn : ps.length = n) (hM : N.length = M) (hg : g = mkFnF n M body)
    (hbody : ∀ (cdv : Value) (A : Around) (outer : List Env) (s : Shared) (H : Hp) (E : XK), Room k (A.deeper (envOfC qual (defScope st) s.heap.objs.size f cdv)) →
      PSs (cxOf (L2N.CX P w) P w G.K mg base N qual (defScope st) f cdv A outer s H E) (defBody st) (tS G (We E) body)) : FnOk P w G.K mg base (L2N.CX P w) (k + 1) f fd ps (spM G n g) := by
  subst hn hM hg
  refine okXN F Sc (fun vs H Q E h => ?_) (fun cdv A outer s H vs Q E hr h => ⟨tS G (We E) body, hbody cdv A outer s H E hr, ?_⟩)
  · obtain ⟨D, adr, m, ds, rm, r, hl, a⟩ := h
    rw [r.length, hl]
  · obtain ⟨D, adr, m, ds, rm, r, hl, a⟩ := h
    unfold mkFnF at a
    rw [if_pos hl] at a
    refine ⟨D, adr, _, m, rm, ?_, finF_s rm a⟩
    have := rs_start r (N.length - ps.length)
    unfold L2.start
    rw [r.length, hl]
    exact this
end
section
variable {G : Cg} {X : Cx} {W : WX} {σ : L2.St} {H : Hp}
theorem aft_we {D : Hp} {adr : List Addr} {r : Res Dv} {Q : VK} (a : Aft G W σ (relE G) D adr r Q) : Aft G (We (WE W σ)) [] (relE G) D adr r Q := by
  cases r with
  | ok d m => exact a
  | exc c m => exact a
  | bad => exact a
/-- f(..) -/
def eCall (n : Nat) (f : Fn) (ms : A) : E := fun l m => (ms l m).bind fun ds m1 => if ds.length = n then f ds m1 else .bad
theorem me_call {x : Str} {p pos : Pos} {e : Expr} {es : List Expr} {ms : A} {k n : Nat} {f : Addr} {fd : FuncData} {ps : List Str} {g : Fn} (F : FnOk X.prog X.w X.K X.mg X.base (L2N.CX X.prog X.w) k f fd ps (spM G n g)) (tk : L2N.Takes X W) (hr : Room k X.A) (hg : Gl X x) (hm : X.mg x = some (.ref f))
    (hk : PySem.W.keepIn X.K (.ref f) = true) (hb : Binds X.K fd ps []) (ha : PA X (e :: es) (tMA G W ms)) (hdb : (x == ("__debug__" : Str)) = false := by decide) (he : starEach (e :: es) X.env = (false, eval e X.env) :: starEach es X.env := by rfl) (hpl : (backTo pos (starEach es X.env)).any (·.1) = false := by rfl) :
    PE X (.Call (.Name x p) (e :: es) [] pos) (tM G W (eCall n g ms)) :=
  PE_imp (pe_callS F hr hg hm hk hb (fun σ => L2N.passAt tk σ) ha hdb he hpl) fun σ H Q ⟨D, adr, l, m, rm, rs, a⟩ => step rm rs a fun vs H1 D1 a1 ds m1 e1 f1 rm1 rs1 r b => by
    split at b
    · rename_i hl
      exact ⟨D1, a1, m1, ds, rm1, r, hl, aft_we b⟩
    · exact b.elim
/-- o.m(..), what is raised wished at the slots -/
def tMethX (C : Addr) (m : Str) (sp : Sp) (E : L2.St → XK) (ta : TE) (t : TA) : TE := fun σ H Q => ta σ H fun x H1 => ∃ a dx fs, x = .ref a ∧ H1 a = some (.ins C dx fs) ∧ fs.lookup m = none ∧
  t σ H1 fun vs H2 => sp (x :: vs) H2 Q (E σ)
theorem pe_methX {CX : CXT} {k : Nat} {f C : Addr} {fd : FuncData} {ps : List Str} {sp : Sp} {E : L2.St → XK} {o e : Expr} {es : List Expr} {m : Str} {apos pos : Pos} {ta : TE} {t : TA} {pl : Sem Bool} (he : PE X o ta) (c : Cls X.K C) (hm : Meth X.K C m f) (F : FnOk X.prog X.w X.K X.mg X.base CX k f fd ps sp) (hr : Room k X.A) (hb : Binds X.K fd ps [])
    (hx : ∀ σ, PassesAt CX X σ (E σ)) (ha : PA X (e :: es) t)
    (hst : starEach (e :: es) X.env = (false, eval e X.env) :: starEach es X.env := by rfl) (hpl : (backTo pos (starEach es X.env)).any (·.1) = false := by rfl)
    (ht : eval (.Call (.Attribute o m apos) (e :: es) [] pos) X.env = (do
      let ov ← eval o X.env
      standAt apos.atName
      let (f, first) ← holding [ov] (getMethod ov m pl)
      callWith pos f first (backTo pos (starEach (e :: es) X.env)) (backToKw pos (keywordEach [] X.env))) := by rfl) :
    PE X (.Call (.Attribute o m apos) (e :: es) [] pos) (tMethX C m sp E ta t) := by
  refine ⟨fun pins s σ H Q I h => ?_⟩
  refine PySem.W.methodCall_KW (pl := pl) (thn (he.run pins s σ H _ I h) fun u s1 ⟨x, H1, I1, rx, a, dx, fs, ex, ea, l, q⟩ => ?_) ht
  subst ex
  obtain rfl : u = Value.ref a := rx
  refine getmeth_ok I1 ea c hm l ?_
  refine PySem.W.callWith_K (first := [.ref a]) (h₀ := X.base) I.ok.mod.kin hm.kp (thn (ha.run pos pins s1 σ H1 _ I1 q) fun us s2 ⟨vs, H2, I2, r, q2⟩ => ⟨I2.kIn, ?_⟩) hst hpl
  exact run_fnS (us := .ref a :: us) (vs := .ref a :: vs) F hr hb (hx σ) I2 (.cons rfl r) q2
theorem pe_methX0 {CX : CXT} {k : Nat} {f C : Addr} {fd : FuncData} {ps : List Str} {sp : Sp} {E : L2.St → XK} {o : Expr} {m : Str} {apos pos : Pos} {ta : TE} {pl : Sem Bool} (he : PE X o ta) (c : Cls X.K C) (hm : Meth X.K C m f) (F : FnOk X.prog X.w X.K X.mg X.base CX k f fd ps sp) (hr : Room k X.A) (hb : Binds X.K fd ps [])
    (hx : ∀ σ, PassesAt CX X σ (E σ))
    (ht : eval (.Call (.Attribute o m apos) [] [] pos) X.env = (do
      let ov ← eval o X.env
      standAt apos.atName
      let (f, first) ← holding [ov] (getMethod ov m pl)
      callWith pos f first (backTo pos (starEach [] X.env)) (backToKw pos (keywordEach [] X.env))) := by rfl) :
    PE X (.Call (.Attribute o m apos) [] [] pos) (tMethX C m sp E ta tNil) := by
  refine ⟨fun pins s σ H Q I h => ?_⟩
  refine PySem.W.methodCall_KW (pl := pl) (thn (he.run pins s σ H _ I h) fun u s1 ⟨x, H1, I1, rx, a, dx, fs, ex, ea, l, q⟩ => ?_) ht
  subst ex
  obtain rfl : u = Value.ref a := rx
  refine getmeth_ok I1 ea c hm l ?_
  exact PySem.W.callWith_K0 (first := [.ref a]) I1.kIn hm.kp (run_fnS (us := [.ref a]) (vs := [.ref a]) F hr hb (hx σ) I1 (.cons rfl .nil) q)
/-- the class of the instance at a place -/
def insOf (m : Mem) : Dv → Option (Nat × List Dv)
  | .loc n => match m[n]? with
    | some (.ins C fs) => some (C, fs)
    | _ => none
  | _ => none
/-- o.m(..), o an instance of the class C -/
def eMeth (C n : Nat) (f : Fn) (o : E) (ms : A) : E := fun l m => (o l m).bind fun x m1 => match insOf m1 x with
  | some (C', _) => if C' = C then (ms l m1).bind fun ds m2 => (if ds.length + 1 = n then f (x :: ds) m2 else .bad) else .bad
  | none => .bad
theorem RM.ins {D : Hp} {adr : List Addr} {m : Mem} {v : V} {d : Dv} {C : Nat} {fs : List Dv} (rm : RM G D adr m H) (r : Rep G D adr v d) (e : insOf m d = some (C, fs)) :
    ∃ a dx fv, v = .ref a ∧ H a = some (.ins (G.cls C) dx fv) ∧ fv.map (·.1) = (G.names C).take fs.length ∧ fs.length ≤ (G.names C).length ∧ Reps G D adr (fv.map (·.2)) fs := by
  unfold insOf at e
  split at e
  · split at e
    · rename_i n C fs h
      cases e
      obtain ⟨a, rfl, h1, dx, fv, h2, h3, h4, h5⟩ := rm.of_loc r h
      exact ⟨a, dx, fv, rfl, h2, h3, h4, h5⟩
    · cases e
  · cases e
theorem lookup_none {fs : List (Str × V)} {m : Str} : m ∉ fs.map (·.1) → fs.lookup m = none := by
  induction fs with
  | nil => intro _; rfl
  | cons p r ih =>
    intro h
    rw [List.map_cons, List.mem_cons, not_or] at h
    obtain ⟨k, v⟩ := p
    show (match m == k with | true => some v | false => r.lookup m) = none
    rw [beq_eq_false_iff_ne.mpr h.1]
    exact ih h.2
theorem me_meth {k n C : Nat} {f : Addr} {fd : FuncData} {ps : List Str} {g : Fn} {o e : Expr} {es : List Expr} {mo : E} {ms : A} {nm : Str} {apos pos : Pos} {pl : Sem Bool} (F : FnOk X.prog X.w X.K X.mg X.base (L2N.CX X.prog X.w) k f fd ps (spM G n g)) (tk : L2N.Takes X W) (hr : Room k X.A) (hb : Binds X.K fd ps [])
    (c : Cls X.K (G.cls C)) (hm : Meth X.K (G.cls C) nm f) (hn : nm ∉ G.names C) (ho : PE X o (tM G W mo)) (ha : PA X (e :: es) (tMA G W ms))
    (hst : starEach (e :: es) X.env = (false, eval e X.env) :: starEach es X.env := by rfl) (hpl : (backTo pos (starEach es X.env)).any (·.1) = false := by rfl)
    (ht : eval (.Call (.Attribute o nm apos) (e :: es) [] pos) X.env = (do
      let ov ← eval o X.env
      standAt apos.atName
      let (f, first) ← holding [ov] (getMethod ov nm pl)
      callWith pos f first (backTo pos (starEach (e :: es) X.env)) (backToKw pos (keywordEach [] X.env))) := by rfl) :
    PE X (.Call (.Attribute o nm apos) (e :: es) [] pos) (tM G W (eMeth C n g mo ms)) :=
  PE_imp (pe_methX ho c hm F hr hb (fun σ => L2N.passAt tk σ) ha hst hpl ht) fun σ H Q ⟨D, adr, l, m, rm, rs, a⟩ => step rm rs a fun v H1 D1 a1 d m1 e1 f1 rm1 rs1 r b => by
    split at b
    · rename_i C' fs h
      split at b
      · rename_i hC
        subst hC
        obtain ⟨p, dx, fv, rfl, h1, h2, h3, h4⟩ := rm1.ins r h
        refine ⟨p, dx, fv, rfl, h1, lookup_none (fun z => hn (by rw [h2] at z; exact List.mem_of_mem_take z)), ?_⟩
        refine step rm1 rs1 b fun vs H2 D2 a2 ds m2 e2 f2 rm2 rs2 r2 c => ?_
        split at c
        · rename_i hl
          exact ⟨D2, a2, m2, d :: ds, rm2, .cons (r.mono e2 f2) r2, hl, aft_we c⟩
        · exact c.elim
      · exact b.elim
    · exact b.elim
theorem me_meth0 {k C n : Nat} {f : Addr} {fd : FuncData} {ps : List Str} {g : Fn} {o : Expr} {mo : E} {nm : Str} {apos pos : Pos} {pl : Sem Bool} (F : FnOk X.prog X.w X.K X.mg X.base (L2N.CX X.prog X.w) k f fd ps (spM G n g)) (tk : L2N.Takes X W) (hr : Room k X.A) (hb : Binds X.K fd ps [])
    (c : Cls X.K (G.cls C)) (hm : Meth X.K (G.cls C) nm f) (hn : nm ∉ G.names C) (ho : PE X o (tM G W mo))
    (ht : eval (.Call (.Attribute o nm apos) [] [] pos) X.env = (do
      let ov ← eval o X.env
      standAt apos.atName
      let (f, first) ← holding [ov] (getMethod ov nm pl)
      callWith pos f first (backTo pos (starEach [] X.env)) (backToKw pos (keywordEach [] X.env))) := by rfl) :
    PE X (.Call (.Attribute o nm apos) [] [] pos) (tM G W (eMeth C n g mo aNil)) :=
  PE_imp (pe_methX0 ho c hm F hr hb (fun σ => L2N.passAt tk σ) ht) fun σ H Q ⟨D, adr, l, m, rm, rs, a⟩ => step rm rs a fun v H1 D1 a1 d m1 e1 f1 rm1 rs1 r b => by
    split at b
    · rename_i C' fs h
      split at b
      · rename_i hC
        subst hC
        obtain ⟨p, dx, fv, rfl, h1, h2, h3, h4⟩ := rm1.ins r h
        refine ⟨p, dx, fv, rfl, h1, lookup_none (fun z => hn (by rw [h2] at z; exact List.mem_of_mem_take z)), ?_⟩
        have b' : Aft G W σ (relE G) D1 a1 (if ([] : List Dv).length + 1 = n then g (d :: []) m1 else .bad) Q := b
        split at b'
        · rename_i hl
          exact ⟨D1, a1, m1, [d], rm1, .cons r .nil, hl, aft_we b'⟩
        · exact b'.elim
      · exact b.elim
    · exact b.elim
/-- C(): a new instance -/
def eMake0 (C : Nat) (f : Fn) : E := fun _ m => match f [.loc m.length] (m ++ [.ins C []]) with
  | .ok .non m1 => .ok (.loc m.length) m1
  | _ => .bad
theorem me_make0 {k C : Nat} {f : Addr} {fd : FuncData} {ps : List Str} {g : Fn} {x : Str} {p pos : Pos} (M : Mk X.K (G.cls C) f) (F : FnOk X.prog X.w X.K X.mg X.base (L2N.CX X.prog X.w) k f fd ps (spM G 1 g)) (hr : Room (k + 1) X.A) (hg : Gl X x) (hm : X.mg x = some (.ref (G.cls C))) (hb : Binds X.K fd ps [])
    (hdb : (x == ("__debug__" : Str)) = false := by decide) : PE X (.Call (.Name x p) [] [] pos) (tM G W (eMake0 C g)) :=
  PE_imp (pe_make0 M F hr hg hm hb .nil passLN hdb) fun σ H Q ⟨D, adr, l, m, rm, rs, a⟩ => by
    unfold eMake0 at a
    show ∀ x dx, H x = none → H dx = none → dx ≠ x → _
    intro x dx hx hdx hne
    have rm1 := rm.newD (o := .own x) hdx
    have hx1 : upd H dx (.own x) x = none := by rw [upd_ne (Ne.symm hne)]; exact hx
    have rm2 := rm1.newM (p := x) (ho := .ins (G.cls C) dx []) (o := .ins C []) hx1 ⟨dx, [], upd_same, by simp, by simp, .nil⟩
    have hl : Le D (upd D dx (.own x)) := Le.new (rm.dfree hdx)
    refine ⟨_, _, _, [.loc m.length], rm2, .cons (.loc (by rw [← rm.len]; simp)) .nil, rfl, ?_⟩
    split at a
    · rename_i m1 e
      rw [e]
      intro v H' D' a' l1 p1 rm' re
      refine ⟨re.non_inv, a (.ref x) H' D' a' (hl.trans l1) (Pf.snoc.trans p1) rm' (.loc (p1.get (by rw [← rm.len]; simp)))⟩
    · exact a.elim

/-! ### fields -/
def eFld (C i : Nat) (o : E) : E := fun l m => (o l m).bind fun x m1 => match insOf m1 x with
  | some (C', fs) => if C' = C then (match fs[i]? with
    | some d => .ok d m1
    | none => .bad) else .bad
  | none => .bad
theorem lookup_at : ∀ {fv : List (Str × V)} {N : List Str} {i : Nat} {f : Str} {v : V}, N.Nodup → (∃ n, fv.map (·.1) = N.take n) → N[i]? = some f → (fv.map (·.2))[i]? = some v → fv.lookup f = some v
  | [], _, i, _, _, _, _, _, e => by simp at e
  | (k, u) :: r, N, 0, f, v, nd, ⟨n, e⟩, e1, e2 => by
    cases N with
    | nil => simp at e
    | cons a N =>
      cases n with
      | zero => simp at e
      | succ n =>
        simp at e e1 e2
        subst e2
        rw [← e1, ← e.1]
        show (match k == k with | true => some u | false => r.lookup k) = some u
        rw [beq_self_eq_true]
  | (k, u) :: r, N, i + 1, f, v, nd, ⟨n, e⟩, e1, e2 => by
    cases N with
    | nil => simp at e
    | cons a N =>
      cases n with
      | zero => simp at e
      | succ n =>
        simp only [List.map_cons, List.take_succ_cons, List.cons.injEq] at e
        have hne : f ≠ k := by
          rintro rfl
          rw [List.getElem?_cons_succ] at e1
          have := List.mem_of_getElem? e1
          rw [e.1] at this
          exact (List.nodup_cons.mp nd).1 this
        show (match f == k with | true => some u | false => r.lookup f) = some v
        rw [beq_eq_false_iff_ne.mpr hne]
        exact lookup_at (List.nodup_cons.mp nd).2 ⟨n, e.2⟩ (by simpa using e1) (by simpa using e2)
theorem me_fld {C i : Nat} {f : Str} {o : Expr} {mo : E} {pos : Pos} (c : Cls X.K (G.cls C)) (hn : NoAttr X.K (G.cls C) f) (nd : (G.names C).Nodup) (hi : (G.names C)[i]? = some f) (ho : PE X o (tM G W mo)) (hb : attributeBase o f X.env (eval o X.env) = eval o X.env := by rfl) :
    PE X (.Attribute o f pos) (tM G W (eFld C i mo)) :=
  PE_imp (pe_fld ho hb) fun σ H Q ⟨D, adr, l, m, rm, rs, a⟩ => step rm rs a fun v H1 D1 a1 d m1 e1 f1 rm1 rs1 r b => by
    split at b
    · rename_i C' fs h
      split at b
      · rename_i hC
        subst hC
        split at b
        · rename_i y hy
          obtain ⟨p, dx, fv, rfl, h1, h2, h3, h4⟩ := rm1.ins r h
          obtain ⟨u, h5, h6⟩ := h4.get hy
          exact ⟨p, _, dx, fv, u, rfl, h1, c, hn, lookup_at nd ⟨_, h2⟩ hi h5, b.ok rm1 h6⟩
        · exact b.elim
      · exact b.elim
    · exact b.elim
/-- o.f = e: an old field or the next one -/
def putI (i : Nat) (d : Dv) (fs : List Dv) : Option (List Dv) := if i < fs.length then some (fs.set i d) else if i = fs.length then some (fs ++ [d]) else none
def setIns (m : Mem) (x : Dv) (C i : Nat) (d : Dv) : Option Mem := match x with
  | .loc n => match m[n]? with
    | some (.ins C' fs) => if C' = C then (putI i d fs).map fun gs => m.set n (.ins C gs) else none
    | _ => none
  | _ => none
def sFldM (C i : Nat) (o e : E) : S := fun l m => (e l m).out l fun d m1 => (o l m1).out l fun x m2 => match setIns m2 x C i d with
  | some m3 => .nx l m3
  | none => .bad
theorem zip_fs : ∀ r : List (Str × V), (r.map (·.1)).zip (r.map (·.2)) = r
  | [] => rfl
  | p :: r => by rw [List.map_cons, List.map_cons, List.zip_cons_cons, zip_fs r]
theorem putF_at : ∀ {fv : List (Str × V)} {N : List Str} {i n : Nat} {f : Str} {v : V}, N.Nodup → fv.map (·.1) = N.take n → n ≤ N.length → N[i]? = some f → i < n → putF f v fv = (N.take n).zip ((fv.map (·.2)).set i v) ∧ (putF f v fv).map (·.1) = N.take n
  | [], N, i, n, f, v, nd, e, hn, e1, hi => by
    cases N with
    | nil => simp at hn; omega
    | cons a N =>
      cases n with
      | zero => omega
      | succ n => simp at e
  | (k, u) :: r, N, i, n, f, v, nd, e, hn, e1, hi => by
    cases N with
    | nil => simp at e1
    | cons a N =>
      cases n with
      | zero => omega
      | succ n =>
        simp only [List.map_cons, List.take_succ_cons, List.cons.injEq] at e
        obtain ⟨ek, er⟩ := e
        cases i with
        | zero =>
          simp at e1
          subst e1
          subst ek
          have : putF k v ((k, u) :: r) = (k, v) :: r := by
            show (if k = k then (k, v) :: r else (k, u) :: putF k v r) = _
            rw [if_pos rfl]
          rw [this]
          refine ⟨?_, by simp [er]⟩
          simp only [List.take_succ_cons, List.map_cons, List.set_cons_zero, List.zip_cons_cons, ← er, List.cons.injEq, true_and]
          exact (zip_fs r).symm
        | succ i =>
          rw [List.getElem?_cons_succ] at e1
          have hne : k ≠ f := by
            rintro rfl
            have := List.mem_of_getElem? e1
            rw [ek] at this
            exact (List.nodup_cons.mp nd).1 this
          obtain ⟨q1, q2⟩ := putF_at (v := v) (List.nodup_cons.mp nd).2 er (by simpa using hn) e1 (by omega)
          have : putF f v ((k, u) :: r) = (k, u) :: putF f v r := by
            show (if k = f then (k, v) :: r else (k, u) :: putF f v r) = _
            rw [if_neg hne]
          rw [this]
          refine ⟨?_, by simp [q2, ek]⟩
          simp only [List.take_succ_cons, List.map_cons, List.set_cons_succ, List.zip_cons_cons, ← q1, ← ek]
theorem putF_new {f : Str} {v : V} : ∀ {fv : List (Str × V)}, f ∉ fv.map (·.1) → putF f v fv = fv ++ [(f, v)]
  | [], _ => rfl
  | (k, u) :: r, h => by
    rw [List.map_cons, List.mem_cons, not_or] at h
    show (if k = f then (k, v) :: r else (k, u) :: putF f v r) = _
    rw [if_neg (fun e => h.1 e.symm), putF_new h.2] <;> rfl
theorem ms_fld {C i : Nat} {f : Str} {o e : Expr} {mo me : E} {pos pos' : Pos} (c : Cls X.K (G.cls C)) (hn : NoAttr X.K (G.cls C) f) (nd : (G.names C).Nodup) (hi : (G.names C)[i]? = some f) (hz : (G.names C).length < 1000) (ho : PE X o (tM G W mo)) (he : PE X e (tM G W me))
    (hs : swapsWith e (some (.Attribute o f pos')) pos.line X.env = pure false) : PS X (.Assign [.Attribute o f pos'] e pos) (tS G W (sFldM C i mo me)) :=
  PS_imp (ps_fld ho he hs) fun De σ H ⟨D, adr, l, m, rm, rs, a⟩ => stepS rm rs a fun y H1 D1 a1 dy m1 e1 f1 rm1 rs1 ry b => stepS rm1 rs1 b fun v H2 D2 a2 d m2 e2 f2 rm2 rs2 r c' => by
    split at c'
    · rename_i m3 h
      unfold setIns at h
      split at h
      · rename_i n
        split at h
        · rename_i C' fs h0
          split at h
          · rename_i hC
            subst hC
            obtain ⟨gs, h7, h8⟩ := Option.map_eq_some_iff.mp h
            subst h8
            obtain ⟨p, rfl, hp, dx, fv, h2, h3, h4, h5⟩ := rm2.of_loc r h0
            have lfs : fv.length = fs.length := by have := h5.length; simpa using this
            refine ⟨p, _, dx, fv, rfl, h2, c, hn, by omega, c' σ _ D2 a2 (Le.refl _) (Pf.refl _) (rm2.setM hp h0 trivial ?_) rs2⟩
            have ry2 := ry.mono e2 f2
            unfold putI at h7
            split at h7
            · rename_i hlt
              cases h7
              obtain ⟨q1, q2⟩ := putF_at (v := y) nd h3 h4 hi hlt
              refine ⟨dx, putF f y fv, upd_same, by rw [q2]; simp, by simpa using h4, ?_⟩
              have : (putF f y fv).map (·.2) = (fv.map (·.2)).set i y := by
                rw [q1]
                apply List.map_snd_zip
                simp [lfs]
                omega
              rw [this]
              exact h5.set i ry2
            · split at h7
              · rename_i heq
                cases h7
                have hif := (List.getElem?_eq_some_iff.mp hi).1
                have hni : f ∉ fv.map (·.1) := by
                  rw [h3]
                  intro hm
                  obtain ⟨j, hj⟩ := List.mem_iff_getElem?.mp hm
                  have hjl : j < fs.length := by
                    have := (List.getElem?_eq_some_iff.mp hj).1
                    rw [List.length_take] at this
                    omega
                  rw [List.getElem?_take_of_lt hjl] at hj
                  have := L2.nodup_ix nd hj hi
                  omega
                refine ⟨dx, putF f y fv, upd_same, ?_, by simp; omega, ?_⟩
                · rw [putF_new hni, List.map_append, h3, List.length_append]
                  show (G.names C').take fs.length ++ [f] = (G.names C').take (fs.length + 1)
                  rw [← heq, List.take_add_one, hi] <;> rfl
                · rw [putF_new hni, List.map_append]
                  exact h5.append (.one ry2)
              · cases h7
          · cases h
        · cases h
      · cases h
    · exact c'.elim

/-! ### raise -/
def sRaise (c : XC) : S := fun l m => .exc c l m
theorem ms_raise {c : XC} {e : Expr} {pos : Pos} (hc : X.calm = true) (tk : L2N.Takes X W) (he : L2N.PMk X e (fun _ H Q => Q (.ref (G.xa c)) none H)) : PS X (.Raise (some e) none pos) (tS G W (sRaise c)) :=
  PS_imp (L2N.ps_raise hc tk he) fun De σ H ⟨D, adr, l, m, rm, rs, a⟩ => a σ H D adr (Le.refl _) (Pf.refl _) rm rs
/-- a module's constant, a def, as a value -/
theorem me_glob {x : Str} {v : V} {d : Dv} {u : Value} {pos : Pos} (hg : Gl X x) (hm : X.mg x = some u) (r : RelV v u) (rp : ∀ K D adr, Rep K D adr v d) (hd : (x == ("__debug__" : Str)) = false := by decide) : PE X (.Name x pos) (tM G W (eC d)) :=
  me_c (pe_glob hg hm r hd) rp
end
end Sn
/-! Sn5 -/
set_option Elab.async false
set_option linter.all false
set_option maxRecDepth 100000
set_option autoImplicit false
set_option maxHeartbeats 1000000
/-! Sn5: loops, comprehensions -/
namespace Sn
open PySem PySem.Spec PyProof.Rows L2

section
variable {G : Cg} {X : Cx} {W : WX} {σ : L2.St} {H : Hp}

/-! ### what is walked -/
/-- the items of a walk: what comes at turn i is ds[i] -/
structure Yl (G : Cg) (D : Hp) (adr : List Addr) (ds : List Dv) (Gs : Hp → Prop) (Y : Nat → Hp → V → Hp → Prop) : Prop where
  stays : ∀ (D' : Hp) (adr' : List Addr) (m' : Mem) (H' : Hp), Le D D' → Pf adr adr' → RM G D' adr' m' H' → Gs H'
  gives : ∀ (i : Nat) (H : Hp) (x : V) (H' : Hp) (D' : Hp) (adr' : List Addr) (m' : Mem), i < ds.length → Y i H x H' → Le D D' → Pf adr adr' → RM G D' adr' m' H →
    H' = H ∧ ∃ d D'', ds[i]? = some d ∧ Le D' D'' ∧ RM G D'' adr' m' H ∧ Rep G D'' adr' x d
def tIt (G : Cg) (W : WX) (mi : A) : TI := fun σ H R => ∃ D adr l m, RM G D adr m H ∧ RS G D adr l σ ∧ (match mi l m with
  | .ok ds m1 => ∀ J H1 D1 adr1 Gs Y, Le D D1 → Pf adr adr1 → RM G D1 adr1 m1 H1 → Walk J ds.length Gs Y → Yl G D1 adr1 ds Gs Y → R J H1
  | .exc c m1 => ∀ H1 D1 adr1, Le D D1 → Pf adr adr1 → RM G D1 adr1 m1 H1 → W (.ref (G.xa c)) none σ H1
  | .bad => False)
theorem PI_imp {tg e : Expr} {t t' : TI} (h : PI X tg e t) (i : ∀ σ H R, t' σ H R → t σ H R) : PI X tg e t' := ⟨fun pins s σ H R I q => h.run pins s σ H R I (i σ H R q)⟩
def itm : Dv → Option (List Dv)
  | .lst ds => some ds
  | .tup ds => some ds
  | .scr ns => some (ns.map Dv.int)
  | _ => none
def iSeq (e : E) : A := fun l m => (e l m).bind fun d m1 => match itm d with
  | some ds => .ok ds m1
  | none => .bad
theorem yl_of {D : Hp} {adr : List Addr} {vs : List V} {ds : List Dv} {Gs : Hp → Prop} (r : Reps G D adr vs ds) (hs : ∀ (D' : Hp) (adr' : List Addr) (m' : Mem) (H' : Hp), Le D D' → Pf adr adr' → RM G D' adr' m' H' → Gs H') : Yl G D adr ds Gs (YAt vs) :=
  ⟨hs, fun i H x H' D' adr' m' hi y e f rm => by
    obtain ⟨h1, h2⟩ := y
    have hd : ds[i]? = some ds[i] := by simp [hi]
    obtain ⟨v, h3, h4⟩ := r.get hd
    rw [h2] at h3
    cases h3
    exact ⟨h1, ds[i], D', hd, Le.refl _, rm, h4.mono e f⟩⟩
theorem mi_seq {tg e : Expr} {me : E} (hk : X.K = G.K) (he : PE X e (tM G W me)) : PI X tg e (tIt G W (iSeq me)) := by
  have hl : PI X tg e (iList G.K (tM G W me)) := by
    have h := pi_list (tg := tg) he
    rw [hk] at h
    exact h
  have ht : PI X tg e (iTup G.K (tM G W me)) := by
    have h := pi_tup (tg := tg) he
    rw [hk] at h
    exact h
  refine ⟨fun pins s σ H R I q => ?_⟩
  obtain ⟨D, adr, l, m, rm, rs, a⟩ := q
  have key : iList G.K (tM G W me) σ H R ∨ iTup G.K (tM G W me) σ H R := by
    unfold iSeq at a
    cases e1 : me l m with
    | bad => rw [e1] at a; exact a.elim
    | exc c m1 =>
      rw [e1] at a
      exact .inl ⟨D, adr, l, m, rm, rs, by rw [e1]; exact a⟩
    | ok d m1 =>
      rw [e1] at a
      cases d with
      | lst ds =>
        refine .inl ⟨D, adr, l, m, rm, rs, ?_⟩
        rw [e1]
        intro v H1 D1 a1 le pf rm1 r
        cases r with
        | @lst p vs _ q s =>
          refine ⟨p, rfl, ⟨vs, SqL.of (rm1.le.lst q)⟩, ?_⟩
          have w : Walk (Itl G.K p) ds.length (fun H => SqL G.K H p vs) (YAt vs) := s.length ▸ walk_list
          exact a _ H1 D1 a1 _ _ le pf rm1 w (yl_of s fun D' adr' m' H' e f rm' => SqL.of (rm'.le.lst (e.lst q)))
      | scr ns =>
        refine .inl ⟨D, adr, l, m, rm, rs, ?_⟩
        rw [e1]
        intro v H1 D1 a1 le pf rm1 r
        cases r with
        | @scr p _ q =>
          refine ⟨p, rfl, ⟨ns.map V.int, rm1.le.sqL q⟩, ?_⟩
          have w : Walk (Itl G.K p) (ns.map Dv.int).length (fun H => SqL G.K H p (ns.map V.int)) (YAt (ns.map V.int)) := by
            rw [show (ns.map Dv.int).length = (ns.map V.int).length by simp]
            exact walk_list
          exact a _ H1 D1 a1 _ _ le pf rm1 w (yl_of (reps_ints _ _ _ ns) fun D' adr' m' H' e f rm' => rm'.le.sqL (e.sqL q))
      | tup ds =>
        refine .inr ⟨D, adr, l, m, rm, rs, ?_⟩
        rw [e1]
        intro v H1 D1 a1 le pf rm1 r
        cases r with
        | @tup p vs _ q s =>
          refine ⟨p, rfl, ⟨vs, SqT.of (rm1.le.tup q)⟩, ?_⟩
          have w : Walk (Itt G.K p) ds.length (fun H => SqT G.K H p vs) (YAt vs) := s.length ▸ walk_tup
          exact a _ H1 D1 a1 _ _ le pf rm1 w (yl_of s fun D' adr' m' H' e f rm' => SqT.of (rm'.le.tup (e.tup q)))
      | _ => exact a.elim
  rcases key with h | h
  · exact hl.run pins s σ H R I h
  · exact ht.run pins s σ H R I h
def rng (lo : Int) (n : Nat) : List Dv := (List.range n).map fun i => .int (lo + (i : Nat))
theorem rng_length (lo : Int) (n : Nat) : (rng lo n).length = n := by simp [rng]
theorem yl_rng {D : Hp} {adr : List Addr} (lo : Int) (n : Nat) : Yl G D adr (rng lo n) (fun _ => True) (YFn fun i => .int (lo + (i : Nat))) :=
  ⟨fun _ _ _ _ _ _ _ => trivial, fun i H x H' D' adr' m' hi y e f rm => by
    obtain ⟨h1, h2⟩ := y
    rw [rng_length] at hi
    exact ⟨h1, .int (lo + i), D', by simp [rng, hi], Le.refl _, rm, by rw [h2]; exact .int _⟩⟩
def iR1 (ms : A) : A := fun l m => (ms l m).bind fun ds m1 => match ds with
  | [.int j] => if -(2 ^ 62) ≤ j ∧ j < 2 ^ 62 then .ok (rng 0 j.toNat) m1 else .bad
  | _ => .bad
def iR2 (ms : A) : A := fun l m => (ms l m).bind fun ds m1 => match ds with
  | [.int i, .int j] => if -(2 ^ 62) ≤ i ∧ i < 2 ^ 62 ∧ -(2 ^ 62) ≤ j ∧ j < 2 ^ 62 then .ok (rng i (j - i).toNat) m1 else .bad
  | _ => .bad
theorem stepI {α β : Type} {rel : Rel α β} {D : Hp} {adr : List Addr} {l : Lc} {m : Mem} {e : Er α} {k : α → Mem → Res (List Dv)} {R : It → Hp → Prop} (rm : RM G D adr m H) (rs : RS G D adr l σ)
    (h : match (e l m).bind k with
      | .ok ds m1 => ∀ J H1 D1 adr1 Gs Y, Le D D1 → Pf adr adr1 → RM G D1 adr1 m1 H1 → Walk J ds.length Gs Y → Yl G D1 adr1 ds Gs Y → R J H1
      | .exc c m1 => ∀ H1 D1 adr1, Le D D1 → Pf adr adr1 → RM G D1 adr1 m1 H1 → W (.ref (G.xa c)) none σ H1
      | .bad => False)
    {S : β → Hp → Prop} (q : ∀ v H1 D1 adr1 d m1, Le D D1 → Pf adr adr1 → RM G D1 adr1 m1 H1 → RS G D1 adr1 l σ → rel D1 adr1 v d →
      (match k d m1 with
      | .ok ds m2 => ∀ J H2 D2 adr2 Gs Y, Le D1 D2 → Pf adr1 adr2 → RM G D2 adr2 m2 H2 → Walk J ds.length Gs Y → Yl G D2 adr2 ds Gs Y → R J H2
      | .exc c m2 => ∀ H2 D2 adr2, Le D1 D2 → Pf adr1 adr2 → RM G D2 adr2 m2 H2 → W (.ref (G.xa c)) none σ H2
      | .bad => False) → S v H1) : tX G W rel e σ H S := by
  refine ⟨D, adr, l, m, rm, rs, ?_⟩
  cases e1 : e l m with
  | bad => rw [e1] at h; exact h.elim
  | exc c m1 => rw [e1] at h; exact h
  | ok d m1 =>
    rw [e1] at h
    intro v H1 D1 a1 le pf rm1 r
    refine q v H1 D1 a1 d m1 le pf rm1 (rs.mono le pf) r ?_
    have h' : match k d m1 with
      | .ok ds m1 => ∀ J H1 D1 adr1 Gs Y, Le D D1 → Pf adr adr1 → RM G D1 adr1 m1 H1 → Walk J ds.length Gs Y → Yl G D1 adr1 ds Gs Y → R J H1
      | .exc c m1 => ∀ H1 D1 adr1, Le D D1 → Pf adr adr1 → RM G D1 adr1 m1 H1 → W (.ref (G.xa c)) none σ H1
      | .bad => False := h
    cases e2 : k d m1 with
    | bad => rw [e2] at h'; exact h'
    | exc c m2 => rw [e2] at h'; exact fun H2 D2 a2 l2 p2 => h' H2 D2 a2 (le.trans l2) (pf.trans p2)
    | ok ds m2 => rw [e2] at h'; exact fun J H2 D2 a2 Gs Y l2 p2 => h' J H2 D2 a2 Gs Y (le.trans l2) (pf.trans p2)
theorem mi_range1 {tg a : Expr} {ms : A} {p pos : Pos} (hg : Gl X "range") (hm : X.mg "range" = none) (ha : PA X [a] (tMA G W ms)) (hs : starEach [a] X.env = [(false, eval a X.env)] := by rfl) : PI X tg (.Call (.Name "range" p) [a] [] pos) (tIt G W (iR1 ms)) :=
  PI_imp (pi_range1 hg hm ha hs) fun σ H R ⟨D, adr, l, m, rm, rs, a⟩ => stepI (rel := relA G) rm rs a fun vs H1 D1 a1 ds m1 e1 f1 rm1 rs1 r b => by
    split at b
    · rename_i ds' m2 e
      split at e
      · rename_i j
        split at e
        · rename_i h
          cases e
          obtain ⟨v, rfl, q⟩ := r.one_inv
          refine ⟨j, by rw [q.int_inv], h.1, h.2, b _ H1 D1 a1 _ _ (Le.refl _) (Pf.refl _) rm1 ?_ (yl_rng 0 j.toNat)⟩
          rw [rng_length]
          exact walk_range
        · cases e
      · cases e
    · rename_i e
      split at e
      · split at e <;> cases e
      · cases e
    · exact b.elim
theorem mi_range2 {tg a a' : Expr} {ms : A} {p pos : Pos} (hg : Gl X "range") (hm : X.mg "range" = none) (ha : PA X [a, a'] (tMA G W ms)) (hs : starEach [a, a'] X.env = [(false, eval a X.env), (false, eval a' X.env)] := by rfl) (hs2 : starEach [a'] X.env = [(false, eval a' X.env)] := by rfl) : PI X tg (.Call (.Name "range" p) [a, a'] [] pos) (tIt G W (iR2 ms)) :=
  PI_imp (pi_range2 hg hm ha hs hs2) fun σ H R ⟨D, adr, l, m, rm, rs, a⟩ => stepI (rel := relA G) rm rs a fun vs H1 D1 a1 ds m1 e1 f1 rm1 rs1 r b => by
    split at b
    · rename_i ds' m2 e
      split at e
      · rename_i i j
        split at e
        · rename_i h
          cases e
          obtain ⟨v, w, rfl, q, q'⟩ := r.two_inv
          refine ⟨i, j, by rw [q.int_inv, q'.int_inv], h, b _ H1 D1 a1 _ _ (Le.refl _) (Pf.refl _) rm1 ?_ (yl_rng i (j - i).toNat)⟩
          rw [rng_length]
          exact walk_range
        · cases e
      · cases e
    · rename_i e
      split at e
      · split at e <;> cases e
      · cases e
    · exact b.elim
/-- a text, sign by sign -/
def sgn (z : Str) : List Dv := z.cps.toList.map fun c => .str ⟨#[c]⟩
def iStrM (e : E) : A := fun l m => (e l m).bind fun d m1 => match d with
  | .str z => .ok (sgn z) m1
  | _ => .bad
theorem mi_str {tg e : Expr} {me : E} (he : PE X e (tM G W me)) : PI X tg e (tIt G W (iStrM me)) :=
  PI_imp (pi_str he) fun σ H R ⟨D, adr, l, m, rm, rs, a⟩ => stepI (rel := relE G) rm rs a fun v H1 D1 a1 d m1 e1 f1 rm1 rs1 r b => by
    cases d with
    | str z =>
      refine ⟨z, r.str_inv, b _ H1 D1 a1 (fun _ => True) (fun i H v H' => H' = H ∧ ∃ c, z.cps[i]? = some c ∧ v = .str ⟨#[c]⟩) (Le.refl _) (Pf.refl _) rm1 ?_ ?_⟩
      · rw [show (sgn z).length = z.cps.size by simp [sgn]]
        exact walk_str
      · refine ⟨fun _ _ _ _ _ _ _ => trivial, fun i H x H' D' adr' m' hi y e f rm => ?_⟩
        obtain ⟨h1, c, h2, h3⟩ := y
        refine ⟨h1, .str ⟨#[c]⟩, D', ?_, Le.refl _, rm, by rw [h3]; exact .str _⟩
        unfold sgn
        rw [List.getElem?_map, ← Array.getElem?_toList] at *
        rw [h2] <;> rfl
    | _ => exact b.elim

/-! ### targets -/
abbrev Tg := Dv → Lc → Option Lc
def TgS (G : Cg) (g : TG) (tg : Tg) : Prop := ∀ (D : Hp) (adr : List Addr) (m : Mem) (H : Hp) (v : V) (d : Dv) (l l' : Lc) (σ : L2.St) (Q : L2.St → Hp → Prop), RM G D adr m H → RS G D adr l σ → Rep G D adr v d → tg d l = some l' → (∀ σ', RS G D adr l' σ' → Q σ' H) → g v σ H Q
def tgN (i : Nat) : Tg := fun d l => some (l.set i (some d))
theorem tgN_s (i : Nat) : TgS G (gName i) (tgN i) := fun D adr m H v d l l' σ Q rm rs r e q => by
  cases e
  exact q _ (rs.set r)
def tg2 (i j : Nat) : Tg := fun d l => match d with
  | .tup [a, b] => some ((l.set i (some a)).set j (some b))
  | _ => none
theorem tg2_s (i j : Nat) : TgS G (gTup G.K 2 (gCons (gName i) (gCons (gName j) gNil))) (tg2 i j) := fun D adr m H v d l l' σ Q rm rs r e q => by
  unfold tg2 at e
  split at e
  · cases e
    obtain ⟨p, vs, rfl, h1, h2⟩ := rm.tq r rfl
    obtain ⟨x, y, rfl, r1, r2⟩ := h2.two_inv
    exact ⟨p, [x, y], rfl, SqT.of h1, rfl, x, [y], rfl, y, [], rfl, rfl, q _ ((rs.set r1).set r2)⟩
  · cases e
/-- for a, b in .. -/
theorem mg_2 {a b : Str} {pa pb pt : Pos} {k i j : Nat} (hk : X.K = G.K) (hc : X.calm = true) (ha : PG X (.Name a pa) (gName i)) (hb : PG X (.Name b pb) (gName j)) (hn : (assignEach [.Name a pa, .Name b pb] X.env).length = 2 := by rfl)
    (hst : (assignEach [.Name a pa, .Name b pb] X.env).findIdx? (·.1) = none := by rfl) : PG X (.Tuple [.Name a pa, .Name b pb] k pt) (gTup G.K 2 (gCons (gName i) (gCons (gName j) gNil))) := by
  have h := pg_tup (k := k) (pos := pt) hc (pgs_cons ha (pgs_cons hb pgs_nil)) hn hst
  rw [hk] at h
  exact h

/-! ### for -/
def forM (tg : Tg) (body : S) : List Dv → S
  | [], l, m => .nx l m
  | x :: r, l, m => match tg x l with
    | some l1 => match body l1 m with
      | .nx l2 m2 => forM tg body r l2 m2
      | .ct l2 m2 => forM tg body r l2 m2
      | .bk l2 m2 => .nx l2 m2
      | .rt d m2 => .rt d m2
      | .exc c l2 m2 => .exc c l2 m2
      | .bad => .bad
    | none => .bad
def sFor (it : A) (tg : Tg) (body : S) : S := fun l m => (it l m).out l fun ds m1 => forM tg body ds l m1
theorem ms_for {tge iter : Expr} {body : List Stmt} {mi : A} {g : TG} {tg : Tg} {mb : S} {pos : Pos} (hp : PassesOwn (model X.prog X.w) X.A X.env X.xe) (hc : X.calm = true) (hi : PI X tge iter (tIt G W mi)) (hg : PG X tge g) (ht : TgS G g tg) (hb : PSs X body (tS G W mb))
    (hs : ∀ x, foldedSetIterable iter X.env x = pure x := by intro _; rfl) : PS X (.For tge iter body [] pos) (tS G W (sFor mi tg mb)) :=
  PS_imp (ps_for hp hc hi hg hb hs) fun De σ H ⟨D, adr, l, m, rm, rs, a⟩ => by
    refine ⟨D, adr, l, m, rm, rs, ?_⟩
    unfold sFor at a
    cases e1 : mi l m with
    | bad => rw [e1] at a; exact a.elim
    | exc c m1 => rw [e1] at a; exact fun H1 D1 a1 le pf rm1 => a σ H1 D1 a1 le pf rm1 (rs.mono le pf)
    | ok ds m1 =>
      rw [e1] at a
      intro J H1 D1 a1 Gs Y le pf rm1 w yl
      refine for_it w (fun i σ' H' => ∃ D' a' l' m', Le D1 D' ∧ Pf a1 a' ∧ RM G D' a' m' H' ∧ RS G D' a' l' σ' ∧ AftS G W De D' a' (forM tg mb (ds.drop i) l' m')) ⟨D1, a1, l, m1, Le.refl _, Pf.refl _, rm1, rs.mono le pf, a.mono le pf⟩ ?_ ?_ ?_
      · rintro i σ' H' hi ⟨D', a', l', m', x1, x2, x3, x4, x5⟩
        exact yl.stays D' a' m' H' x1 x2 x3
      · rintro i x σ' H' H2 hi ⟨D', a', l', m', x1, x2, x3, x4, x5⟩ y
        obtain ⟨rfl, d, D'', h1, h2, h3, h4⟩ := yl.gives i H' x H2 D' a' m' hi y x1 x2 x3
        have hdrop : ds.drop i = d :: ds.drop (i + 1) := by
          obtain ⟨hl, he⟩ := List.getElem?_eq_some_iff.mp h1
          rw [List.drop_eq_getElem_cons hl, he]
        rw [hdrop] at x5
        unfold forM at x5
        cases e2 : tg d l' with
        | none => rw [e2] at x5; exact x5.elim
        | some l1 =>
          rw [e2] at x5
          refine ht D'' a' m' H2 x d l' l1 σ' _ h3 (x4.mono h2 (Pf.refl _)) h4 e2 fun σ2 rs2 => ⟨D'', a', l1, m', h3, rs2, ?_⟩
          have x6 := x5.mono h2 (Pf.refl a')
          clear x5
          dsimp only at x6
          revert x6
          cases mb l1 m' with
          | nx l2 m2 => exact fun x6 s' H3 D3 a3 y1 y2 y3 y4 => ⟨D3, a3, l2, m2, x1.trans (h2.trans y1), x2.trans y2, y3, y4, x6.mono y1 y2⟩
          | ct l2 m2 => exact fun x6 s' H3 D3 a3 y1 y2 y3 y4 => ⟨D3, a3, l2, m2, x1.trans (h2.trans y1), x2.trans y2, y3, y4, x6.mono y1 y2⟩
          | bk l2 m2 => exact fun x6 => x6
          | rt d2 m2 => exact fun x6 => x6
          | exc c l2 m2 => exact fun x6 => x6
          | bad => exact fun x6 => x6
      · rintro σ' H' ⟨D', a', l', m', x1, x2, x3, x4, x5⟩
        rw [List.drop_length] at x5
        exact x5 σ' H' D' a' (Le.refl _) (Pf.refl _) x3 x4

/-! ### while -/
def whileM (t : T) (body : S) : Nat → S
  | 0, _, _ => .bad
  | n + 1, l, m => (t l m).out l fun b m1 => if b then (match body l m1 with
    | .nx l2 m2 => whileM t body n l2 m2
    | .ct l2 m2 => whileM t body n l2 m2
    | .bk l2 m2 => .nx l2 m2
    | .rt d m2 => .rt d m2
    | .exc c l2 m2 => .exc c l2 m2
    | .bad => .bad) else .nx l m1
def sWhile (n : Nat) (t : T) (body : S) : S := whileM t body n
theorem ms_while {c : Expr} {body : List Stmt} {mc : T} {mb : S} {pos : Pos} {n : Nat} (hp : PassesOwn (model X.prog X.w) X.A X.env X.xe) (hc : PT X c (tMT G W mc)) (hb : PSs X body (tS G W mb)) : PS X (.While c body [] pos) (tS G W (sWhile n mc mb)) :=
  PS_imp (ps_while hp hc hb) fun De σ H ⟨D, adr, l, m, rm, rs, a⟩ => by
    refine ⟨fun k σ H => ∃ D adr l m, RM G D adr m H ∧ RS G D adr l σ ∧ AftS G W De D adr (whileM mc mb k l m), ⟨n, D, adr, l, m, rm, rs, a⟩, ?_⟩
    rintro k σ H ⟨D, adr, l, m, rm, rs, a⟩
    cases k with
    | zero => exact a.elim
    | succ k =>
      unfold whileM at a
      refine stepS (rel := relT) rm rs a fun b H1 D1 a1 d m1 e1 f1 rm1 rs1 re h => ?_
      subst re
      cases b with
      | false => exact h σ H1 D1 a1 (Le.refl _) (Pf.refl _) rm1 rs1
      | true =>
        refine ⟨fun σ H => ∃ D adr l m, RM G D adr m H ∧ RS G D adr l σ ∧ AftS G W De D adr (whileM mc mb k l m), fun σ' H' p => ⟨k, Nat.lt_succ_self k, p⟩, D1, a1, l, m1, rm1, rs1, ?_⟩
        have x6 : AftS G W De D1 a1 (match mb l m1 with
          | .nx l2 m2 => whileM mc mb k l2 m2
          | .ct l2 m2 => whileM mc mb k l2 m2
          | .bk l2 m2 => .nx l2 m2
          | .rt d m2 => .rt d m2
          | .exc c l2 m2 => .exc c l2 m2
          | .bad => .bad) := h
        clear h
        revert x6
        cases mb l m1 with
        | nx l2 m2 => exact fun x6 s' H3 D3 a3 y1 y2 y3 y4 => ⟨D3, a3, l2, m2, y3, y4, x6.mono y1 y2⟩
        | ct l2 m2 => exact fun x6 s' H3 D3 a3 y1 y2 y3 y4 => ⟨D3, a3, l2, m2, y3, y4, x6.mono y1 y2⟩
        | bk l2 m2 => exact fun x6 => x6
        | rt d2 m2 => exact fun x6 => x6
        | exc c l2 m2 => exact fun x6 => x6
        | bad => exact fun x6 => x6

/-! ### comprehensions -/
def lcM (j : Nat) (t : T) (e : E) (p : Nat) : List Dv → Lc → Mem → Option Mem
  | [], _, m => some m
  | x :: r, l, m => match t ((l.set j none).set j (some x)) m with
    | .ok true m1 => match e ((l.set j none).set j (some x)) m1 with
      | .ok y m2 => match m2[p]? with
        | some (.lst acc) => if acc.length < big then lcM j t e p r l (m2.set p (.lst (acc ++ [y]))) else none
        | _ => none
      | _ => none
    | .ok false m1 => lcM j t e p r l m1
    | _ => none
open Classical in
/-- the new list as data -/
noncomputable def eLc (it : A) (j : Nat) (t : T) (e : E) : E := fun l m => (it l m).bind fun ds m1 => match lcM j t e m1.length ds l (m1 ++ [.lst []]) with
  | some m2 => match m2[m1.length]? with
    | some (.lst acc) => if m2.take m1.length = m1 ∧ clos m1.length acc = true then .ok (.lst acc) m1 else .bad
    | _ => .bad
  | none => .bad
/-- .. with a place -/
def eLcN (it : A) (j : Nat) (t : T) (e : E) : E := fun l m => (it l m).bind fun ds m1 => match lcM j t e m1.length ds l (m1 ++ [.lst []]) with
  | some m2 => .ok (.loc m1.length) m2
  | none => .bad
abbrev W0 : WX := fun _ _ _ _ => False
def tYesM : T := fun _ m => .ok true m
theorem rs_wipe {D : Hp} {adr : List Addr} {l : Lc} {j : Nat} (h : RS G D adr l σ) : RS G D adr (l.set j none) (wipe σ [j]) := by
  refine ⟨by simp [wipe, h.1], fun i d e => ?_⟩
  by_cases hij : j = i
  · subst hij
    have hl : j < l.length := by
      have := (List.getElem?_eq_some_iff.mp e).1
      simpa using this
    rw [List.getElem?_set_self hl] at e
    cases e
  · rw [List.getElem?_set_ne hij] at e
    obtain ⟨v, h1, h2⟩ := h.2 i d e
    exact ⟨v, by show (σ.set j none)[i]? = _; rw [List.getElem?_set_ne hij]; exact h1, h2⟩
/-- what the loop of a comprehension leaves -/
def LcEnd (G : Cg) (D1 : Hp) (a1 : List Addr) (m1 : Mem) (Dl : Addr) (Qd : Hp → Prop) (o : Option Mem) : Prop := match o with
  | some m2 => ∀ H' D' a', Le D1 D' → Pf (a1 ++ [Dl]) a' → RM G D' a' m2 H' → Qd H'
  | none => False
theorem LcEnd.mono {D1 : Hp} {a1 a2 : List Addr} {m1 : Mem} {Dl : Addr} {Qd : Hp → Prop} {o : Option Mem} (h : LcEnd G D1 a1 m1 Dl Qd o) : LcEnd G D1 a1 m1 Dl Qd o := h
theorem lc_walk {J : It} {Gs : Hp → Prop} {Y : Nat → Hp → V → Hp → Prop} {D1 : Hp} {a1 : List Addr} {m1 : Mem} {H1 : Hp} {l : Lc} {j : Nat} {t : T} {e : E} {ds : List Dv} {Dl : Addr} {Qd : Hp → Prop} (w : Walk J ds.length Gs Y) (yl : Yl G D1 a1 ds Gs Y) (rm1 : RM G D1 a1 m1 H1) (rs1 : RS G D1 a1 l σ) (hD : H1 Dl = none)
    (h : LcEnd G D1 a1 m1 Dl Qd (lcM j t e m1.length ds l (m1 ++ [.lst []]))) :
    ∃ Wv : Nat → Nat → Hp → Prop, (∃ m, Wv 0 m (upd H1 Dl (.lst []))) ∧ ∀ i m H, Wv i m H →
      (J.stop i H ∧ Qd H) ∨ (J.go i H ∧ ∃ Nx : Hp → Prop, (∀ H', Nx H' → ∃ m', m' < m ∧ Wv (i + 1) m' H') ∧ ∀ x H', J.yld i H x H' → gName j x (wipe σ [j]) H' fun σ2 H2 => wipe σ2 [j] = wipe σ [j] ∧ tMT G W0 t σ2 H2 fun b H3 =>
        if b = true then tM G W0 e σ2 H3 fun y H4 => ∃ acc, H4 Dl = some (.lst acc) ∧ acc.length < sizeLine ∧ Nx (upd H4 Dl (.lst (acc ++ [y]))) else Nx H3) := by
  have hlen : a1.length = m1.length := rm1.len
  have rmS : RM G D1 (a1 ++ [Dl]) (m1 ++ [.lst []]) (upd H1 Dl (.lst [])) := rm1.newM hD ⟨[], upd_same, .nil⟩
  refine lc_it w (fun i H => ∃ D' a' m', Le D1 D' ∧ Pf (a1 ++ [Dl]) a' ∧ RM G D' a' m' H ∧ LcEnd G D1 a1 m1 Dl Qd (lcM j t e m1.length (ds.drop i) l m')) ⟨D1, a1 ++ [Dl], _, Le.refl _, Pf.refl _, rmS, h⟩ ?_ ?_ ?_
  · rintro i H hi ⟨D', a', m', x1, x2, x3, x4⟩
    exact yl.stays D' a' m' H x1 (Pf.snoc.trans x2) x3
  · rintro i x H H' hi ⟨D', a', m', x1, x2, x3, x4⟩ y
    obtain ⟨rfl, d, D'', h1, h2, h3, h4⟩ := yl.gives i H x H' D' a' m' hi y x1 (Pf.snoc.trans x2) x3
    have hdrop : ds.drop i = d :: ds.drop (i + 1) := by
      obtain ⟨hl, he⟩ := List.getElem?_eq_some_iff.mp h1
      rw [List.drop_eq_getElem_cons hl, he]
    rw [hdrop] at x4
    unfold lcM at x4
    have rsW : RS G D'' a' ((l.set j none).set j (some d)) ((wipe σ [j]).set j (some x)) := (rs_wipe ((rs1.mono (x1.trans h2) (Pf.snoc.trans x2)))).set h4
    show wipe ((wipe σ [j]).set j (some x)) [j] = wipe σ [j] ∧ _
    refine ⟨by simp [wipe, List.set_set], D'', a', _, m', h3, rsW, ?_⟩
    have pD : ∀ {a2 : List Addr}, Pf a' a2 → a2[m1.length]? = some Dl := fun q => q.get (x2.get (by rw [← hlen]; simp))
    cases e1 : t ((l.set j none).set j (some d)) m' with
    | bad => rw [e1] at x4; exact x4.elim
    | exc c m2 => rw [e1] at x4; exact x4.elim
    | ok b m2 =>
      rw [e1] at x4
      intro b' H3 D3 a3 y1 y2 y3 y4
      subst y4
      cases b' with
      | false => exact ⟨D3, a3, m2, (x1.trans h2).trans y1, x2.trans y2, y3, x4⟩
      | true =>
        have x5 : LcEnd G D1 a1 m1 Dl Qd (match e ((l.set j none).set j (some d)) m2 with
          | .ok y m2 => match m2[m1.length]? with
            | some (.lst acc) => if acc.length < big then lcM j t e m1.length (ds.drop (i + 1)) l (m2.set m1.length (.lst (acc ++ [y]))) else none
            | _ => none
          | _ => none) := x4
        refine ⟨D3, a3, _, m2, y3, rsW.mono y1 y2, ?_⟩
        cases e2 : e ((l.set j none).set j (some d)) m2 with
        | bad => rw [e2] at x5; exact x5.elim
        | exc c m3 => rw [e2] at x5; exact x5.elim
        | ok y m3 =>
          rw [e2] at x5
          intro v H4 D4 a4 z1 z2 z3 z4
          dsimp only at x5
          split at x5
          · rename_i acc e3
            split at x5
            · rename_i hb
              obtain ⟨vs, q2, q3⟩ := z3.at_ _ _ _ (pD (y2.trans z2)) e3
              refine ⟨vs, q2, by rw [q3.length, ← big_eq]; exact hb, D4, a4, _, ((x1.trans h2).trans y1).trans z1, (x2.trans y2).trans z2, z3.setM (o := .lst (acc ++ [y])) (pD (y2.trans z2)) e3 trivial ⟨vs ++ [v], upd_same, q3.append (.one z4)⟩, x5⟩
            · exact x5.elim
          · exact x5.elim
  · rintro H ⟨D', a', m', x1, x2, x3, x4⟩
    rw [List.drop_length] at x4
    exact x4 H D' a' x1 x2 x3
theorem lc_D (D : Hp) (adr : List Addr) {l : Lc} {m : Mem} {it : A} {j : Nat} {t : T} {e : E} {Q : VK} (rm : RM G D adr m H) (rs : RS G D adr l σ) (a : Aft G W σ (relE G) D adr (eLc it j t e l m) Q) : tLc (tIt G W it) (gName j) (tMT G W0 t) (tM G W0 e) [j] σ H Q := by
  refine ⟨D, adr, l, m, rm, rs, ?_⟩
  unfold eLc at a
  cases e1 : it l m with
  | bad => rw [e1] at a; exact a.elim
  | exc c m1 => rw [e1] at a; exact a
  | ok ds m1 =>
    rw [e1] at a
    intro J H1 D1 a1 Gs Y le pf rm1 w yl Dl hD
    refine lc_walk w yl rm1 (rs.mono le pf) hD ?_
    have a' := a.mono le pf
    clear a
    dsimp only [Res.bind] at a'
    revert a'
    cases e2 : lcM j t e m1.length ds l (m1 ++ [.lst []]) with
    | none => exact fun a' => a'.elim
    | some m2 =>
      intro a' H' D' a2 x1 x2 x3
      dsimp only at a'
      split at a'
      · rename_i acc e3
        split at a'
        · rename_i hc
          have hlen : a1.length = m1.length := rm1.len
          have hp : a2[m1.length]? = some Dl := x2.get (by rw [← hlen]; simp)
          obtain ⟨vs, q2, q3⟩ := x3.at_ _ _ _ hp e3
          obtain ⟨rm2, hl⟩ := x3.freeze hp e3 trivial q2
          have ht : (m2.set m1.length .dead).take m1.length = m1 := by
            rw [List.take_set_of_le (Nat.le_refl _)]
            exact hc.1
          exact a' (.ref Dl) H' (upd D' Dl (.lst vs)) a1 (x1.trans hl) (Pf.refl _) (rm1.back rm2 (Pf.snoc.trans x2) ht) (.lst upd_same (Reps.back (Pf.snoc.trans x2) _ _ (by rw [hlen]; exact hc.2) (Reps.mono hl (Pf.refl _) _ _ q3)))
        · exact a'.elim
      · exact a'.elim
theorem lc_N (D : Hp) (adr : List Addr) {l : Lc} {m : Mem} {it : A} {j : Nat} {t : T} {e : E} {Q : VK} (rm : RM G D adr m H) (rs : RS G D adr l σ) (a : Aft G W σ (relE G) D adr (eLcN it j t e l m) Q) : tLc (tIt G W it) (gName j) (tMT G W0 t) (tM G W0 e) [j] σ H Q := by
  refine ⟨D, adr, l, m, rm, rs, ?_⟩
  unfold eLcN at a
  cases e1 : it l m with
  | bad => rw [e1] at a; exact a.elim
  | exc c m1 => rw [e1] at a; exact a
  | ok ds m1 =>
    rw [e1] at a
    intro J H1 D1 a1 Gs Y le pf rm1 w yl Dl hD
    refine lc_walk w yl rm1 (rs.mono le pf) hD ?_
    have a' := a.mono le pf
    clear a
    dsimp only [Res.bind] at a'
    revert a'
    cases e2 : lcM j t e m1.length ds l (m1 ++ [.lst []]) with
    | none => exact fun a' => a'.elim
    | some m2 =>
      intro a' H' D' a2 x1 x2 x3
      exact a' (.ref Dl) H' D' a2 x1 (Pf.snoc.trans x2) x3 (.loc (x2.get (by rw [← rm1.len]; simp)))
theorem me_lc {elt tg iter : Expr} {ifs : List Expr} {scope : Scope} {x : Str} {j : Nat} {pos : Pos} {mi : A} {mt : T} {me : E} (hc : X.calm = true) (hN : X.N.Nodup) (hi : PI X tg iter (tIt G W mi)) (ok : BlkOk X.N X.env.scope scope [(x, j)])
    (hg : ∀ (s : Shared) (H : Hp) (C : Addr) (cl : List (Str × Addr)) (fp : List Addr), PG (X.blk s H scope (compEnvC scope cl C X.env) fp) tg (gName j)) (ht : ∀ (s : Shared) (H : Hp) (C : Addr) (cl : List (Str × Addr)) (fp : List Addr), PTs (X.blk s H scope (compEnvC scope cl C X.env) fp) ifs (tMT G W0 mt))
    (he : ∀ (s : Shared) (H : Hp) (C : Addr) (cl : List (Str × Addr)) (fp : List Addr), PE (X.blk s H scope (compEnvC scope cl C X.env) fp) elt (tM G W0 me)) (hs : ∀ x, foldedSetIterable iter X.env x = pure x := by intro _; rfl) :
    PE X (.ListComp elt [⟨tg, iter, ifs, 0⟩] scope pos) (tM G W (eLc mi j mt me)) :=
  PE_imp (pe_lc hc hN hi ok hg ht he hs) fun σ H Q ⟨D, adr, l, m, rm, rs, a⟩ => lc_D D adr rm rs a
theorem me_lcN {elt tg iter : Expr} {ifs : List Expr} {scope : Scope} {x : Str} {j : Nat} {pos : Pos} {mi : A} {mt : T} {me : E} (hc : X.calm = true) (hN : X.N.Nodup) (hi : PI X tg iter (tIt G W mi)) (ok : BlkOk X.N X.env.scope scope [(x, j)])
    (hg : ∀ (s : Shared) (H : Hp) (C : Addr) (cl : List (Str × Addr)) (fp : List Addr), PG (X.blk s H scope (compEnvC scope cl C X.env) fp) tg (gName j)) (ht : ∀ (s : Shared) (H : Hp) (C : Addr) (cl : List (Str × Addr)) (fp : List Addr), PTs (X.blk s H scope (compEnvC scope cl C X.env) fp) ifs (tMT G W0 mt))
    (he : ∀ (s : Shared) (H : Hp) (C : Addr) (cl : List (Str × Addr)) (fp : List Addr), PE (X.blk s H scope (compEnvC scope cl C X.env) fp) elt (tM G W0 me)) (hs : ∀ x, foldedSetIterable iter X.env x = pure x := by intro _; rfl) :
    PE X (.ListComp elt [⟨tg, iter, ifs, 0⟩] scope pos) (tM G W (eLcN mi j mt me)) :=
  PE_imp (pe_lc hc hN hi ok hg ht he hs) fun σ H Q ⟨D, adr, l, m, rm, rs, a⟩ => lc_N D adr rm rs a
/-- name = [..] -/
theorem ms_setLc {i : Nat} {y : Str} {py : Pos} {elt tg iter : Expr} {ifs : List Expr} {scope : Scope} {x : Str} {j : Nat} {pos spos : Pos} {mi : A} {mt : T} {me : E} (hc : X.calm = true) (hN : X.N.Nodup) (hy : X.N[i]? = some y) (hyl : X.env.scope.names.lookup y = some .local)
    (hsw : swapsWith (.ListComp elt [⟨tg, iter, ifs, 0⟩] scope pos) (some (.Name y py)) spos.line X.env = pure true) (hi : PI X tg iter (tIt G W mi)) (ok : BlkOk X.N X.env.scope scope [(x, j)])
    (hg : ∀ (s : Shared) (H : Hp) (C : Addr) (cl : List (Str × Addr)) (fp : List Addr), PG (X.blk s H scope (compEnvC scope cl C X.env) fp) tg (gName j)) (ht : ∀ (s : Shared) (H : Hp) (C : Addr) (cl : List (Str × Addr)) (fp : List Addr), PTs (X.blk s H scope (compEnvC scope cl C X.env) fp) ifs (tMT G W0 mt))
    (he : ∀ (s : Shared) (H : Hp) (C : Addr) (cl : List (Str × Addr)) (fp : List Addr), PE (X.blk s H scope (compEnvC scope cl C X.env) fp) elt (tM G W0 me)) (hs : ∀ x, foldedSetIterable iter X.env x = pure x := by intro _; rfl) :
    PS X (.Assign [.Name y py] (.ListComp elt [⟨tg, iter, ifs, 0⟩] scope pos) spos) (tS G W (sSet i (eLc mi j mt me))) :=
  PS_imp (ps_setLc hc hN hy hyl hsw hi ok hg ht he hs) fun De σ H ⟨D, adr, l, m, rm, rs, a⟩ => by
    show tLc (tIt G W mi) (gName j) (tMT G W0 mt) (tM G W0 me) [j] σ H (fun v H1 => gName i v σ H1 De.nx)
    refine lc_D D adr rm rs ?_
    unfold sSet at a
    revert a
    cases eLc mi j mt me l m with
    | bad => exact fun a => a.elim
    | exc c m1 => exact fun a H1 D1 a1 le pf rm1 => a σ H1 D1 a1 le pf rm1 (rs.mono le pf)
    | ok d m1 => exact fun a v H1 D1 a1 le pf rm1 r => a _ H1 D1 a1 le pf rm1 ((rs.mono le pf).set r)
theorem ms_setLcN {i : Nat} {y : Str} {py : Pos} {elt tg iter : Expr} {ifs : List Expr} {scope : Scope} {x : Str} {j : Nat} {pos spos : Pos} {mi : A} {mt : T} {me : E} (hc : X.calm = true) (hN : X.N.Nodup) (hy : X.N[i]? = some y) (hyl : X.env.scope.names.lookup y = some .local)
    (hsw : swapsWith (.ListComp elt [⟨tg, iter, ifs, 0⟩] scope pos) (some (.Name y py)) spos.line X.env = pure true) (hi : PI X tg iter (tIt G W mi)) (ok : BlkOk X.N X.env.scope scope [(x, j)])
    (hg : ∀ (s : Shared) (H : Hp) (C : Addr) (cl : List (Str × Addr)) (fp : List Addr), PG (X.blk s H scope (compEnvC scope cl C X.env) fp) tg (gName j)) (ht : ∀ (s : Shared) (H : Hp) (C : Addr) (cl : List (Str × Addr)) (fp : List Addr), PTs (X.blk s H scope (compEnvC scope cl C X.env) fp) ifs (tMT G W0 mt))
    (he : ∀ (s : Shared) (H : Hp) (C : Addr) (cl : List (Str × Addr)) (fp : List Addr), PE (X.blk s H scope (compEnvC scope cl C X.env) fp) elt (tM G W0 me)) (hs : ∀ x, foldedSetIterable iter X.env x = pure x := by intro _; rfl) :
    PS X (.Assign [.Name y py] (.ListComp elt [⟨tg, iter, ifs, 0⟩] scope pos) spos) (tS G W (sSet i (eLcN mi j mt me))) :=
  PS_imp (ps_setLc hc hN hy hyl hsw hi ok hg ht he hs) fun De σ H ⟨D, adr, l, m, rm, rs, a⟩ => by
    show tLc (tIt G W mi) (gName j) (tMT G W0 mt) (tM G W0 me) [j] σ H (fun v H1 => gName i v σ H1 De.nx)
    refine lc_N D adr rm rs ?_
    unfold sSet at a
    revert a
    cases eLcN mi j mt me l m with
    | bad => exact fun a => a.elim
    | exc c m1 => exact fun a H1 D1 a1 le pf rm1 => a σ H1 D1 a1 le pf rm1 (rs.mono le pf)
    | ok d m1 => exact fun a v H1 D1 a1 le pf rm1 r => a _ H1 D1 a1 le pf rm1 ((rs.mono le pf).set r)
theorem mts_nil : PTs X [] (tMT G W tYesM) := ⟨fun pins s σ H Q I ⟨D, adr, l, m, rm, rs, a⟩ => pts_nil.run pins s σ H Q I (show tYes σ H Q from a.ok rm rfl)⟩
theorem mts_one {c : Expr} {mt : T} (h : PT X c (tMT G W mt)) : PTs X [c] (tMT G W mt) := pts_one h
end
end Sn
/-! Sn6 -/
set_option Elab.async false
set_option linter.all false
set_option maxRecDepth 100000
set_option autoImplicit false
set_option maxHeartbeats 1000000
/-! Sn6: methods of lists, dicts, texts; built-in functions -/
namespace Sn
open PySem PySem.Spec PyProof.Rows L2

section
variable {G : Cg} {X : Cx} {W : WX} {σ : L2.St} {H : Hp} {D : Hp} {adr : List Addr} {m : Mem}

/-! ### built-in functions, by the rules of Sn3 -/
theorem me_callB {id : String} {r : List V → Hp → VK → Prop} {f : List Dv → Mem → Res Dv} {x : Str} {p pos : Pos} {e : Expr} {es : List Expr} {ms : A} (s : CaS G r f) (hc : CallR X (.builtin id) r) (hg : Gl X x) (hm : X.mg x = none) (hv : bootBuiltins x = some (.builtin id)) (ha : PA X (e :: es) (tMA G W ms)) (hn : x ≠ "__name__" := by decide)
    (hdb : (x == ("__debug__" : Str)) = false := by decide) (he : starEach (e :: es) X.env = (false, eval e X.env) :: starEach es X.env := by rfl) (hpl : (backTo pos (starEach es X.env)).any (·.1) = false := by rfl) : PE X (.Call (.Name x p) (e :: es) [] pos) (tM G W (eMk f ms)) :=
  PE_imp (pe_callB hc hg hm hv ha hn hdb he hpl) (cb_imp s)
theorem me_callTy {T : String} {r : List V → Hp → VK → Prop} {f : List Dv → Mem → Res Dv} {x : Str} {p pos : Pos} {e : Expr} {es : List Expr} {ms : A} (s : CaS G r f) (hc : CallR X (.type T) r) (hg : Gl X x) (hm : X.mg x = none) (hv : bootBuiltins x = some (.type T)) (ha : PA X (e :: es) (tMA G W ms)) (hn : x ≠ "__name__" := by decide)
    (hdb : (x == ("__debug__" : Str)) = false := by decide) (he : starEach (e :: es) X.env = (false, eval e X.env) :: starEach es X.env := by rfl) (hpl : (backTo pos (starEach es X.env)).any (·.1) = false := by rfl) : PE X (.Call (.Name x p) (e :: es) [] pos) (tM G W (eMk f ms)) :=
  PE_imp (pe_callTy hc hg hm hv ha hn hdb he hpl) (cb_imp s)
theorem b_len : bootBuiltins "len" = some (.builtin "len") := by decide +kernel
theorem b_abs : bootBuiltins "abs" = some (.builtin "abs") := by decide +kernel
theorem b_max : bootBuiltins "max" = some (.builtin "max") := by decide +kernel
theorem b_min : bootBuiltins "min" = some (.builtin "min") := by decide +kernel
theorem b_all : bootBuiltins "all" = some (.builtin "all") := by decide +kernel
theorem b_sorted : bootBuiltins "sorted" = some (.builtin "sorted") := by decide +kernel
theorem b_list : bootBuiltins "list" = some (.type "list") := by decide +kernel
theorem b_tuple : bootBuiltins "tuple" = some (.type "tuple") := by decide +kernel
theorem b_int : bootBuiltins "int" = some (.type "int") := by decide +kernel
theorem b_bool : bootBuiltins "bool" = some (.type "bool") := by decide +kernel
theorem b_str : bootBuiltins "str" = some (.type "str") := by decide +kernel
theorem b_dict : bootBuiltins "dict" = some (.type "dict") := by decide +kernel
/-- all([..]) -/
def rAll (K : PySem.W.Frag) : List V → Hp → VK → Prop := fun vs H Q => ∃ (a : Addr) (bs : List Bool), vs = [V.ref a] ∧ SqL K H a (bs.map V.bl) ∧ Q (.bl (bs.all id)) H
theorem allD_s : CaS G (rAll G.K) allD := fun D adr m H xs ds rm r σ W Q a => by
  unfold allD at a
  split at a
  · obtain ⟨v, rfl, q⟩ := r.one_inv
    split at a
    · rename_i bs e
      obtain ⟨es, h1, h2⟩ := Option.bind_eq_some_iff.mp e
      obtain ⟨p, vs, rfl, h3, h4⟩ := rm.sq q h1
      rw [bls_v h4 h2] at h3
      exact ⟨p, bs, rfl, h3, a.ok rm (.bl _)⟩
    · exact a.elim
  · exact a.elim

/-! ### a list's truth -/
def tTruth (e : E) : T := fun l m => (e l m).bind fun d m1 => match sq m1 d with
  | some ds => .ok (!ds.isEmpty) m1
  | none => .bad
theorem mt_truth {a : Expr} {ma : E} (hk : X.K = G.K) (ha : PE X a (tM G W ma)) (he : ∀ whole, isTrue a X.env whole = (do let v ← whole; standAt a.pos; holding [v] (truthy v)) := by intro _; rfl) : PT X a (tMT G W (tTruth ma)) := by
  refine PT_imp (pt_truth ha he) fun σ H Q ⟨D, adr, l, m, rm, rs, a⟩ => ?_
  refine step (rel := relE G) rm rs a fun v H1 D1 a1 d m1 e1 f1 rm1 rs1 r b => ?_
  split at b
  · rename_i ds e
    obtain ⟨p, vs, rfl, h1, h2⟩ := rm1.sq r e
    refine ⟨_, .inl ⟨vs, by rw [hk]; exact h1, rfl⟩, ?_⟩
    have : (!vs.isEmpty) = !ds.isEmpty := by
      have := h2.length
      cases vs <;> cases ds <;> first | rfl | simp at this
    rw [this]
    exact b.ok rm1 rfl
  · exact b.elim

/-! ### methods of lists -/
def lAt (m : Mem) (d : Dv) : Option (Nat × List Dv) := match d with
  | .loc n => match m[n]? with
    | some (.lst ds) => some (n, ds)
    | _ => none
  | _ => none
theorem RM.lAt {v : V} {d : Dv} {n : Nat} {ds : List Dv} (rm : RM G D adr m H) (r : Rep G D adr v d) (e : lAt m d = some (n, ds)) : ∃ p vs, v = .ref p ∧ adr[n]? = some p ∧ m[n]? = some (.lst ds) ∧ H p = some (.lst vs) ∧ Reps G D adr vs ds := by
  unfold Sn.lAt at e
  split at e
  · split at e
    · rename_i h
      cases e
      obtain ⟨a, rfl, h1, vs, h2, h3⟩ := rm.of_loc r h
      exact ⟨a, vs, rfl, h1, h, h2, h3⟩
    · cases e
  · cases e
def eApp (o e : E) : E := fun l m => (o l m).bind fun x m1 => match lAt m1 x with
  | some _ => (e l m1).bind fun y m2 => (match lAt m2 x with
    | some (n, ds) => if ds.length < big then .ok .non (m2.set n (.lst (ds ++ [y]))) else .bad
    | none => .bad)
  | none => .bad
theorem me_app {o e : Expr} {mo me : E} {apos cpos : Pos} (hk : X.K = G.K) (ho : PE X o (tM G W mo)) (he : PE X e (tM G W me))
    (hs : starEach [e] X.env = (false, eval e X.env) :: starEach [] X.env := by rfl) (h : ∀ {t : TA}, PA X [e] t → PE X (.Call (.Attribute o "append" apos) [e] [] cpos) (tBM X.K "list" rAppend (tM G W mo) t)) :
    PE X (.Call (.Attribute o "append" apos) [e] [] cpos) (tM G W (eApp mo me)) := by
  refine PE_imp (h (pa_cons he pa_nil hs)) fun σ H Q ⟨D, adr, l, m, rm, rs, a⟩ => ?_
  rw [hk]
  refine step rm rs a fun x H1 D1 a1 dx m1 e1 f1 rm1 rs1 rx b => ?_
  split at b
  · rename_i q hq
    obtain ⟨n, ds⟩ := q
    obtain ⟨p, vs, rfl, h1, h2, h3, h4⟩ := rm1.lAt rx hq
    refine ⟨.inl ⟨rfl, vs, SqL.of h3⟩, ?_⟩
    refine step rm1 rs1 b fun y H2 D2 a2 dy m2 e2 f2 rm2 rs2 ry c => ?_
    split at c
    · rename_i n' ds' hq'
      split at c
      · rename_i hb
        obtain ⟨p', vs', hp', h1', h2', h3', h4'⟩ := rm2.lAt (rx.mono e2 f2) hq'
        cases hp'
        exact ⟨p, vs', y, rfl, rfl, h3', by rw [h4'.length, ← big_eq]; exact hb, c.ok (rm2.setM (o := .lst (ds' ++ [dy])) h1' h2' trivial ⟨_, upd_same, h4'.append (.one ry)⟩) .non⟩
      · exact c.elim
    · exact c.elim
  · exact b.elim
def ePop (o : E) : E := fun l m => (o l m).bind fun x m1 => match lAt m1 x with
  | some (n, ds) => (match ds[ds.length - 1]? with
    | some y => .ok y (m1.set n (.lst ds.dropLast))
    | none => .bad)
  | none => .bad
theorem me_pop {o : Expr} {mo : E} {apos cpos : Pos} (hk : X.K = G.K) (h : PE X (.Call (.Attribute o "pop" apos) [] [] cpos) (tBM0 X.K "list" rPop (tM G W mo))) : PE X (.Call (.Attribute o "pop" apos) [] [] cpos) (tM G W (ePop mo)) := by
  refine PE_imp h fun σ H Q ⟨D, adr, l, m, rm, rs, a⟩ => ?_
  rw [hk]
  refine step rm rs a fun x H1 D1 a1 dx m1 e1 f1 rm1 rs1 rx b => ?_
  split at b
  · rename_i n ds hq
    split at b
    · rename_i y hy
      obtain ⟨p, vs, rfl, h1, h2, h3, h4⟩ := rm1.lAt rx hq
      obtain ⟨v, h5, h6⟩ := h4.get hy
      exact ⟨.inl ⟨rfl, vs, SqL.of h3⟩, p, vs, v, rfl, rfl, h3, by rw [h4.length]; exact h5, b.ok (rm1.setM (o := .lst ds.dropLast) h1 h2 trivial ⟨_, upd_same, h4.dropLast⟩) h6⟩
    · exact b.elim
  · exact b.elim
/-- xs[i] = e -/
def sSetIx (o i e : E) : S := fun l m => (e l m).out l fun y m1 => (o l m1).out l fun x m2 => (i l m2).out l fun k m3 => match lAt m3 x, k with
  | some (n, ds), .int k => (match ixN ds.length k with
    | some j => .nx l (m3.set n (.lst (ds.set j y)))
    | none => .bad)
  | _, _ => .bad
theorem ms_setIx {o i e : Expr} {mo mi me : E} {spos pos : Pos} (h : PS X (.Assign [.Subscript o i spos] e pos) (tAsg (tM G W me) (gSub (tM G W mo) (tM G W mi) rSetL))) : PS X (.Assign [.Subscript o i spos] e pos) (tS G W (sSetIx mo mi me)) :=
  PS_imp h fun De σ H ⟨D, adr, l, m, rm, rs, a⟩ => stepS rm rs a fun y H1 D1 a1 dy m1 e1 f1 rm1 rs1 ry b => stepS rm1 rs1 b fun x H2 D2 a2 dx m2 e2 f2 rm2 rs2 rx c => stepS rm2 rs2 c fun k H3 D3 a3 dk m3 e3 f3 rm3 rs3 rk d => by
    split at d
    · rename_i n ds k' hq
      split at d
      · rename_i j hj
        obtain ⟨p, vs, hp, h1, h2, h3, h4⟩ := rm3.lAt (rx.mono e3 f3) hq
        subst hp
        exact ⟨p, vs, k', j, rfl, rk.int_inv, h3, by rw [h4.length]; exact hj, d σ _ D3 a3 (Le.refl _) (Pf.refl _) (rm3.setM (o := .lst (ds.set j dy)) h1 h2 trivial ⟨_, upd_same, h4.set j ((ry.mono e2 f2).mono e3 f3)⟩) rs3⟩
      · exact d.elim
    · exact d.elim

/-! ### dicts -/
section
variable {κ : Type} [DecidableEq κ] {α : Type}
def valG (kvs : List (κ × α)) (k : κ) : Option α := (kvs.find? fun kv => decide (kv.1 = k)).map (·.2)
def putG (kvs : List (κ × α)) (k : κ) (v : α) : List (κ × α) :=
  if (kvs.any fun kv => decide (kv.1 = k)) = true then kvs.map (fun kv => if kv.1 = k then (kv.1, v) else kv) else kvs ++ [(k, v)]
def dropG (kvs : List (κ × α)) (k : κ) : List (κ × α) := kvs.filter fun kv => decide (kv.1 ≠ k)
variable {K : Cg}
theorem KReps.cons {a b : κ} {v : V} {d : Dv} {kvs : List (κ × V)} {kds : List (κ × Dv)} (h : KReps K D adr ((a, v) :: kvs) ((b, d) :: kds)) : a = b ∧ Rep K D adr v d ∧ KReps K D adr kvs kds := by
  obtain ⟨h1, h2⟩ := h
  simp only [List.map_cons, List.cons.injEq] at h1
  cases h2 with
  | cons q r => exact ⟨h1.1, q, h1.2, r⟩
theorem KReps.mk {a : κ} {v : V} {d : Dv} {kvs : List (κ × V)} {kds : List (κ × Dv)} (q : Rep K D adr v d) (h : KReps K D adr kvs kds) : KReps K D adr ((a, v) :: kvs) ((a, d) :: kds) :=
  ⟨by simp [h.1], .cons q h.2⟩
theorem KReps.length {kvs : List (κ × V)} {kds : List (κ × Dv)} (h : KReps K D adr kvs kds) : kvs.length = kds.length := by
  have := congrArg List.length h.1
  simpa using this
theorem KReps.val : ∀ {kvs : List (κ × V)} {kds : List (κ × Dv)} (k : κ), KReps K D adr kvs kds → (∀ d, valG kds k = some d → ∃ v, valV kvs k = some v ∧ Rep K D adr v d) ∧ (valG kds k = none → valV kvs k = none)
  | [], [], k, _ => ⟨fun d e => (by cases e), fun _ => rfl⟩
  | [], _ :: _, k, h => (by have := h.length; simp at this)
  | _ :: _, [], k, h => (by have := h.length; simp at this)
  | (a, v) :: kvs, (b, d) :: kds, k, h => by
    obtain ⟨rfl, q, r⟩ := h.cons
    by_cases e : a = k
    · refine ⟨fun d' e' => ?_, fun e' => ?_⟩
      · have : valG ((a, d) :: kds) k = some d := by simp [valG, List.find?_cons, e]
        rw [this] at e'
        cases e'
        exact ⟨v, valV_pos e, q⟩
      · have : valG ((a, d) :: kds) k = some d := by simp [valG, List.find?_cons, e]
        rw [this] at e'
        cases e'
    · have h1 : valG ((a, d) :: kds) k = valG kds k := by simp [valG, List.find?_cons, e]
      rw [h1, valV_neg (p := (a, v)) e]
      exact KReps.val k r
theorem KReps.any : ∀ {kvs : List (κ × V)} {kds : List (κ × Dv)} (k : κ), KReps K D adr kvs kds → (kvs.any fun kv => decide (kv.1 = k)) = (kds.any fun kv => decide (kv.1 = k))
  | [], [], k, _ => rfl
  | [], _ :: _, k, h => (by have := h.length; simp at this)
  | _ :: _, [], k, h => (by have := h.length; simp at this)
  | (a, v) :: kvs, (b, d) :: kds, k, h => by
    obtain ⟨rfl, q, r⟩ := h.cons
    rw [List.any_cons, List.any_cons, KReps.any k r]
theorem KReps.repl : ∀ {kvs : List (κ × V)} {kds : List (κ × Dv)} (k : κ) {v : V} {d : Dv}, KReps K D adr kvs kds → Rep K D adr v d → KReps K D adr (kvs.map fun kv => if kv.1 = k then (kv.1, v) else kv) (kds.map fun kv => if kv.1 = k then (kv.1, d) else kv)
  | [], [], k, _, _, h, _ => h
  | [], _ :: _, k, _, _, h, _ => (by have := h.length; simp at this)
  | _ :: _, [], k, _, _, h, _ => (by have := h.length; simp at this)
  | (a, v) :: kvs, (b, d) :: kds, k, v', d', h, q' => by
    obtain ⟨rfl, q, r⟩ := h.cons
    have ih := KReps.repl k r q'
    rw [List.map_cons, List.map_cons]
    by_cases e : a = k
    · simp only [e, if_true]
      exact .mk q' ih
    · simp only [e, if_false]
      exact .mk q ih
theorem KReps.put {kvs : List (κ × V)} {kds : List (κ × Dv)} (k : κ) {v : V} {d : Dv} (h : KReps K D adr kvs kds) (q : Rep K D adr v d) : KReps K D adr (putK kvs k v) (putG kds k d) := by
  unfold putK putG
  rw [h.any k]
  split
  · exact h.repl k q
  · refine ⟨by simp [h.1], ?_⟩
    rw [List.map_append, List.map_append]
    exact h.2.append (.one q)
theorem KReps.drop : ∀ {kvs : List (κ × V)} {kds : List (κ × Dv)} (k : κ), KReps K D adr kvs kds → KReps K D adr (dropK kvs k) (dropG kds k)
  | [], [], k, h => h
  | [], _ :: _, k, h => (by have := h.length; simp at this)
  | _ :: _, [], k, h => (by have := h.length; simp at this)
  | (a, v) :: kvs, (b, d) :: kds, k, h => by
    obtain ⟨rfl, q, r⟩ := h.cons
    have ih := KReps.drop k r
    unfold dropK dropG at ih ⊢
    by_cases e : a = k
    · rw [List.filter_cons_of_neg (by simp [e]), List.filter_cons_of_neg (by simp [e])]
      exact ih
    · rw [List.filter_cons_of_pos (by simp [e]), List.filter_cons_of_pos (by simp [e])]
      exact .mk q ih
end
/-- a value as a key -/
def keyD : Dv → Option Key
  | .int i => some (.inl i)
  | .str s => some (.inr s)
  | _ => none
def keysD : List Dv → Option (List Key)
  | [] => some []
  | d :: r => match keyD d, keysD r with
    | some k, some ks => some (k :: ks)
    | _, _ => none
def keyT : Dv → Option (List Key)
  | .tup ds => keysD ds
  | _ => none
theorem keyD_v {v : V} {d : Dv} {k : Key} (r : Rep G D adr v d) (e : keyD d = some k) : v = kV k := by
  unfold keyD at e
  split at e <;> cases e <;> cases r <;> rfl
theorem keysD_v : ∀ {ds : List Dv} {vs : List V} {ks : List Key}, Reps G D adr vs ds → keysD ds = some ks → vs = ks.map kV
  | [], _, _, r, e => by cases r; cases e; rfl
  | d :: ds, _, _, r, e => by
    cases r with
    | cons q s =>
      unfold keysD at e
      split at e
      · rename_i k ks h1 h2
        cases e
        rw [keyD_v q h1, keysD_v s h2] <;> rfl
      · cases e
inductive Dd where
  | k (kds : List (Key × Dv))
  | t (kds : List (List Key × Dv))
def dcAt (m : Mem) : Dv → Option Dd
  | .loc n => match m[n]? with
    | some (.dic kds) => some (.k kds)
    | some (.dit kds) => some (.t kds)
    | some (.lck kds) => some (.k kds)
    | some (.lct kds) => some (.t kds)
    | _ => none
  | .dic ks ds => some (.k (ks.zip ds))
  | .dit ks ds => some (.t (ks.zip ds))
  | _ => none
theorem zip_mapG {κ β γ : Type} : ∀ (r : List (κ × β)) (ds : List γ), r.length = ds.length → ((r.map (·.1)).zip ds).map (·.1) = r.map (·.1) ∧ ((r.map (·.1)).zip ds).map (·.2) = ds
  | [], [], _ => ⟨rfl, rfl⟩
  | [], _ :: _, h => by simp at h
  | _ :: _, [], h => by simp at h
  | p :: r, d :: ds, h => by
    obtain ⟨h1, h2⟩ := zip_mapG r ds (by simpa using h)
    simp [h1, h2]
theorem dkat_rd {a : Addr} {kvs : List (Key × V)} (h : DkAt D a kvs) : Rd D a (.dK kvs) := h
theorem dtat_rd {a : Addr} {kvs : List (List Key × V)} (h : DtAt D a kvs) : Rd D a (.dT kvs) := h
theorem RM.dc_k {v : V} {d : Dv} {kds : List (Key × Dv)} (rm : RM G D adr m H) (r : Rep G D adr v d) (e : dcAt m d = some (.k kds)) : ∃ p kvs, v = .ref p ∧ Rd H p (.dK kvs) ∧ KReps G D adr kvs kds := by
  unfold dcAt at e
  split at e
  · split at e
    · rename_i h
      cases e
      obtain ⟨a, rfl, h1, kvs, h2, h3⟩ := rm.of_loc r h
      exact ⟨a, kvs, rfl, .inl h2, h3⟩
    · cases e
    · rename_i h
      cases e
      obtain ⟨a, rfl, h1, kvs, ob, h2, h3⟩ := rm.of_loc r h
      exact ⟨a, kvs, rfl, .inr ⟨ob, rm.le _ _ h2⟩, h3⟩
    · cases e
    · cases e
  · cases r
  · cases e
  · cases e
theorem RM.dc_t {v : V} {d : Dv} {kds : List (List Key × Dv)} (rm : RM G D adr m H) (r : Rep G D adr v d) (e : dcAt m d = some (.t kds)) : ∃ p kvs, v = .ref p ∧ Rd H p (.dT kvs) ∧ KReps G D adr kvs kds := by
  unfold dcAt at e
  split at e
  · split at e
    · cases e
    · rename_i h
      cases e
      obtain ⟨a, rfl, h1, kvs, h2, h3⟩ := rm.of_loc r h
      exact ⟨a, kvs, rfl, .inl h2, h3⟩
    · cases e
    · rename_i h
      cases e
      obtain ⟨a, rfl, h1, kvs, ob, h2, h3⟩ := rm.of_loc r h
      exact ⟨a, kvs, rfl, .inr ⟨ob, rm.le _ _ h2⟩, h3⟩
    · cases e
  · cases e
  · cases r
  · cases e
/-- what a dict holds at a key: none, where it is no dict or no key of it -/
def dgetD (m : Mem) (x y : Dv) : Option (Option Dv) := match dcAt m x with
  | some (.k kds) => (keyD y).map (valG kds)
  | some (.t kds) => (keyT y).map (valG kds)
  | none => none
theorem RM.dget {x y : V} {dx dy : Dv} {o : Option Dv} (rm : RM G D adr m H) (rx : Rep G D adr x dx) (ry : Rep G D adr y dy) (e : dgetD m dx dy = some o) :
    ∃ a o', x = .ref a ∧ DGet H a y o' ∧ (∀ d, o = some d → ∃ v, o' = some v ∧ Rep G D adr v d) ∧ (o = none → o' = none) := by
  unfold dgetD at e
  split at e
  · rename_i kds h
    obtain ⟨k, h1, h2⟩ := Option.map_eq_some_iff.mp e
    obtain ⟨p, kvs, rfl, h3, h4⟩ := rm.dc_k rx h
    subst h2
    exact ⟨p, valV kvs k, rfl, .inl ⟨kvs, k, h3, keyD_v ry h1, rfl⟩, (h4.val k).1, (h4.val k).2⟩
  · rename_i kds h
    obtain ⟨k, h1, h2⟩ := Option.map_eq_some_iff.mp e
    obtain ⟨p, kvs, rfl, h3, h4⟩ := rm.dc_t rx h
    subst h2
    unfold keyT at h1
    split at h1
    · obtain ⟨b, vs, rfl, h5, h6⟩ := rm.tq ry rfl
      rw [keysD_v h6 h1] at h5
      exact ⟨p, valV kvs k, rfl, .inr ⟨kvs, k, b, h3, rfl, h5, rfl⟩, (h4.val k).1, (h4.val k).2⟩
    · cases h1
  · cases e
theorem RM.isD {x : V} {dx : Dv} {z : Dd} (rm : RM G D adr m H) (rx : Rep G D adr x dx) (e : dcAt m dx = some z) : ∃ a, x = .ref a ∧ IsD H a := by
  cases z with
  | k kds => obtain ⟨p, kvs, rfl, h, _⟩ := rm.dc_k rx e; exact ⟨p, rfl, .inl ⟨kvs, h⟩⟩
  | t kds => obtain ⟨p, kvs, rfl, h, _⟩ := rm.dc_t rx e; exact ⟨p, rfl, .inr ⟨kvs, h⟩⟩
/-- {} -/
def eNewK : E := fun _ m => .ok (.loc m.length) (m ++ [.dic []])
def eNewT : E := fun _ m => .ok (.loc m.length) (m ++ [.dit []])
theorem me_newK {pos : Pos} : PE X (.Dict [] [] pos) (tM G W eNewK) := PE_imp pe_dnewK fun σ H Q ⟨D, adr, l, m, rm, rs, a⟩ => by
  show ∀ p, H p = none → Q (.ref p) (upd H p (.dK []))
  exact fun p hp => a _ _ D (adr ++ [p]) (Le.refl D) Pf.snoc (rm.newM hp ⟨[], upd_same, rfl, .nil⟩) (.loc (by rw [← rm.len]; simp))
theorem me_newT {pos : Pos} : PE X (.Dict [] [] pos) (tM G W eNewT) := PE_imp pe_dnewT fun σ H Q ⟨D, adr, l, m, rm, rs, a⟩ => by
  show ∀ p, H p = none → Q (.ref p) (upd H p (.dT []))
  exact fun p hp => a _ _ D (adr ++ [p]) (Le.refl D) Pf.snoc (rm.newM hp ⟨[], upd_same, rfl, .nil⟩) (.loc (by rw [← rm.len]; simp))
/-- {k: v}, one entry (a text or a number), as in the program -/
def eDisp1 (k : Key) (e : E) : E := fun l m => (e l (m ++ [.dic []])).bind fun d m1 => match m1[m.length]? with
  | some (.dic []) => .ok (.loc m.length) (m1.set m.length (.dic [(k, d)]))
  | _ => .bad
theorem me_disp1 {k v : Expr} {pos : Pos} {key : Key} {me : E} (hk : PE X k (tC (kV key))) (hv : PE X v (tM G W me)) (h : ∀ {trs : List (TE × TE)}, PPs X pos [some k] [v] trs → PE X (.Dict [some k] [v] pos) (tDisp trs)) : PE X (.Dict [some k] [v] pos) (tM G W (eDisp1 key me)) := by
  refine PE_imp (h (pps_cons hk hv pps_nil)) fun σ H Q ⟨D, adr, l, m, rm, rs, a⟩ => ?_
  show ∀ p, H p = none → _
  intro p hp
  have rm1 : RM G D (adr ++ [p]) (m ++ [.dic []]) (upd H p (.dK [])) := rm.newM hp ⟨[], upd_same, rfl, .nil⟩
  have hlen := rm.len
  show tM G W me σ (upd H p (.dK [])) _
  refine step (rel := relE G) rm1 (rs.mono (Le.refl _) Pf.snoc) (a.mono (Le.refl _) Pf.snoc) fun v H1 D1 a1 d m1 e1 f1 rm2 rs2 r b => ?_
  split at b
  · rename_i h2
    have hp1 : a1[m.length]? = some p := f1.get (by rw [← hlen]; simp)
    obtain ⟨kvs, q1, q2⟩ := rm2.at_ _ _ _ hp1 h2
    have hk0 : kvs = [] := List.eq_nil_of_length_eq_zero (by have := q2.length; simpa using this)
    subst hk0
    refine ⟨q1, [(key, v)], rfl, by show 1 ≤ 15; decide, ?_⟩
    have e3 : mergeK [] [(key, v)] = [(key, v)] := rfl
    rw [e3]
    exact b.ok (rm2.setM (o := .dic [(key, d)]) hp1 h2 trivial ⟨[(key, v)], upd_same, rfl, .one r⟩) (.loc hp1)
  · exact b.elim
/-- d[k] -/
def eDGet (o k : E) : E := fun l m => (o l m).bind fun x m1 => (k l m1).bind fun y m2 => match dgetD m2 x y with
  | some (some d) => .ok d m2
  | _ => .bad
theorem me_dget {o k : Expr} {mo mk : E} {pos : Pos} (hu : X.A.units + 1 < cLine) (ho : PE X o (tM G W mo)) (hk : PE X k (tM G W mk)) (hs : NoSl k) : PE X (.Subscript o k pos) (tM G W (eDGet mo mk)) :=
  PE_imp (pe_dget hu ho hk hs) fun σ H Q ⟨D, adr, l, m, rm, rs, a⟩ => step rm rs a fun x H1 D1 a1 dx m1 e1 f1 rm1 rs1 rx b => step rm1 rs1 b fun y H2 D2 a2 dy m2 e2 f2 rm2 rs2 ry c => by
    split at c
    · rename_i d h
      obtain ⟨p, o', rfl, h1, h2, _⟩ := rm2.dget (rx.mono e2 f2) ry h
      obtain ⟨v, rfl, h3⟩ := h2 d rfl
      exact ⟨p, v, rfl, h1, c.ok rm2 h3⟩
    · exact c.elim
/-- k in d, k not in d -/
def eDIn (k o : E) : E := fun l m => (k l m).bind fun y m1 => (o l m1).bind fun x m2 => match dgetD m2 x y with
  | some r => .ok (.bl r.isSome) m2
  | none => .bad
def eDNotIn (k o : E) : E := fun l m => (k l m).bind fun y m1 => (o l m1).bind fun x m2 => match dgetD m2 x y with
  | some r => .ok (.bl (!r.isSome)) m2
  | none => .bad
theorem din_imp {mo mk : E} (σ : L2.St) (H : Hp) (Q : VK) : tM G W (eDIn mk mo) σ H Q → tDIn (tM G W mk) (tM G W mo) σ H Q := fun ⟨D, adr, l, m, rm, rs, a⟩ =>
  step rm rs a fun y H1 D1 a1 dy m1 e1 f1 rm1 rs1 ry b => step rm1 rs1 b fun x H2 D2 a2 dx m2 e2 f2 rm2 rs2 rx c => by
    split at c
    · rename_i r h
      obtain ⟨p, o', rfl, h1, h2, h3⟩ := rm2.dget rx (ry.mono e2 f2) h
      refine ⟨p, o', rfl, h1, ?_⟩
      have : o'.isSome = r.isSome := by
        cases r with
        | none => rw [h3 rfl] <;> rfl
        | some d => obtain ⟨v, rfl, _⟩ := h2 d rfl; rfl
      rw [this]
      exact c.ok rm2 (.bl _)
    · exact c.elim
theorem dnin_imp {mo mk : E} (σ : L2.St) (H : Hp) (Q : VK) : tM G W (eDNotIn mk mo) σ H Q → tDNotIn (tM G W mk) (tM G W mo) σ H Q := fun ⟨D, adr, l, m, rm, rs, a⟩ =>
  step rm rs a fun y H1 D1 a1 dy m1 e1 f1 rm1 rs1 ry b => step rm1 rs1 b fun x H2 D2 a2 dx m2 e2 f2 rm2 rs2 rx c => by
    split at c
    · rename_i r h
      obtain ⟨p, o', rfl, h1, h2, h3⟩ := rm2.dget rx (ry.mono e2 f2) h
      refine ⟨p, o', rfl, h1, ?_⟩
      have : o'.isSome = r.isSome := by
        cases r with
        | none => rw [h3 rfl] <;> rfl
        | some d => obtain ⟨v, rfl, _⟩ := h2 d rfl; rfl
      rw [this]
      exact c.ok rm2 (.bl _)
    · exact c.elim
theorem me_din {k o : Expr} {mk mo : E} {pos : Pos} (hu : X.A.units + 1 < cLine) (hk : PE X k (tM G W mk)) (ho : PE X o (tM G W mo)) (hb : behindInMarks .In o = false := by rfl) : PE X (.Compare k [.In] [o] pos) (tM G W (eDIn mk mo)) := PE_imp (pe_cmp (pc_din hu hk ho) hb) din_imp
theorem me_dnin {k o : Expr} {mk mo : E} {pos : Pos} (hu : X.A.units + 1 < cLine) (hk : PE X k (tM G W mk)) (ho : PE X o (tM G W mo)) (hb : behindInMarks .NotIn o = false := by rfl) : PE X (.Compare k [.NotIn] [o] pos) (tM G W (eDNotIn mk mo)) := PE_imp (pe_cmp (pc_dnotin hu hk ho) hb) dnin_imp
theorem mt_din {k o : Expr} {mk mo : E} {pos : Pos} (hu : X.A.units + 1 < cLine) (hk : PE X k (tM G W mk)) (ho : PE X o (tM G W mo)) (hb : behindInMarks .In o = false := by rfl) : PT X (.Compare k [.In] [o] pos) (tMT G W (tV (eDIn mk mo))) :=
  PT_imp (pt_cmp (pc_din hu hk ho) hb) fun σ H Q ⟨D, adr, l, m, rm, rs, a⟩ => din_imp σ H _ (step rm rs a fun v H1 D1 a1 d m1 e1 f1 rm1 rs1 re b => asB_rel rm1 re b)
theorem mt_dnin {k o : Expr} {mk mo : E} {pos : Pos} (hu : X.A.units + 1 < cLine) (hk : PE X k (tM G W mk)) (ho : PE X o (tM G W mo)) (hb : behindInMarks .NotIn o = false := by rfl) : PT X (.Compare k [.NotIn] [o] pos) (tMT G W (tV (eDNotIn mk mo))) :=
  PT_imp (pt_cmp (pc_dnotin hu hk ho) hb) fun σ H Q ⟨D, adr, l, m, rm, rs, a⟩ => dnin_imp σ H _ (step rm rs a fun v H1 D1 a1 d m1 e1 f1 rm1 rs1 re b => asB_rel rm1 re b)
/-- d.get(k, x) -/
def eDGet2 (o k z : E) : E := fun l m => (o l m).bind fun x m1 => match dcAt m1 x with
  | some _ => (k l m1).bind fun y m2 => (z l m2).bind fun w m3 => (match dgetD m3 x y with
    | some r => .ok (r.getD w) m3
    | none => .bad)
  | none => .bad
theorem me_dget2 {o e f : Expr} {mo me mf : E} {apos cpos : Pos} (hu : X.A.units + 1 < cLine) (ho : PE X o (tM G W mo)) (he : PE X e (tM G W me)) (hf : PE X f (tM G W mf)) (q : M2 X o "get" apos e f cpos) : PE X (.Call (.Attribute o "get" apos) [e, f] [] cpos) (tM G W (eDGet2 mo me mf)) :=
  PE_imp (pe_dget2 hu ho he hf q) fun σ H Q ⟨D, adr, l, m, rm, rs, a⟩ => step rm rs a fun x H1 D1 a1 dx m1 e1 f1 rm1 rs1 rx b => by
    split at b
    · rename_i z hz
      obtain ⟨p, rfl, hd⟩ := rm1.isD rx hz
      refine ⟨p, rfl, hd, ?_⟩
      refine step rm1 rs1 b fun y H2 D2 a2 dy m2 e2 f2 rm2 rs2 ry c => ?_
      refine step rm2 rs2 c fun w H3 D3 a3 dw m3 e3 f3 rm3 rs3 rw' d => ?_
      split at d
      · rename_i r h
        obtain ⟨p', o', hp, h1, h2, h3⟩ := rm3.dget ((rx.mono e2 f2).mono e3 f3) (ry.mono e3 f3) h
        cases hp
        refine ⟨o', h1, ?_⟩
        cases r with
        | none => rw [h3 rfl]; exact d.ok rm3 rw'
        | some v => obtain ⟨v', rfl, h4⟩ := h2 v rfl; exact d.ok rm3 h4
      · exact d.elim
    · exact b.elim
/-- d.pop(k), there -/
def kAt (m : Mem) (d : Dv) : Option (Nat × List (Key × Dv)) := match d with
  | .loc n => match m[n]? with
    | some (.dic kds) => some (n, kds)
    | _ => none
  | _ => none
theorem RM.kAt {v : V} {d : Dv} {n : Nat} {ds : List (Key × Dv)} (rm : RM G D adr m H) (r : Rep G D adr v d) (e : kAt m d = some (n, ds)) : ∃ p vs, v = .ref p ∧ adr[n]? = some p ∧ m[n]? = some (.dic ds) ∧ H p = some (.dK vs) ∧ KReps G D adr vs ds := by
  unfold Sn.kAt at e
  split at e
  · split at e
    · rename_i h
      cases e
      obtain ⟨a, rfl, h1, vs, h2, h3⟩ := rm.of_loc r h
      exact ⟨a, vs, rfl, h1, h, h2, h3⟩
    · cases e
  · cases e
def eDPop (o k : E) : E := fun l m => (o l m).bind fun x m1 => match kAt m1 x with
  | some _ => (k l m1).bind fun y m2 => (match kAt m2 x, keyD y with
    | some (n, kds), some k => (match valG kds k with
      | some d => .ok d (m2.set n (.dic (dropG kds k)))
      | none => .bad)
    | _, _ => .bad)
  | none => .bad
theorem me_dpop {o e : Expr} {mo me : E} {apos cpos : Pos} (ho : PE X o (tM G W mo)) (he : PE X e (tM G W me)) (q : M1 X o "pop" apos e cpos) : PE X (.Call (.Attribute o "pop" apos) [e] [] cpos) (tM G W (eDPop mo me)) :=
  PE_imp (pe_dpop1 ho he q) fun σ H Q ⟨D, adr, l, m, rm, rs, a⟩ => step rm rs a fun x H1 D1 a1 dx m1 e1 f1 rm1 rs1 rx b => by
    split at b
    · rename_i z hz
      obtain ⟨n, kds⟩ := z
      obtain ⟨p, kvs, rfl, h1, h2, h3, h4⟩ := rm1.kAt rx hz
      refine ⟨p, rfl, .inl ⟨kvs, .inl h3⟩, ?_⟩
      refine step rm1 rs1 b fun y H2 D2 a2 dy m2 e2 f2 rm2 rs2 ry c => ?_
      split at c
      · rename_i n' kds' k hz' hk
        split at c
        · rename_i d hd
          obtain ⟨p', kvs', hp, h1', h2', h3', h4'⟩ := rm2.kAt (rx.mono e2 f2) hz'
          cases hp
          obtain ⟨v, h5, h6⟩ := (h4'.val k).1 d hd
          exact ⟨kvs', k, v, h3', keyD_v ry hk, h5, c.ok (rm2.setM (o := .dic (dropG kds' k)) h1' h2' trivial ⟨_, upd_same, h4'.drop k⟩) h6⟩
        · exact c.elim
      · exact c.elim
    · exact b.elim
/-- d[k] = v -/
def dputD (m : Mem) (x y d : Dv) : Option Mem := match x with
  | .loc n => match m[n]? with
    | some (.dic kds) => match keyD y with
      | some k => if kds.length < big then some (m.set n (.dic (putG kds k d))) else none
      | none => none
    | some (.dit kds) => match keyT y with
      | some k => if kds.length < big then some (m.set n (.dit (putG kds k d))) else none
      | none => none
    | _ => none
  | _ => none
def sDPutM (o k v : E) : S := fun l m => (v l m).out l fun d m1 => (o l m1).out l fun x m2 => (k l m2).out l fun y m3 => match dputD m3 x y d with
  | some m4 => .nx l m4
  | none => .bad
theorem ms_dput {o k v : Expr} {mo mk mv : E} {pos pos' : Pos} (hu : X.A.units + 1 < cLine) (ho : PE X o (tM G W mo)) (hk : PE X k (tM G W mk)) (hv : PE X v (tM G W mv)) (hs : swapsWith v (some (.Subscript o k pos')) pos.line X.env = pure false) : PS X (.Assign [.Subscript o k pos'] v pos) (tS G W (sDPutM mo mk mv)) :=
  PS_imp (ps_dput hu ho hk hv hs) fun De σ H ⟨D, adr, l, m, rm, rs, a⟩ => stepS rm rs a fun w H1 D1 a1 d m1 e1 f1 rm1 rs1 rv b => stepS rm1 rs1 b fun x H2 D2 a2 dx m2 e2 f2 rm2 rs2 rx c => stepS rm2 rs2 c fun y H3 D3 a3 dy m3 e3 f3 rm3 rs3 ry h => by
    have rv3 := (rv.mono e2 f2).mono e3 f3
    have rx3 := rx.mono e3 f3
    split at h
    · rename_i m4 hm
      unfold dputD at hm
      split at hm
      · rename_i n
        split at hm
        · rename_i kds h0
          split at hm
          · rename_i k' hk'
            split at hm
            · rename_i hl
              cases hm
              obtain ⟨p, rfl, hp, kvs, h2, h3⟩ := rm3.of_loc rx3 h0
              exact ⟨p, _, rfl, .inl ⟨kvs, k', h2, keyD_v ry hk', by rw [h3.length, ← big_eq]; exact hl, rfl⟩, h σ _ D3 a3 (Le.refl _) (Pf.refl _) (rm3.setM (o := .dic (putG kds k' d)) hp h0 trivial ⟨_, upd_same, h3.put k' rv3⟩) rs3⟩
            · cases hm
          · cases hm
        · rename_i kds h0
          split at hm
          · rename_i k' hk'
            split at hm
            · rename_i hl
              cases hm
              obtain ⟨p, rfl, hp, kvs, h2, h3⟩ := rm3.of_loc rx3 h0
              unfold keyT at hk'
              split at hk'
              · obtain ⟨b, vs, rfl, h5, h6⟩ := rm3.tq ry rfl
                rw [keysD_v h6 hk'] at h5
                exact ⟨p, _, rfl, .inr ⟨kvs, k', b, h2, rfl, h5, by rw [h3.length, ← big_eq]; exact hl, rfl⟩, h σ _ D3 a3 (Le.refl _) (Pf.refl _) (rm3.setM (o := .dit (putG kds k' d)) hp h0 trivial ⟨_, upd_same, h3.put k' rv3⟩) rs3⟩
              · cases hk'
            · cases hm
          · cases hm
        · cases hm
      · cases hm
    · exact h.elim

/-! ### texts -/
def txts : List Dv → Option (List Str)
  | [] => some []
  | .str s :: r => (txts r).map (s :: ·)
  | _ => none
theorem txts_v : ∀ {ds : List Dv} {vs : List V} {ss : List Str}, Reps G D adr vs ds → txts ds = some ss → vs = ss.map V.str
  | [], _, _, r, e => by cases r; cases e; rfl
  | d :: ds, _, _, r, e => by
    cases r with
    | cons q s =>
      cases d with
      | str b =>
        unfold txts at e
        obtain ⟨cs, h1, h2⟩ := Option.map_eq_some_iff.mp e
        subst h2
        rw [q.str_inv, txts_v s h1] <;> rfl
      | _ => cases e
theorem reps_strs (K : Cg) (D : Hp) (adr : List Addr) : ∀ ss : List Str, Reps K D adr (ss.map V.str) (ss.map Dv.str)
  | [] => .nil
  | n :: r => .cons (.str n) (reps_strs K D adr r)
def eJoin (o e : E) : E := fun l m => (o l m).bind fun x m1 => match x with
  | .str a => (e l m1).bind fun y m2 => (match (stq m2 y).bind txts with
    | some ss => if (ss.map (·.length)).sum + ss.length * a.length ≤ 16777216 then .ok (.str (Txt.join a ss)) m2 else .bad
    | none => .bad)
  | _ => .bad
def rJoin (K : PySem.W.Frag) : V → List V → Hp → VK → Prop := fun x xs H Q => ∃ a p, ∃ ys : List Str, x = .str a ∧ xs = [.ref p] ∧ (SqL K H p (ys.map V.str) ∨ SqT K H p (ys.map V.str)) ∧ (ys.map (·.length)).sum + ys.length * a.length ≤ 16777216 ∧ Q (.str (Txt.join a ys)) H
theorem me_join {o e : Expr} {mo me : E} {apos pos : Pos} (hk : X.K = G.K) (ho : PE X o (tM G W mo)) (he : PE X e (tM G W me)) (hs : starEach [e] X.env = [(false, eval e X.env)] := by rfl) (hbase : attributeBase o "join" X.env (eval o X.env) = eval o X.env := by rfl) (hline : (apos.endLine == pos.line) = true := by rfl) :
    PE X (.Call (.Attribute o "join" apos) [e] [] pos) (tM G W (eJoin mo me)) := by
  have h : PE X (.Call (.Attribute o "join" apos) [e] [] pos) (tM1 (rJoin X.K) (tM G W mo) (tM G W me)) := pe_join ho he hs hbase hline
  rw [hk] at h
  refine PE_imp h fun σ H Q ⟨D, adr, l, m, rm, rs, a⟩ => ?_
  refine step rm rs a fun x H1 D1 a1 dx m1 e1 f1 rm1 rs1 rx b => ?_
  split at b
  · refine ⟨⟨_, rx.str_inv⟩, ?_⟩
    refine step rm1 rs1 b fun y H2 D2 a2 dy m2 e2 f2 rm2 rs2 ry c => ?_
    split at c
    · rename_i ss hss
      split at c
      · rename_i hz
        obtain ⟨ds, h1, h2⟩ := Option.bind_eq_some_iff.mp hss
        obtain ⟨p, vs, rfl, h3, h4⟩ := rm2.stq ry h1
        rw [txts_v h4 h2] at h3
        exact ⟨_, p, ss, rx.str_inv, rfl, h3, hz, c.ok rm2 (.str _)⟩
      · exact c.elim
    · exact c.elim
  · exact b.elim
def eSplit (o e : E) : E := fun l m => (o l m).bind fun x m1 => match x with
  | .str a => (e l m1).bind fun y m2 => (match y with
    | .str b => if (b.length == 0) = false ∧ a.length + 2 ≤ big then .ok (.lst ((Txt.split a b).map Dv.str)) m2 else .bad
    | _ => .bad)
  | _ => .bad
theorem me_split {o e : Expr} {mo me : E} {apos pos : Pos} (ho : PE X o (tM G W mo)) (he : PE X e (tM G W me)) (hs : starEach [e] X.env = [(false, eval e X.env)] := by rfl) (hbase : attributeBase o "split" X.env (eval o X.env) = eval o X.env := by rfl) (hline : (apos.endLine == pos.line) = true := by rfl) :
    PE X (.Call (.Attribute o "split" apos) [e] [] pos) (tM G W (eSplit mo me)) := by
  refine PE_imp (pe_split ho he hs hbase hline) fun σ H Q ⟨D, adr, l, m, rm, rs, a⟩ => ?_
  refine step rm rs a fun x H1 D1 a1 dx m1 e1 f1 rm1 rs1 rx b => ?_
  split at b
  · refine ⟨⟨_, rx.str_inv⟩, ?_⟩
    refine step rm1 rs1 b fun y H2 D2 a2 dy m2 e2 f2 rm2 rs2 ry c => ?_
    split at c
    · split at c
      · rename_i hz
        rename_i _ a' _ b'
        refine ⟨a', b', rx.str_inv, by rw [ry.str_inv], hz.1, by rw [← big_eq]; exact hz.2, fun p hp => ?_⟩
        have hl : Le D2 (upd D2 p (.lst ((Txt.split a' b').map V.str))) := Le.new (rm2.dfree hp)
        exact c _ _ _ a2 hl (Pf.refl _) (rm2.newD hp) (.lst upd_same (reps_strs _ _ _ _))
      · exact c.elim
    · exact c.elim
  · exact b.elim
end
end Sn
/-! Sn7 -/
set_option Elab.async false
set_option linter.all false
set_option maxRecDepth 100000
set_option autoImplicit false
set_option maxHeartbeats 1000000
/-! Sn7: a module's names as values; the end of a law -/
namespace Sn
open PySem PySem.Spec PyProof.Rows L2

def fuelN : Nat := 1099511627776
section
variable {G : Cg} {X : Cx} {W : WX}
theorem me_gstr {x : Str} {z : Str} {pos : Pos} (hg : Gl X x) (h : ∃ t, X.mg x = some (.str z t)) (hd : (x == ("__debug__" : Str)) = false := by decide) : PE X (.Name x pos) (tM G W (eC (.str z))) := by
  obtain ⟨t, h⟩ := h
  exact me_glob hg h (v := .str z) ⟨t, rfl⟩ (fun _ _ _ => .str z) hd
theorem me_gint {x : Str} {z : Int} {pos : Pos} (hg : Gl X x) (h : ∃ t, X.mg x = some (.int z t)) (hd : (x == ("__debug__" : Str)) = false := by decide) : PE X (.Name x pos) (tM G W (eC (.int z))) := by
  obtain ⟨t, h⟩ := h
  exact me_glob hg h (v := .int z) ⟨t, rfl⟩ (fun _ _ _ => .int z) hd
theorem me_gfn {x : Str} {k : Nat} {a : Addr} {pos : Pos} (hg : Gl X x) (h : X.mg x = some (.ref a)) (e : G.fns k = a) (hd : (x == ("__debug__" : Str)) = false := by decide) : PE X (.Name x pos) (tM G W (eC (.fn k))) :=
  PE_imp (pe_glob (v := .ref a) hg h rfl hd) fun σ H Q ⟨D, adr, l, m, rm, rs, q⟩ => q.ok rm (by subst e; exact .fn k)
end
/-- the context of a def's body -/
abbrev cx (P : Program) (w : World) (K : PySem.W.Frag) (mg : Str → Option Value) (base : Heap) (N : List Str) (qual : Str) (st : Stmt) (f : Addr) (cdv : Value) (A : Around) (outer : List Env) (s : Shared) (H : Hp) (E : XK) : Cx :=
  cxOf (L2N.CX P w) P w K mg base N qual (defScope st) f cdv A outer s H E
/-- what a law asks of its def -/
def spLaw (K : PySem.W.Frag) : Sp := fun vs H Q _ => ∃ (a : Addr) (ns : List Int), vs = [.ref a] ∧ SqL K H a (ns.map V.int) ∧ ns.length ≤ 63 ∧ ∀ H', Q (.bl true) H'
theorem law_imp {G : Cg} {f : Fn} (main : ∀ ns : List Int, ns.length ≤ 63 → ∃ m, f [.scr ns] [] = .ok (.bl true) m) (vs : List V) (H : Hp) (Q : VK) (E : XK) (h : spLaw G.K vs H Q E) : spM G 1 f vs H Q E := by
  obtain ⟨a, ns, rfl, hs, hl, k⟩ := h
  obtain ⟨m, e⟩ := main ns hl
  refine ⟨H, [], [], [.scr ns], RM.start G H, .one (.scr hs), rfl, ?_⟩
  rw [e]
  intro v H' D' a' _ _ _ r
  rw [r.bl_inv]
  exact k H'
theorem cx_end {P : Program} {w : World} {H : Hp} {s : Shared} {e : Value} {s' : Shared} (h : L2N.CX P w [] H s (fun _ _ _ => False) e s') : False := by
  obtain ⟨_, _, _, _, _, _, _, _, _, _, _, _, z⟩ := h
  exact z
theorem walk_law {l : PySem.W.OpenLaw} {k : Nat} {q : Program} {loose : List Str} {XP : (Str → Option Value) → Heap → Prop} {YP : World → Heap → Prop} {d : DefRec} {K : Params → PySem.W.Frag} {x : Str}
    (hn : l.most = some 63) (hdf : d.params.defaults = []) (hr : Room k callerA)
    (hY : ∀ (w : World) (h : Heap), YP w h → (K w.params).In h)
    (F : ∀ (w : World) (mg : Str → Option Value) (fa : Addr) (h : Heap), (K w.params).In h → h.Ns mainGlobals mg → mg d.name = some (.ref fa) →
      ∃ fd : FuncData, (∀ (s : Shared) (u : Value), BindsTo s fd ⟨[u], []⟩ [(x, u)]) ∧
        ∀ base : Heap, (K w.params).In base → base.Ns mainGlobals mg → FnOk l.prog w (K w.params) mg base (L2N.CX l.prog w) k fa fd [x] (spLaw (K w.params))) :
    PySem.W.WalkO q loose XP YP l.row.toRowW d [] (fun f vs => PySem.call f vs) :=
  L2.walk_of (n := 63) (k := k) (x := x) (CX := fun w => L2N.CX l.prog w) (sp := fun w => spLaw (K w.params)) hn (by decide) hdf hr hY F (fun _ _ a ns hl _ hS => ⟨a, ns, rfl, hS, hl, fun _ => rfl⟩) fun _ _ _ _ _ z => cx_end z
end Sn
/-! Sn8 -/
set_option Elab.async false
set_option linter.all false
set_option maxRecDepth 100000
set_option autoImplicit false
set_option maxHeartbeats 1000000
/-! Sn8: sorted -/
namespace Sn
open PySem PySem.Spec PyProof.Rows L2

def sle (a b : Str) : Bool := decide (a.cps.toList ≤ b.cps.toList)
def ile (a b : Int) : Bool := decide (a ≤ b)
section
variable {X : Cx}
/-- what a sort of flat things rests on: how a value stands for one, and what it reads as -/
structure Flat (β : Type) where
  v : β → V
  enc : β → PyData
  reads : ∀ (h : Heap) (b : β) (u : Value), RelV (v b) u → Reads h u (enc b) []
  alike : ∀ b b', PySem.W.alike (enc b) (enc b') = true
  other : ∀ b, enc b ≠ .none ∧ ∀ xs, enc b ≠ .tuple xs
  depth : ∀ b, (enc b).depth = 0
def flStr : Flat Str where
  v := V.str
  enc := PyData.str
  reads := fun h b u r => by obtain ⟨t, rfl⟩ := r; exact .str b t
  alike := fun b b' => rfl
  other := fun b => ⟨fun z => (nomatch z), fun _ z => (nomatch z)⟩
  depth := fun b => by simp [PyData.depth]
def flInt : Flat Int where
  v := V.int
  enc := PyData.int
  reads := fun h b u r => by obtain ⟨t, rfl⟩ := r; exact .int b t
  alike := fun b b' => rfl
  other := fun b => ⟨fun z => (nomatch z), fun _ z => (nomatch z)⟩
  depth := fun b => by simp [PyData.depth]
theorem sort_str (l : List Str) : l.mergeSort (PySem.W.dataLe false PyData.str) = l.mergeSort sle := by
  have e : PySem.W.dataLe false PyData.str = sle := PySem.W.dataLe_str (fun b : Str => b)
  rw [e]
theorem sort_int (l : List Int) : l.mergeSort (PySem.W.dataLe false PyData.int) = l.mergeSort ile := by
  have e : PySem.W.dataLe false PyData.int = ile := PySem.W.dataLe_int (fun b : Int => b)
  rw [e]
theorem each_of_vals {β : Type} (F : Flat β) : ∀ {bs : List β} {us : List Value}, Vals (bs.map F.v) us → PySem.W.EachIs (fun u b => RelV (F.v b) u) us bs
  | [], us, r => by cases r; exact .nil
  | b :: bs, us, r => by
    cases r with
    | cons q t => exact .cons q (each_of_vals F t)
theorem vals_of_each {β : Type} (F : Flat β) : ∀ {bs : List β} {us : List Value}, PySem.W.EachIs (fun u b => RelV (F.v b) u) us bs → Vals (bs.map F.v) us
  | _, _, .nil => .nil
  | _, _, .cons q t => .cons q (vals_of_each F t)
/-- the end of a sort: the list at a is sorted -/
theorem sort_list_at {β : Type} (F : Flat β) {A : Around} {E : Value → Shared → Prop} {s : Shared} {a : Addr} {n : Nat} {us : List Value} {bs : List β} {Q : Value → Shared → Prop} {prog : Program} {w : World} (ho : s.heap.get? a = some (seqObj "list" us.toArray n)) (r : Vals (bs.map F.v) us)
    (hL : bs.length ≤ sizeLine) (hu : A.units + 1 < cLine) (h : ∀ out, Vals ((bs.mergeSort (PySem.W.dataLe false F.enc)).map F.v) out → Q .none { s with heap := sortedHeap s.heap a us (List.toArray out) }) : wpAny (model prog w) A (call (.builtin "list.sort") [.ref a]) Q E s := by
  have e := each_of_vals F r
  refine PySem.W.list_sort_data (enc := F.enc) ho e (e.mono fun u b q => ⟨[], F.reads _ b u q, by simp⟩) (PySem.W.AllAlike.of F.alike) (PySem.W.Sortable.others F.other) hL (fun b _ => by rw [F.depth b]; exact hu) fun out _ eo => h out (vals_of_each F eo)
def rSortKF {β : Type} (F : Flat β) (key : β → Key) : List V → Hp → VK → Prop := fun xs H Q => ∃ (a : Addr) (kvs : List (Key × V)) (ks : List β), xs = [.ref a] ∧ Rd H a (.dK kvs) ∧ kvs.map (·.1) = ks.map key ∧
    ∀ p, H p = none → Q (.ref p) (upd H p (.lst ((ks.mergeSort (PySem.W.dataLe false F.enc)).map F.v)))
/-- sorted(d): its keys -/
theorem call_sortKF {β : Type} (F : Flat β) (key : β → Key) (hkey : ∀ b, kV (key b) = F.v b) (hcalm : X.calm = true) (hu : X.A.units + 64 < cLine) : CallR X (.builtin "sorted") (rSortKF F key) := by
  intro pins s σ H xs us Q I r q
  obtain ⟨a, kvs, ks, ex, hd, hks, q⟩ := q
  subst ex
  obtain ⟨u, eu, rx⟩ := vals1 r
  subst eu
  cases rx
  obtain ⟨z, lo, vs, rel, dd⟩ := dk_rd I.hok hd
  obtain ⟨ep, hat⟩ := dd.dictAt
  have hkeys : vs.map (·.1) = ks.map key := rel.keys.symm.trans hks
  have hl : vs.length = ks.length := by
    have e := congrArg List.length hkeys
    rw [List.length_map, List.length_map] at e
    exact e
  have hzz : kvs.length = vs.length := rel.length
  have h16 : vs.length ≤ sizeLine := by rw [← hzz]; exact z
  refine Calls.call_function_entry PyProof.Rows.kind_sorted PyProof.Rows.plain_sorted PyProof.Rows.entry_sorted (PyProof.Rows.args_sorted1 _) ?_
  unfold Builtin.«sorted»
  refine wpAny_bind (m := checkCount "sorted" 1 1 _) (wpAny_pure ?_)
  refine wpAny_bind (PySem.W.kdu_collect (A := X.A.in1) (PySem.W.kdl_dict (knd := mixKind X.prog X.w) (kvs := vs) (ep := ep) lo) (I.ok.hd hcalm) hat h16 fun h' tk acc hk hacc => ?_)
  have hal : acc.toList.length = ks.length := by rw [Array.length_toList, hacc.1, hl]
  have hV0 : Vals (vs.map fun p => kV p.1) acc.toList := keys_at (by rw [hal, hl]) fun j v e => by
    obtain ⟨k, x, e1, e2⟩ := hacc.2 j v (by rw [← Array.getElem?_toList]; exact e)
    exact ⟨k, x, e1, e2⟩
  have hV : Vals (ks.map F.v) acc.toList := by
    have e : (vs.map fun p => kV p.1) = ks.map F.v := by
      have e1 : (vs.map fun p => kV p.1) = (vs.map (·.1)).map kV := by rw [List.map_map] <;> rfl
      rw [e1, hkeys, List.map_map]
      exact List.map_congr_left fun b _ => hkey b
    rw [← e]
    exact hV0
  have I1 : Inv X pins σ H { s with heap := h', toks := tk } := I.kept hk
  refine wpAny_bind (wpAny_newList ?_ (by rw [hal, ← hl]; exact h16))
  have hoL : (h'.push (seqObj "list" acc.toList.toArray 0)).get? h'.objs.size = some (seqObj "list" acc.toList.toArray 0) := Heap.get?_push_size _ rfl
  show wpAny _ _ _ _ _ { s with heap := h'.push (seqObj "list" acc.toList.toArray 0), toks := tk }
  refine wpAny_bind (wpAny_holding (sort_list_at F (s := { s with heap := h'.push (seqObj "list" acc.toList.toArray 0), toks := tk }) hoL hV (by rw [← hl]; exact h16) (by show X.A.in1.units + 1 < cLine; have : X.A.in1.units = X.A.units + 1 := rfl; omega) fun out ho => ?_))
  obtain ⟨e', he'⟩ := PyProof.Rows.sortedHeap_at (vs := acc.toList) (out := out.toArray) hoL
  have hlen : ((ks.mergeSort (PySem.W.dataLe false F.enc)).map F.v).length ≤ sizeLine := by
    rw [List.length_map, List.length_mergeSort, ← hl]
    exact h16
  refine wpAny_pure ⟨_, rfl, .ref h'.objs.size, upd H h'.objs.size (.lst ((ks.mergeSort (PySem.W.dataLe false F.enc)).map F.v)), I1.laid (t' := tk) (fun b u e => ?_) (Nat.le_refl _)
    (show ObjOk X.prog X.w _ _ _ (.lst _) from ⟨hlen, out, e', ho, he'⟩), rfl, q _ (I1.hok.fresh (Nat.le_refl _))⟩
  have hb : b < h'.objs.size := Heap.lt_size e
  show (sortedHeap (h'.push (seqObj "list" acc.toList.toArray 0)) h'.objs.size acc.toList out.toArray).get? b = some u
  rw [PyProof.Rows.sortedHeap_old (Nat.ne_of_lt hb) (by rw [size_push']; exact Nat.lt_succ_of_lt hb)]
  exact Heap.get?_push_of_some _ e
def rSortLF {β : Type} (K : PySem.W.Frag) (F : Flat β) : List V → Hp → VK → Prop := fun xs H Q => ∃ (a : Addr) (bs : List β), xs = [.ref a] ∧ SqL K H a (bs.map F.v) ∧ ∀ p, H p = none → Q (.ref p) (upd H p (.lst ((bs.mergeSort (PySem.W.dataLe false F.enc)).map F.v)))
/-- sorted(xs), flat things of one kind -/
theorem call_sortLF {β : Type} (F : Flat β) (hu : X.A.units + 64 < cLine) : CallR X (.builtin "sorted") (rSortLF X.K F) := by
  intro pins s σ H xs us Q I r q
  obtain ⟨a, bs, ex, hd, q⟩ := q
  subst ex
  obtain ⟨its, rv, hl, hz⟩ := I.list hd
  rw [Vals.ref1 r]
  have e := each_of_vals F rv
  rw [List.length_map] at hz
  refine PySem.W.sorted_data (enc := F.enc) hl.isList e (e.mono fun u b q => ⟨[], F.reads _ b u q⟩) (PySem.W.AllAlike.of F.alike) (PySem.W.Sortable.others F.other) hz (fun b _ => by rw [F.depth b]; omega) fun out _ eo => ?_
  obtain ⟨ep, he'⟩ := PyProof.Rows.sortedAll_at s.heap its out.toArray
  have hlen : ((bs.mergeSort (PySem.W.dataLe false F.enc)).map F.v).length ≤ sizeLine := by
    rw [List.length_map, List.length_mergeSort]
    exact hz
  exact ⟨.ref _, upd H (s.heap.objs.size + 1) (.lst ((bs.mergeSort (PySem.W.dataLe false F.enc)).map F.v)), I.laid (t' := s.toks) (fun _ _ => PyProof.Rows.sortedAll_old) (Nat.le_succ _) ⟨hlen, out, ep, vals_of_each F eo, he'⟩, rfl, q _ (I.hok.fresh (Nat.le_succ _))⟩
end
section
variable {G : Cg}
def kss : List Key → Option (List Str)
  | [] => some []
  | .inr s :: r => (kss r).map (s :: ·)
  | _ => none
def kis : List Key → Option (List Int)
  | [] => some []
  | .inl s :: r => (kis r).map (s :: ·)
  | _ => none
theorem kss_eq : ∀ {ks : List Key} {ss : List Str}, kss ks = some ss → ks = ss.map Sum.inr
  | [], _, e => by cases e; rfl
  | k :: ks, _, e => by
    cases k with
    | inr b =>
      unfold kss at e
      obtain ⟨cs, h1, h2⟩ := Option.map_eq_some_iff.mp e
      subst h2
      rw [kss_eq h1] <;> rfl
    | inl b => cases e
theorem kis_eq : ∀ {ks : List Key} {ss : List Int}, kis ks = some ss → ks = ss.map Sum.inl
  | [], _, e => by cases e; rfl
  | k :: ks, _, e => by
    cases k with
    | inl b =>
      unfold kis at e
      obtain ⟨cs, h1, h2⟩ := Option.map_eq_some_iff.mp e
      subst h2
      rw [kis_eq h1] <;> rfl
    | inr b => cases e
theorem kss_map (ss : List Str) : kss (ss.map Sum.inr) = some ss := by
  induction ss with
  | nil => rfl
  | cons s r ih => show (kss (r.map Sum.inr)).map (s :: ·) = _; rw [ih] <;> rfl
theorem kis_map (ss : List Int) : kis (ss.map Sum.inl) = some ss := by
  induction ss with
  | nil => rfl
  | cons s r ih => show (kis (r.map Sum.inl)).map (s :: ·) = _; rw [ih] <;> rfl
def sortKsD (ds : List Dv) (m : Mem) : Res Dv := match ds with
  | [x] => match dcAt m x with
    | some (.k kds) => match kss (kds.map (·.1)) with
      | some ss => .ok (.lst ((ss.mergeSort sle).map Dv.str)) m
      | none => .bad
    | _ => .bad
  | _ => .bad
def sortKiD (ds : List Dv) (m : Mem) : Res Dv := match ds with
  | [x] => match dcAt m x with
    | some (.k kds) => match kis (kds.map (·.1)) with
      | some ss => .ok (.lst ((ss.mergeSort ile).map Dv.int)) m
      | none => .bad
    | _ => .bad
  | _ => .bad
theorem new_lst {D : Hp} {adr : List Addr} {m : Mem} {H : Hp} {vs : List V} {ds : List Dv} {σ : L2.St} {W : WX} {Q : VK} (rm : RM G D adr m H) (r : ∀ D adr, Reps G D adr vs ds) (a : Aft G W σ (relE G) D adr (.ok (.lst ds) m) Q) : ∀ p, H p = none → Q (.ref p) (upd H p (.lst vs)) := fun p hp => by
  have hl : Le D (upd D p (.lst vs)) := Le.new (rm.dfree hp)
  exact a _ _ _ adr hl (Pf.refl _) (rm.newD hp) (.lst upd_same (r _ _))
theorem sortKsD_s : CaS G (rSortKF flStr Sum.inr) sortKsD := fun D adr m H xs ds rm r σ W Q a => by
  unfold sortKsD at a
  split at a
  · split at a
    · rename_i kds h
      split at a
      · rename_i ss h2
        obtain ⟨v, rfl, q⟩ := r.one_inv
        obtain ⟨p, kvs, rfl, h3, h4⟩ := rm.dc_k q h
        refine ⟨p, kvs, ss, rfl, h3, h4.1.trans (kss_eq h2), ?_⟩
        show ∀ p, H p = none → Q (.ref p) (upd H p (.lst ((ss.mergeSort (PySem.W.dataLe false PyData.str)).map V.str)))
        rw [sort_str]
        exact new_lst rm (fun _ _ => reps_strs _ _ _ _) a
      · exact a.elim
    · exact a.elim
  · exact a.elim
theorem sortKiD_s : CaS G (rSortKF flInt Sum.inl) sortKiD := fun D adr m H xs ds rm r σ W Q a => by
  unfold sortKiD at a
  split at a
  · split at a
    · rename_i kds h
      split at a
      · rename_i ss h2
        obtain ⟨v, rfl, q⟩ := r.one_inv
        obtain ⟨p, kvs, rfl, h3, h4⟩ := rm.dc_k q h
        refine ⟨p, kvs, ss, rfl, h3, h4.1.trans (kis_eq h2), ?_⟩
        show ∀ p, H p = none → Q (.ref p) (upd H p (.lst ((ss.mergeSort (PySem.W.dataLe false PyData.int)).map V.int)))
        rw [sort_int]
        exact new_lst rm (fun _ _ => reps_ints _ _ _ _) a
      · exact a.elim
    · exact a.elim
  · exact a.elim
def sortSD (ds : List Dv) (m : Mem) : Res Dv := match ds with
  | [x] => match (sq m x).bind txts with
    | some ss => .ok (.lst ((ss.mergeSort sle).map Dv.str)) m
    | none => .bad
  | _ => .bad
theorem sortSD_s : CaS G (rSortLF G.K flStr) sortSD := fun D adr m H xs ds rm r σ W Q a => by
  unfold sortSD at a
  split at a
  · split at a
    · rename_i ss h2
      obtain ⟨v, rfl, q⟩ := r.one_inv
      obtain ⟨es, h3, h4⟩ := Option.bind_eq_some_iff.mp h2
      obtain ⟨p, vs, rfl, h5, h6⟩ := rm.sq q h3
      rw [txts_v h6 h4] at h5
      refine ⟨p, ss, rfl, h5, ?_⟩
      show ∀ p, H p = none → Q (.ref p) (upd H p (.lst ((ss.mergeSort (PySem.W.dataLe false PyData.str)).map V.str)))
      rw [sort_str]
      exact new_lst rm (fun _ _ => reps_strs _ _ _ _) a
    · exact a.elim
  · exact a.elim
def nums : List Dv → Option (List Int)
  | [] => some []
  | .int s :: r => (nums r).map (s :: ·)
  | _ => none
end
end Sn
/-! Sn9 -/
set_option Elab.async false
set_option linter.all false
set_option maxRecDepth 100000
set_option autoImplicit false
set_option maxHeartbeats 1000000
/-! Sn9: try, the clauses' suites hand back constants -/
namespace Sn
open PySem PySem.Spec PyProof.Rows L2

/-! ### constants over a fact of the slots -/
section
variable {X : Cx} {F F' : L2.St → Prop}
def PEk (X : Cx) (F : L2.St → Prop) (e : Expr) (v : V) : Prop := PE X e fun σ H Q => F σ ∧ Q v H
def PTk (X : Cx) (F : L2.St → Prop) (e : Expr) (b : Bool) : Prop := PT X e fun σ H Q => F σ ∧ Q b H
def PWk (X : Cx) (F : L2.St → Prop) (e : Expr) (b : Bool) : Prop := PW X e fun σ H Q => F σ ∧ Q b H
def PAk (X : Cx) (F : L2.St → Prop) (es : List Expr) (vs : List V) : Prop := PA X es fun σ H Q => F σ ∧ Q vs H
def PSk (X : Cx) (F : L2.St → Prop) (ss : List Stmt) (v : V) : Prop := PSs X ss fun D σ H => F σ ∧ D.rt v H
theorem k_c {e : Expr} {v : V} (h : PE X e (tC v)) : PEk X F e v := PE_imp h fun σ H Q q => q.2
theorem k_var {i : Nat} {e : Expr} {v : V} (hF : ∀ σ, F σ → σ[i]? = some (some v)) (h : PE X e (tVar i)) : PEk X F e v := PE_imp h fun σ H Q q => ⟨v, hF σ q.1, q.2⟩
theorem ka_nil : PAk X F [] [] := PA_imp pa_nil fun σ H Q q => q.2
theorem ka_cons {e : Expr} {es : List Expr} {v : V} {vs : List V} (he : PEk X F e v) (hr : PAk X F es vs) (hs : starEach (e :: es) X.env = (false, eval e X.env) :: starEach es X.env := by rfl) : PAk X F (e :: es) (v :: vs) :=
  PA_imp (pa_cons he hr hs) fun σ H Q q => ⟨q.1, q.1, q.2⟩
theorem k_op {op : Operator} {r : R2} {a b : Expr} {x y z : V} {pos : Pos} (hz : ∀ H Q, Q z H → r x y H Q) (ho : OpR X (binaryOp op) r) (ha : PEk X F a x) (hb : PEk X F b y) : PEk X F (.BinOp a op b pos) z :=
  PE_imp (pe_op ho ha hb) fun σ H Q q => ⟨q.1, q.1, hz H Q q.2⟩
theorem k_and {a b : Expr} {rest : List Expr} {x y : Bool} {pos : Pos} (ha : PEk X F a (.bl x)) (hb : PEk X F (.BoolOp .And (b :: rest) pos) (.bl y)) : PEk X F (.BoolOp .And (a :: b :: rest) pos) (.bl (x && y)) :=
  PE_imp (pe_and ha hb) fun σ H Q q => ⟨q.1, x, rfl, by
    cases x with
    | true => exact ⟨q.1, q.2⟩
    | false => exact q.2⟩
theorem k_one {a : Expr} {op} {x : V} {pos : Pos} (ha : PEk X F a x) : PEk X F (.BoolOp op [a] pos) x := pe_one ha
theorem kt_val {e : Expr} {x : Bool} (h : PEk X F e (.bl x)) (he : ∀ whole, isTrue e X.env whole = (do let v ← whole; standAt e.pos; holding [v] (truthy v)) := by intro _; rfl) : PTk X F e x :=
  PT_imp (pt_val h he) fun σ H Q q => ⟨q.1, x, rfl, q.2⟩
theorem kw_or1 {a : Expr} {x : Bool} {pos : Pos} (h : PTk X F a x) : PWk X F (.BoolOp .Or [a] pos) x := pw_or1 h
theorem kw_or {a b : Expr} {rest : List Expr} {x y : Bool} {pos : Pos} (ha : PTk X F a x) (hb : PWk X F (.BoolOp .Or (b :: rest) pos) y) : PWk X F (.BoolOp .Or (a :: b :: rest) pos) (x || y) :=
  PW_imp (pw_or ha hb) fun σ H Q q => ⟨q.1, by
    cases x with
    | true => exact q.2
    | false => exact ⟨q.1, q.2⟩⟩
theorem kt_w {e : Expr} {x : Bool} (h : PWk X F e x) : PTk X F e x := PW.pt h
theorem b_isinstance : bootBuiltins "isinstance" = some (.builtin "isinstance") := by decide +kernel
/-- isinstance(e, C), e the exception of the suite -/
theorem k_isE {a D : Addr} {oe : Obj} {pn : List (Addr × Obj)} {e y : Expr} {cv : V} {cu : Value} {b : Bool} {p pos : Pos} (C : ExcC X.K D) (hz : L2N.Zn (.ref D) none oe) (hf : ∃ vs, oe.data = .fields vs)
    (hg : Gl X "isinstance") (hm : X.mg "isinstance" = none) (he : PEk (X.suite a ((a, oe) :: pn)) F e (.ref a)) (hy : PEk (X.suite a ((a, oe) :: pn)) F y cv) (hr : ∀ u, RelV cv u → u = cu) (hk : PySem.W.kitOne X.K (.ref D) cu = some b)
    (h1 : starEach [e, y] X.env = (false, eval e X.env) :: starEach [y] X.env := by rfl) (h2 : starEach [y] X.env = (false, eval y X.env) :: starEach [] X.env := by rfl) (hpl : (backTo pos (starEach [y] X.env)).any (·.1) = false := by rfl) :
    PEk (X.suite a ((a, oe) :: pn)) F (.Call (.Name "isinstance" p) [e, y] [] pos) (.bl b) :=
  PE_imp (pe_callB (X := X.suite a ((a, oe) :: pn)) (call_isE C hz.zc hf) hg hm b_isinstance (ka_cons he (ka_cons hy ka_nil h2) h1) (by decide) (by decide) h1 hpl) fun σ H Q q => ⟨q.1, cv, cu, b, rfl, hr, hk, q.2⟩
theorem k_int {e : Expr} {b : Bool} {p pos : Pos} (hg : Gl X "int") (hm : X.mg "int" = none) (he : PEk X F e (.bl b)) (h1 : starEach [e] X.env = (false, eval e X.env) :: starEach [] X.env := by rfl) (hpl : (backTo pos (starEach [] X.env)).any (·.1) = false := by rfl) :
    PEk X F (.Call (.Name "int" p) [e] [] pos) (.int (if b then 1 else 0)) :=
  PE_imp (pe_callTy call_int1 hg hm b_int (ka_cons he ka_nil h1) (by decide) (by decide) h1 hpl) fun σ H Q q => ⟨q.1, .inr ⟨b, rfl, q.2⟩⟩
theorem kit_own {K : PySem.W.Frag} {D C : Addr} {b : Bool} (hd : PySem.W.hasDictIn K C = true) (ty : PySem.W.typeIn K (.ref C) = some (.type "type")) (h : PySem.W.subIn K (.ref D) (.ref C) = some b) (hs : PySem.W.subIn K (.ref C) (.ref C) = some true) :
    PySem.W.kitOne K (.ref D) (.ref C) = some b := by
  obtain ⟨cd, hc, _⟩ := PySem.W.any_some hd
  have e2 : ((PySem.W.clsIn K C).isSome && PySem.W.typeIn K (.ref C) == some (.type "type")) = true := by rw [hc, ty] <;> rfl
  unfold PySem.W.kitOne
  split
  · rename_i g
    have g : Value.ref D = Value.ref C := beq_iff_eq.mp g
    cases g
    rw [hs] at h
    exact h
  · show (if ((PySem.W.clsIn K C).isSome && PySem.W.typeIn K (.ref C) == some (.type "type")) = true then _ else _) = _
    rw [if_pos e2]
    exact h
theorem b_ValueError : bootBuiltins "ValueError" = some (.type "ValueError") := by decide +kernel
theorem kit_val {K : PySem.W.Frag} {D : Addr} {b : Bool} (h : PySem.W.subIn K (.ref D) (.type "ValueError") = some b) : PySem.W.kitOne K (.ref D) (.type "ValueError") = some b := by
  show (if (Value.ref D == Value.type "ValueError") = true then some true else (if PySem.W.kitMeta "ValueError" = true then PySem.W.subIn K (.ref D) (.type "ValueError") else none)) = _
  rw [if_neg (by intro z; cases (beq_iff_eq.mp z)), if_pos (by decide +kernel)]
  exact h
/-! statements -/
theorem pss_no {ss : List Stmt} : PSs X ss (fun _ _ _ => False) := ⟨fun _ _ _ _ _ _ h => h.elim⟩
theorem ks_ret {e : Expr} {v : V} {pos : Pos} {rest : List Stmt} (h : PEk X F e v) : PSk X F (.Return (some e) pos :: rest) v :=
  PSs_imp (pss_cons (ps_ret h) (pss_no (ss := rest))) fun D σ H q => q
theorem ks_if {t : Expr} {b : Bool} {body rest : List Stmt} {v : V} {pos : Pos} (ht : PTk X F t b) (ha : b = true → PSk X F body v) (hb : b = false → PSk X F rest v) : PSk X F (.If t body [] pos :: rest) v := by
  cases b with
  | true => exact PSs_imp (pss_cons (ps_if ht (ha rfl) pss_nil) (pss_no (ss := rest))) fun D σ H q => ⟨q.1, q⟩
  | false => exact PSs_imp (pss_cons (ps_if ht (pss_no (ss := body)) pss_nil) (hb rfl)) fun D σ H q => ⟨q.1, q⟩
theorem ks_set {i : Nat} {x : Str} {e : Expr} {v w : V} {pos pos' : Pos} {rest : List Stmt} (h : PS X (.Assign [.Name x pos'] e pos) (tAsg (fun σ H Q => F σ ∧ Q w H) (gName i))) (hr : PSk X (fun σ' => ∃ σ, F σ ∧ σ' = σ.set i (some w)) rest v) : PSk X F (.Assign [.Name x pos'] e pos :: rest) v :=
  PSs_imp (pss_cons h hr) fun D σ H q => ⟨q.1, ⟨σ, q.1, rfl⟩, q.2⟩

/-! ### try -/
def dvV : Dv → Option V
  | .non => some .non
  | .bl b => some (.bl b)
  | .int i => some (.int i)
  | .str s => some (.str s)
  | _ => none
theorem dvV_rep {G : Cg} {D : Hp} {adr : List Addr} {d : Dv} {v : V} (h : dvV d = some v) : Rep G D adr v d := by
  unfold dvV at h
  split at h <;> cases h
  · exact .non
  · exact .bl _
  · exact .int _
  · exact .str _
/-- body; for the class c of what it raises: unknown here, not caught, or caught and this handed back -/
def sTryA (i : Nat) (tab : List (XC × Option Dv)) (body : S) : S := fun l m => match body l m with
  | .exc c l1 m1 => match tab.lookup c with
    | some (some d) => if i < l1.length then .rt d m1 else .bad
    | some none => .exc c l1 m1
    | none => .bad
  | o => o
def sTry (tab : List (XC × Option Dv)) (body : S) : S := fun l m => match body l m with
  | .exc c l1 m1 => match tab.lookup c with
    | some (some d) => .rt d m1
    | some none => .exc c l1 m1
    | none => .bad
  | o => o
/-- the clause 'except cv as n' (slot i) at each class of the table -/
inductive HdC (G : Cg) (X : Cx) (cv : Value) (i : Nat) (suite : List Stmt) : List (XC × Option Dv) → Prop
  | nil : HdC G X cv i suite []
  | miss {c : XC} {tab : List (XC × Option Dv)} (hx : PySem.W.exmOne X.K (.ref (G.xa c)) cv = some false) (r : HdC G X cv i suite tab) : HdC G X cv i suite ((c, none) :: tab)
  | hit {c : XC} {d : Dv} {v : V} {tab : List (XC × Option Dv)} (hx : PySem.W.exmOne X.K (.ref (G.xa c)) cv = some true) (hv : dvV d = some v)
      (hs : ∀ (a : Addr) (oe : Obj) (pn : List (Addr × Obj)), L2N.Zn (.ref (G.xa c)) none oe → (∃ vs, oe.data = .fields vs) → PSk (X.suite a ((a, oe) :: pn)) (fun σ => σ[i]? = some (some (.ref a))) suite v) (r : HdC G X cv i suite tab) :
      HdC G X cv i suite ((c, some d) :: tab)
theorem HdC.get {G : Cg} {X : Cx} {cv : Value} {i : Nat} {suite : List Stmt} {tab : List (XC × Option Dv)} (h : HdC G X cv i suite tab) {c : XC} {o : Option Dv} (e : tab.lookup c = some o) :
    PySem.W.exmOne X.K (.ref (G.xa c)) cv = some o.isSome ∧ ∀ d, o = some d → ∃ v, dvV d = some v ∧ ∀ (a : Addr) (oe : Obj) (pn : List (Addr × Obj)), L2N.Zn (.ref (G.xa c)) none oe → (∃ vs, oe.data = .fields vs) →
      PSk (X.suite a ((a, oe) :: pn)) (fun σ => σ[i]? = some (some (.ref a))) suite v := by
  induction h with
  | nil => cases e
  | miss hx r ih =>
    rename_i c' tab
    rw [List.lookup_cons] at e
    by_cases g : c = c'
    · subst g
      simp at e
      subst e
      exact ⟨hx, fun d z => by cases z⟩
    · have g' : (c == c') = false := by simpa using g
      rw [g'] at e
      exact ih e
  | hit hx hv hs r ih =>
    rename_i c' d' v' tab
    rw [List.lookup_cons] at e
    by_cases g : c = c'
    · subst g
      simp at e
      subst e
      exact ⟨hx, fun d z => by cases z; exact ⟨_, hv, hs⟩⟩
    · have g' : (c == c') = false := by simpa using g
      rw [g'] at e
      exact ih e
/-- the suite's reading, for any exception of the table's classes -/
def tHd (G : Cg) (X : Cx) (suite : List Stmt) (i : Nat) (a : Addr) (cls : Value) (d : Option Addr) : TS := fun D σ H => ∃ (c : XC) (v : V), cls = .ref (G.xa c) ∧ d = none ∧
  (∀ (oe : Obj) (pn : List (Addr × Obj)), L2N.Zn (.ref (G.xa c)) none oe → (∃ vs, oe.data = .fields vs) → PSk (X.suite a ((a, oe) :: pn)) (fun σ => σ[i]? = some (some (.ref a))) suite v) ∧ σ[i]? = some (some (.ref a)) ∧ D.rt v H
theorem ms_try_as {G : Cg} {W : WX} {x n : Str} {cv : Value} {i : Nat} {tab : List (XC × Option Dv)} {body suite : List Stmt} {mb : S} {b₀ : Stmt} {np pos pos' : Pos} (hk : X.K = G.K) (hs : X.stack = X.env :: X.outer) (hf : X.env.frame = some X.env.locals) (hN : X.N.Nodup) (hi : X.N[i]? = some n) (hln : X.env.kindOf n = some .local)
    (hc : Names X x cv) (tk : L2N.Takes X W) (hb : ∀ (W : WX) (pn : List (Addr × Obj)) (xe : Value → Shared → Prop), L2N.Takes (X.tr pn xe) W → PassesOwn (model X.prog X.w) X.A X.env xe → PSs (X.tr pn xe) body (tS G W mb))
    (hh : HdC G X cv i (b₀ :: suite) tab) : PS X (.Try body [.ExceptHandler (some (.Name x np)) (some n) (b₀ :: suite) pos'] [] [] pos) (tS G W (sTryA i tab mb)) := by
  refine PS_imp (L2N.ps_try_as (tb := fun W => tS G W mb) (ts := tHd G X (b₀ :: suite) i) (Wout := W) hs hf hN hi hln hc tk hb fun a oe cls d pn z f => ?_) fun De σ H ⟨D, adr, l, m, rm, rs, q⟩ => ?_
  · refine ⟨fun pins s σ H D I ⟨c, v, e1, e2, h, hσ, q⟩ => ?_⟩
    subst e1 e2
    exact (h oe pn z f).run pins s σ H D I ⟨hσ, q⟩
  · refine ⟨D, adr, l, m, rm, rs, ?_⟩
    unfold sTryA at q
    cases e : mb l m with
    | nx l1 m1 => rw [e] at q; exact q
    | rt d m1 => rw [e] at q; exact q
    | bk l1 m1 => rw [e] at q; exact q
    | ct l1 m1 => rw [e] at q; exact q
    | bad => rw [e] at q; exact q.elim
    | exc c l1 m1 =>
      rw [e] at q
      intro σ' H' D' a' le pf rm' rs'
      show wAs _ _ _ _ _ _ _ _ _ _
      cases hl : tab.lookup c with
      | none => simp only [hl] at q; exact q.elim
      | some o =>
        obtain ⟨h1, h2⟩ := hh.get hl
        simp only [hl] at q
        refine ⟨_, h1, ?_, ?_⟩
        · intro ho a ha
          cases o with
          | none => cases ho
          | some d =>
            obtain ⟨v, hv, hs⟩ := h2 d rfl
            by_cases hi : i < l1.length
            · simp only [hi, if_true] at q
              exact ⟨c, v, rfl, rfl, hs a, List.getElem?_set_self (by rw [← rs'.1]; exact hi), q v H' D' a' le pf rm' (dvV_rep hv)⟩
            · simp only [hi, if_false] at q
              exact q.elim
        · intro ho
          cases o with
          | some d => cases ho
          | none => exact q σ' H' D' a' le pf rm' rs'

/-- the clauses without a name, at one class: the first that catches, or none -/
inductive McC (G : Cg) (X : Cx) (c : XC) : List ExceptHandler → List (Value × V) → Option V → Prop
  | nil : McC G X c [] [] none
  | miss {x : Str} {cv : Value} {u : V} {b₀ : Stmt} {suite : List Stmt} {np pos' : Pos} {hds : List ExceptHandler} {l : List (Value × V)} {o : Option V} (hx : PySem.W.exmOne X.K (.ref (G.xa c)) cv = some false) (r : McC G X c hds l o) :
      McC G X c (.ExceptHandler (some (.Name x np)) none (b₀ :: suite) pos' :: hds) ((cv, u) :: l) o
  | hit {x : Str} {cv : Value} {u : V} {b₀ : Stmt} {suite : List Stmt} {np pos' : Pos} {hds : List ExceptHandler} {l : List (Value × V)} (hx : PySem.W.exmOne X.K (.ref (G.xa c)) cv = some true) :
      McC G X c (.ExceptHandler (some (.Name x np)) none (b₀ :: suite) pos' :: hds) ((cv, u) :: l) (some u)
/-- the clauses hold constants -/
inductive HdsK (X : Cx) : List ExceptHandler → List (Value × V) → Prop
  | nil : HdsK X [] []
  | cons {x : Str} {cv : Value} {u : V} {b₀ : Stmt} {suite : List Stmt} {np pos' : Pos} {hds : List ExceptHandler} {l : List (Value × V)} (hc : Names X x cv)
      (hsu : ∀ (a : Addr) (oe : Obj) (pn : List (Addr × Obj)), PSk (X.suite a ((a, oe) :: pn)) (fun _ => True) (b₀ :: suite) u) (r : HdsK X hds l) :
      HdsK X (.ExceptHandler (some (.Name x np)) none (b₀ :: suite) pos' :: hds) ((cv, u) :: l)
def kTs (u : V) : Addr → Value → Option Addr → TS := fun _ _ _ D _ H => D.rt u H
def kL (l : List (Value × V)) : List (Value × (Addr → Value → Option Addr → TS)) := l.map fun p => (p.1, kTs p.2)
theorem HdsK.ok {hds : List ExceptHandler} {l : List (Value × V)} (h : HdsK X hds l) : L2N.HdsOk X hds (kL l) := by
  induction h with
  | nil => exact .nil
  | cons hc hsu r ih => exact .cons hc (fun a oe cls d pn z f => PSs_imp (hsu a oe pn) fun D σ H q => ⟨trivial, q⟩) ih
/-- the table's rows -/
inductive TabK (G : Cg) (X : Cx) (hds : List ExceptHandler) (l : List (Value × V)) : List (XC × Option Dv) → Prop
  | nil : TabK G X hds l []
  | miss {c : XC} {tab : List (XC × Option Dv)} (h : McC G X c hds l none) (r : TabK G X hds l tab) : TabK G X hds l ((c, none) :: tab)
  | hit {c : XC} {d : Dv} {v : V} {tab : List (XC × Option Dv)} (hv : dvV d = some v) (h : McC G X c hds l (some v)) (r : TabK G X hds l tab) : TabK G X hds l ((c, some d) :: tab)
theorem TabK.get {G : Cg} {hds : List ExceptHandler} {l : List (Value × V)} {tab : List (XC × Option Dv)} (h : TabK G X hds l tab) {c : XC} {o : Option Dv} (e : tab.lookup c = some o) :
    ∃ ov, McC G X c hds l ov ∧ (∀ d, o = some d → ∃ v, dvV d = some v ∧ ov = some v) ∧ (o = none → ov = none) := by
  induction h with
  | nil => cases e
  | miss hx r ih =>
    rename_i c' tab
    rw [List.lookup_cons] at e
    by_cases g : c = c'
    · subst g
      simp at e
      subst e
      exact ⟨_, hx, fun d z => (by cases z), fun _ => rfl⟩
    · have g' : (c == c') = false := by simpa using g
      rw [g'] at e
      exact ih e
  | hit hv hs r ih =>
    rename_i c' d' v' tab
    rw [List.lookup_cons] at e
    by_cases g : c = c'
    · subst g
      simp at e
      subst e
      exact ⟨_, hs, fun d z => (by cases z; exact ⟨_, hv, rfl⟩), fun z => by cases z⟩
    · have g' : (c == c') = false := by simpa using g
      rw [g'] at e
      exact ih e
theorem McC.wish {G : Cg} {c : XC} {hds : List ExceptHandler} {l : List (Value × V)} {ov : Option V} (h : McC G X c hds l ov) {Wout : WX} {D : Ends} {σ : L2.St} {H : Hp}
    (h1 : ∀ v, ov = some v → D.rt v H) (h2 : ov = none → Wout (.ref (G.xa c)) none σ H) : wMany X.K Wout D (kL l) (.ref (G.xa c)) none σ H := by
  induction h with
  | nil => exact h2 rfl
  | miss hx r ih => exact ⟨false, hx, fun z => (by cases z), fun _ => ih h1 h2⟩
  | hit hx => exact ⟨true, hx, fun _ a _ => h1 _ rfl, fun z => (by cases z)⟩
theorem ms_try {G : Cg} {W : WX} {tab : List (XC × Option Dv)} {l : List (Value × V)} {body : List Stmt} {mb : S} {h₀ : ExceptHandler} {hds : List ExceptHandler} {pos : Pos} (hs : X.stack = X.env :: X.outer) (hf : X.env.frame = some X.env.locals)
    (tk : L2N.Takes X W) (hb : ∀ (W : WX) (pn : List (Addr × Obj)) (xe : Value → Shared → Prop), L2N.Takes (X.tr pn xe) W → PassesOwn (model X.prog X.w) X.A X.env xe → PSs (X.tr pn xe) body (tS G W mb))
    (hh : HdsK X (h₀ :: hds) l) (ht : TabK G X (h₀ :: hds) l tab) : PS X (.Try body (h₀ :: hds) [] [] pos) (tS G W (sTry tab mb)) := by
  refine PS_imp (L2N.ps_try_many (tb := fun W => tS G W mb) (Wout := W) hs hf tk hb hh.ok) fun De σ H ⟨D, adr, l, m, rm, rs, q⟩ => ?_
  refine ⟨D, adr, l, m, rm, rs, ?_⟩
  unfold sTry at q
  cases e : mb l m with
  | nx l1 m1 => rw [e] at q; exact q
  | rt d m1 => rw [e] at q; exact q
  | bk l1 m1 => rw [e] at q; exact q
  | ct l1 m1 => rw [e] at q; exact q
  | bad => rw [e] at q; exact q.elim
  | exc c l1 m1 =>
    rw [e] at q
    intro σ' H' D' a' le pf rm' rs'
    cases hl : tab.lookup c with
    | none => simp only [hl] at q; exact q.elim
    | some o =>
      obtain ⟨ov, h1, h2, h3⟩ := ht.get hl
      simp only [hl] at q
      refine h1.wish (fun v hv => ?_) fun hn => ?_
      · cases o with
        | none => rw [h3 rfl] at hv; cases hv
        | some d =>
          obtain ⟨v', hv', e2⟩ := h2 d rfl
          rw [e2] at hv
          cases hv
          exact q v H' D' a' le pf rm' (dvV_rep hv')
      · cases o with
        | some d =>
          obtain ⟨v', _, e2⟩ := h2 d rfl
          rw [e2] at hn
          cases hn
        | none => exact q σ' H' D' a' le pf rm' rs'
end
end Sn
/-! Sn10 -/
set_option Elab.async false
set_option linter.all false
set_option maxRecDepth 100000
set_option autoImplicit false
set_option maxHeartbeats 1000000
/-! Sn10: a name that holds a def, called; a list that changes no more -/
namespace Sn
open PySem PySem.Spec PyProof.Rows L2
section
variable {G : Cg} {X : Cx} {W : WX}
def tCallLS (i : Nat) (f : Addr) (sp : Sp) (E : L2.St → XK) (t : TA) : TE := fun σ H Q => σ[i]? = some (some (.ref f)) ∧ t σ H fun vs H1 => sp vs H1 Q (E σ)
theorem pe_callLS {CX : CXT} {k i : Nat} {f : Addr} {fd : FuncData} {ps : List Str} {sp : Sp} {E : L2.St → XK} {x : Str} {p pos : Pos} {e : Expr} {es : List Expr} {t : TA} (F : FnOk X.prog X.w X.K X.mg X.base CX k f fd ps sp) (hr : Room k X.A) (hN : X.N[i]? = some x) (hv : Vis X.env.scope x)
    (hk : PySem.W.keepIn X.K (.ref f) = true) (hb : Binds X.K fd ps []) (hx : ∀ σ, PassesAt CX X σ (E σ)) (ha : PA X (e :: es) t) (hdb : (x == ("__debug__" : Str)) = false := by decide) (hcd : (x == ("__classdict__" : Str)) = false := by decide)
    (he : starEach (e :: es) X.env = (false, eval e X.env) :: starEach es X.env := by rfl) (hpl : (backTo pos (starEach es X.env)).any (·.1) = false := by rfl) : PE X (.Call (.Name x p) (e :: es) [] pos) (tCallLS i f sp E t) := by
  refine ⟨fun pins s σ H Q I h => ?_⟩
  obtain ⟨hs, ht⟩ := h
  refine wpAny_Call_Name_kw (thn ((pe_var (pos := p) hN hv hdb hcd).run pins s σ H (fun v H1 => v = .ref f ∧ H1 = H) I ⟨.ref f, hs, rfl, rfl⟩) fun u s1 ⟨v, H1, I1, r1, q1⟩ => ?_)
  obtain ⟨rfl, rfl⟩ := q1
  cases r1
  refine PySem.W.callWith_K (h₀ := X.base) I.ok.mod.kin hk (thn (ha.run pos pins s1 σ _ _ I1 ht) fun us s2 ⟨vs, H2, I2, r, q⟩ => ⟨I2.kIn, ?_⟩) he hpl
  exact run_fnS F hr hb (hx σ) I2 r q
/-- the defs that a name may hold, from number k on -/
inductive HeldL (G : Cg) (P : Program) (w : World) (mg : Str → Option Value) (base : Heap) (n j : Nat) : Nat → List Fn → Prop
  | nil {k : Nat} : HeldL G P w mg base n j k []
  | cons {k q : Nat} {f : Fn} {fd : FuncData} {ps : List Str} {fs : List Fn} (hq : q ≤ j) (F : FnOk P w G.K mg base (L2N.CX P w) q (G.fns k) fd ps (spM G n f)) (hk : PySem.W.keepIn G.K (.ref (G.fns k)) = true) (hb : Binds G.K fd ps []) (r : HeldL G P w mg base n j (k + 1) fs) :
      HeldL G P w mg base n j k (f :: fs)
theorem HeldL.get {P : Program} {w : World} {mg : Str → Option Value} {base : Heap} {n j : Nat} {k : Nat} {fs : List Fn} (h : HeldL G P w mg base n j k fs) : ∀ {i : Nat} {f : Fn}, fs[i]? = some f →
    ∃ q fd ps, q ≤ j ∧ FnOk P w G.K mg base (L2N.CX P w) q (G.fns (k + i)) fd ps (spM G n f) ∧ PySem.W.keepIn G.K (.ref (G.fns (k + i))) = true ∧ Binds G.K fd ps [] := by
  induction h with
  | nil => intro i f e; simp at e
  | cons hq F hk hb r ih =>
    intro i f e
    cases i with
    | zero =>
      simp at e
      subst e
      exact ⟨_, _, _, hq, F, hk, hb⟩
    | succ i =>
      have := ih (i := i) (by simpa using e)
      rwa [show ∀ k, k + 1 + i = k + (i + 1) from fun k => by omega] at this
def eCallV (i n : Nat) (fs : List Fn) (ms : A) : E := fun l m => match l[i]? with
  | some (some (.fn k)) => match fs[k]? with
    | some f => (ms l m).bind fun ds m1 => if ds.length = n then f ds m1 else .bad
    | none => .bad
  | _ => .bad
theorem me_callV {i n j : Nat} {fs : List Fn} {x : Str} {p pos : Pos} {e : Expr} {es : List Expr} {ms : A} (hK : X.K = G.K) (A : HeldL G X.prog X.w X.mg X.base n j 0 fs) (tk : L2N.Takes X W) (hr : Room j X.A) (hN : X.N[i]? = some x) (hv : Vis X.env.scope x) (ha : PA X (e :: es) (tMA G W ms))
    (hdb : (x == ("__debug__" : Str)) = false := by decide) (hcd : (x == ("__classdict__" : Str)) = false := by decide) (he : starEach (e :: es) X.env = (false, eval e X.env) :: starEach es X.env := by rfl) (hpl : (backTo pos (starEach es X.env)).any (·.1) = false := by rfl) :
    PE X (.Call (.Name x p) (e :: es) [] pos) (tM G W (eCallV i n fs ms)) := by
  refine ⟨fun pins s σ H Q I h => ?_⟩
  obtain ⟨D, adr, l, m, rm, rs, a⟩ := h
  unfold eCallV at a
  cases hl : l[i]? with
  | none => rw [hl] at a; exact a.elim
  | some o =>
    rw [hl] at a
    cases o with
    | none => exact a.elim
    | some d =>
      cases d with
      | fn k =>
        cases hf : fs[k]? with
        | none => simp only [hf] at a; exact a.elim
        | some f =>
          simp only [hf] at a
          obtain ⟨q, fd, ps, hq, F, hk, hb⟩ := A.get hf
          rw [Nat.zero_add] at F hk
          rw [← hK] at F hk hb
          obtain ⟨v, hv1, hv2⟩ := rs.2 i _ hl
          have ev : v = .ref (G.fns k) := by cases hv2; rfl
          rw [ev] at hv1
          refine (pe_callLS (p := p) F (hr.mono hq) hN hv hk hb (fun σ => L2N.passAt tk σ) ha hdb hcd he hpl).run pins s σ H Q I ⟨hv1, ?_⟩
          exact step rm rs a fun vs H1 D1 a1 ds m1 e1 f1 rm1 rs1 r b => by
            split at b
            · rename_i hl
              exact ⟨D1, a1, m1, ds, rm1, r, hl, aft_we b⟩
            · exact b.elim
      | _ => exact a.elim
/-- from here on the list that the name i holds is data -/
def sThaw (i : Nat) (s : S) : S := fun l m => match l[i]? with
  | some (some (.loc n)) => match m[n]? with
    | some (.lst ds) => s (l.set i (some (.lst ds))) (m.set n .dead)
    | _ => .bad
  | _ => .bad
theorem thaw_imp {i : Nat} {s : S} (De : Ends) (σ : L2.St) (H : Hp) (h : tS G W (sThaw i s) De σ H) : tS G W s De σ H := by
  obtain ⟨D, adr, l, m, rm, rs, a⟩ := h
  unfold sThaw at a
  split at a
  · rename_i n hl
    split at a
    · rename_i ds hm
      obtain ⟨v, h1, h2⟩ := rs.2 i _ hl
      obtain ⟨b, rfl, g1, vs, g2, g3⟩ := rm.of_loc h2 hm
      obtain ⟨rm2, le⟩ := rm.freeze g1 hm trivial g2
      refine ⟨_, adr, _, _, rm2, ?_, a.mono le (Pf.refl _)⟩
      have rs2 := rs.mono le (Pf.refl _)
      refine ⟨by simp [rs2.1], fun j d e => ?_⟩
      by_cases hij : i = j
      · subst hij
        rw [List.getElem?_set_self (List.getElem?_eq_some_iff.mp hl).1] at e
        cases e
        exact ⟨_, h1, .lst upd_same (Reps.mono le (Pf.refl _) _ _ g3)⟩
      · rw [List.getElem?_set_ne hij] at e
        exact rs2.2 j d e
    · exact a.elim
  · exact a.elim
theorem ms_thaw {i : Nat} {st : Stmt} {s : S} (h : PS X st (tS G W s)) : PS X st (tS G W (sThaw i s)) := PS_imp h fun De σ H q => thaw_imp De σ H q
theorem mss_thaw {i : Nat} {sts : List Stmt} {s : S} (h : PSs X sts (tS G W s)) : PSs X sts (tS G W (sThaw i s)) := PSs_imp h fun De σ H q => thaw_imp De σ H q
end
end Sn
/-! Sx -/
set_option Elab.async false
set_option linter.all false
set_option maxRecDepth 100000
set_option autoImplicit false
set_option maxHeartbeats 1000000
/-! Sx: how the mirror is reckoned with -/
namespace Sn
open PySem PySem.Spec PyProof.Rows L2


/-! what comes next waits, unseen by the simplifier, until what is before it is known -/
theorem rr {α : Type} {a b : α} (h : a = b) : a = b := h
class Kt (α β : Type) where
  k : α → Mem → Res β
class Ko (α : Type) where
  k : α → Mem → Out
def Res.go {α β : Type} (r : Res α) [i : Kt α β] : Res β := r.bind i.k
def Res.goS {α : Type} (r : Res α) (l : Lc) [i : Ko α] : Out := r.out l i.k
@[simp ↓] theorem bind_go {α β : Type} (r : Res α) (k : α → Mem → Res β) : Res.bind r k = @Res.go α β r ⟨k⟩ := rr rfl
@[simp ↓] theorem out_go {α : Type} (r : Res α) (l : Lc) (k : α → Mem → Out) : Res.out r l k = @Res.goS α r l ⟨k⟩ := rr rfl
@[simp] theorem go_ok {α β : Type} (a : α) (m : Mem) (k : α → Mem → Res β) : @Res.go α β (.ok a m) ⟨k⟩ = k a m := rr rfl
@[simp] theorem go_exc {α β : Type} (c : XC) (m : Mem) (k : α → Mem → Res β) : @Res.go α β (.exc c m) ⟨k⟩ = .exc c m := rr rfl
@[simp] theorem goS_ok {α : Type} (a : α) (m : Mem) (l : Lc) (k : α → Mem → Out) : @Res.goS α (.ok a m) l ⟨k⟩ = k a m := rr rfl
@[simp] theorem goS_exc {α : Type} (c : XC) (m : Mem) (l : Lc) (k : α → Mem → Out) : @Res.goS α (.exc c m) l ⟨k⟩ = .exc c l m := rr rfl
def Out.seq (o : Out) (b : S) : Out := match o with
  | .nx l m => b l m
  | o => o
@[simp] theorem seq_nx (l : Lc) (m : Mem) (b : S) : Out.seq (.nx l m) b = b l m := rr rfl
@[simp] theorem seq_rt (d : Dv) (m : Mem) (b : S) : Out.seq (.rt d m) b = .rt d m := rr rfl
@[simp] theorem seq_exc (c : XC) (l : Lc) (m : Mem) (b : S) : Out.seq (.exc c l m) b = .exc c l m := rr rfl
@[simp] theorem sSeq_r (a b : S) (l : Lc) (m : Mem) : sSeq a b l m = Out.seq (a l m) b := by
  unfold sSeq Out.seq
  cases a l m <;> rfl
/-- a variable's value -/
def valO (o : Option (Option Dv)) (m : Mem) : Res Dv := match o with
  | some (some d) => .ok d m
  | _ => .bad
@[simp] theorem valO_ok (d : Dv) (m : Mem) : valO (some (some d)) m = .ok d m := rr rfl
@[simp] theorem eVar_r (i : Nat) (l : Lc) (m : Mem) : eVar i l m = valO l[i]? m := rr rfl
@[simp] theorem eC_r (d : Dv) (l : Lc) (m : Mem) : eC d l m = .ok d m := rr rfl
@[simp] theorem eBin_r (f : Dv → Dv → Mem → Res Dv) (a b : E) (l : Lc) (m : Mem) : eBin f a b l m = (a l m).bind fun x m1 => (b l m1).bind fun y m2 => f x y m2 := rr rfl
@[simp] theorem eUn_r (f : Dv → Mem → Res Dv) (a : E) (l : Lc) (m : Mem) : eUn f a l m = (a l m).bind f := rr rfl
@[simp] theorem asB_r (b : Bool) (m : Mem) : asB (.bl b) m = .ok b m := rr rfl
@[simp] theorem tV_r (e : E) (l : Lc) (m : Mem) : tV e l m = (e l m).bind asB := rr rfl
@[simp] theorem tAndM_r (a b : T) (l : Lc) (m : Mem) : tAndM a b l m = (a l m).bind fun x m1 => if x then b l m1 else .ok false m1 := rr rfl
@[simp] theorem tOrM_r (a b : T) (l : Lc) (m : Mem) : tOrM a b l m = (a l m).bind fun x m1 => if x then .ok true m1 else b l m1 := rr rfl
@[simp] theorem tNotM_r (a : T) (l : Lc) (m : Mem) : tNotM a l m = (a l m).bind fun x m1 => .ok (!x) m1 := rr rfl
@[simp] theorem eAnd_r (a b : E) (l : Lc) (m : Mem) : eAnd a b l m = (a l m).bind fun x m1 => match x with
  | .bl c => if c then b l m1 else .ok (.bl false) m1
  | _ => .bad := rr rfl
@[simp] theorem eOr_r (a b : E) (l : Lc) (m : Mem) : eOr a b l m = (a l m).bind fun x m1 => match x with
  | .bl c => if c then .ok (.bl true) m1 else b l m1
  | _ => .bad := rr rfl
@[simp] theorem eNot_r (a : E) (l : Lc) (m : Mem) : eNot a l m = (a l m).bind fun x m1 => match x with
  | .bl c => .ok (.bl (!c)) m1
  | _ => .bad := rr rfl
@[simp] theorem aNil_r (l : Lc) (m : Mem) : aNil l m = .ok [] m := rr rfl
@[simp] theorem aCons_r (e : E) (r : A) (l : Lc) (m : Mem) : aCons e r l m = (e l m).bind fun x m1 => (r l m1).bind fun xs m2 => .ok (x :: xs) m2 := rr rfl
@[simp] theorem eMk_r (k : List Dv → Mem → Res Dv) (es : A) (l : Lc) (m : Mem) : eMk k es l m = (es l m).bind k := rr rfl
@[simp] theorem sNil_r (l : Lc) (m : Mem) : sNil l m = .nx l m := rr rfl
@[simp] theorem sSet_r (i : Nat) (e : E) (l : Lc) (m : Mem) : sSet i e l m = (e l m).out l fun d m1 => .nx (l.set i (some d)) m1 := rr rfl
@[simp] theorem sExpr_r (e : E) (l : Lc) (m : Mem) : sExpr e l m = (e l m).out l fun _ m1 => .nx l m1 := rr rfl
@[simp] theorem sRet_r (e : E) (l : Lc) (m : Mem) : sRet e l m = (e l m).out l fun d m1 => .rt d m1 := rr rfl
@[simp] theorem sIf_r (t : T) (a b : S) (l : Lc) (m : Mem) : sIf t a b l m = (t l m).out l fun x m1 => if x then a l m1 else b l m1 := rr rfl
@[simp] theorem tYesM_r (l : Lc) (m : Mem) : tYesM l m = .ok true m := rr rfl
@[simp] theorem iSeq_lst (e : E) (l : Lc) (m : Mem) : iSeq e l m = (e l m).bind fun d m1 => match itm d with
  | some ds => .ok ds m1
  | none => .bad := rr rfl
@[simp] theorem itm_lst (ds : List Dv) : itm (.lst ds) = some ds := rr rfl
@[simp] theorem itm_tup (ds : List Dv) : itm (.tup ds) = some ds := rr rfl
@[simp] theorem itm_scr (ns : List Int) : itm (.scr ns) = some (ns.map Dv.int) := rr rfl
@[simp] theorem iR1_r (ms : A) (l : Lc) (m : Mem) : iR1 ms l m = (ms l m).bind fun ds m1 => match ds with
  | [.int j] => if -(2 ^ 62) ≤ j ∧ j < 2 ^ 62 then .ok (rng 0 j.toNat) m1 else .bad
  | _ => .bad := rr rfl
@[simp] theorem iR2_r (ms : A) (l : Lc) (m : Mem) : iR2 ms l m = (ms l m).bind fun ds m1 => match ds with
  | [.int i, .int j] => if -(2 ^ 62) ≤ i ∧ i < 2 ^ 62 ∧ -(2 ^ 62) ≤ j ∧ j < 2 ^ 62 then .ok (rng i (j - i).toNat) m1 else .bad
  | _ => .bad := rr rfl
@[simp] theorem iStrM_r (e : E) (l : Lc) (m : Mem) : iStrM e l m = (e l m).bind fun d m1 => match d with
  | .str z => .ok (sgn z) m1
  | _ => .bad := rr rfl
@[simp] theorem sFor_r (it : A) (tg : Tg) (body : S) (l : Lc) (m : Mem) : sFor it tg body l m = (it l m).out l fun ds m1 => forM tg body ds l m1 := rr rfl
@[simp] theorem tgN_r (i : Nat) (d : Dv) (l : Lc) : tgN i d l = some (l.set i (some d)) := rr rfl
@[simp] theorem tg2_r (i j : Nat) (a b : Dv) (l : Lc) : tg2 i j (.tup [a, b]) l = some ((l.set i (some a)).set j (some b)) := rr rfl
@[simp] theorem oNone_r (l : Lc) (m : Mem) : oNone l m = .ok none m := rr rfl
@[simp] theorem oSome_r (e : E) (l : Lc) (m : Mem) : oSome e l m = (e l m).bind fun d m1 => match d with
  | .int i => .ok (some i) m1
  | _ => .bad := rr rfl
@[simp] theorem eSl_r (e : E) (lo hi : O) (l : Lc) (m : Mem) : eSl e lo hi l m = (e l m).bind fun d m1 => (lo l m1).bind fun i m2 => (hi l m2).bind fun j m3 => slD d i j m3 := rr rfl
@[simp] theorem insOf_r (n : Nat) (m : Mem) : insOf m (.loc n) = (match m[n]? with
    | some (.ins C fs) => some (C, fs)
    | _ => none) := rr rfl
@[simp] theorem eFld_r (C i : Nat) (o : E) (l : Lc) (m : Mem) : eFld C i o l m = (o l m).bind fun x m1 => match insOf m1 x with
  | some (C', fs) => if C' = C then (match fs[i]? with
    | some d => .ok d m1
    | none => .bad) else .bad
  | none => .bad := rr rfl
@[simp] theorem eCall_r (n : Nat) (f : Fn) (ms : A) (l : Lc) (m : Mem) : eCall n f ms l m = (ms l m).bind fun ds m1 => if ds.length = n then f ds m1 else .bad := rr rfl
@[simp] theorem eMeth_r (C n : Nat) (f : Fn) (o : E) (ms : A) (l : Lc) (m : Mem) : eMeth C n f o ms l m = (o l m).bind fun x m1 => match insOf m1 x with
  | some (C', _) => if C' = C then (ms l m1).bind fun ds m2 => (if (x :: ds).length = n then f (x :: ds) m2 else .bad) else .bad
  | none => .bad := rr rfl
@[simp] theorem eCallV_r (i n : Nat) (fs : List Fn) (ms : A) (l : Lc) (m : Mem) : eCallV i n fs ms l m = (match l[i]? with
  | some (some (.fn k)) => match fs[k]? with
    | some f => (ms l m).bind fun ds m1 => if ds.length = n then f ds m1 else .bad
    | none => .bad
  | _ => .bad) := rr rfl
@[simp] theorem sThaw_r (i : Nat) (s : S) (l : Lc) (m : Mem) : sThaw i s l m = (match l[i]? with
  | some (some (.loc n)) => match m[n]? with
    | some (.lst ds) => s (l.set i (some (.lst ds))) (m.set n .dead)
    | _ => .bad
  | _ => .bad) := rr rfl
@[simp] theorem eDisp1_r (k : Key) (e : E) (l : Lc) (m : Mem) : eDisp1 k e l m = (e l (m ++ [.dic []])).bind fun d m1 => match m1[m.length]? with
  | some (.dic []) => .ok (.loc m.length) (m1.set m.length (.dic [(k, d)]))
  | _ => .bad := rr rfl
@[simp] theorem eMake0_r (C : Nat) (f : Fn) (l : Lc) (m : Mem) : eMake0 C f l m = (match f [.loc m.length] (m ++ [.ins C []]) with
  | .ok .non m1 => .ok (.loc m.length) m1
  | _ => .bad) := rr rfl
/-- the end of a try -/
def Out.got (tab : List (XC × Option Dv)) (o : Out) : Out := match o with
  | .exc c l1 m1 => match tab.lookup c with
    | some (some d) => .rt d m1
    | some none => .exc c l1 m1
    | none => .bad
  | o => o
def Out.gotA (i : Nat) (tab : List (XC × Option Dv)) (o : Out) : Out := match o with
  | .exc c l1 m1 => match tab.lookup c with
    | some (some d) => if i < l1.length then .rt d m1 else .bad
    | some none => .exc c l1 m1
    | none => .bad
  | o => o
@[simp] theorem sTry_r (tab : List (XC × Option Dv)) (b : S) (l : Lc) (m : Mem) : sTry tab b l m = Out.got tab (b l m) := by
  unfold sTry Out.got
  cases b l m <;> rfl
@[simp] theorem sTryA_r (i : Nat) (tab : List (XC × Option Dv)) (b : S) (l : Lc) (m : Mem) : sTryA i tab b l m = Out.gotA i tab (b l m) := by
  unfold sTryA Out.gotA
  cases b l m <;> rfl
@[simp] theorem got_nx (tab : List (XC × Option Dv)) (l : Lc) (m : Mem) : Out.got tab (.nx l m) = .nx l m := rr rfl
@[simp] theorem got_rt (tab : List (XC × Option Dv)) (d : Dv) (m : Mem) : Out.got tab (.rt d m) = .rt d m := rr rfl
@[simp] theorem got_exc (tab : List (XC × Option Dv)) (c : XC) (l : Lc) (m : Mem) : Out.got tab (.exc c l m) = (match tab.lookup c with
    | some (some d) => .rt d m
    | some none => .exc c l m
    | none => .bad) := rr rfl
@[simp] theorem gotA_nx (i : Nat) (tab : List (XC × Option Dv)) (l : Lc) (m : Mem) : Out.gotA i tab (.nx l m) = .nx l m := rr rfl
@[simp] theorem gotA_rt (i : Nat) (tab : List (XC × Option Dv)) (d : Dv) (m : Mem) : Out.gotA i tab (.rt d m) = .rt d m := rr rfl
@[simp] theorem gotA_exc (i : Nat) (tab : List (XC × Option Dv)) (c : XC) (l : Lc) (m : Mem) : Out.gotA i tab (.exc c l m) = (match tab.lookup c with
    | some (some d) => if i < l.length then .rt d m else .bad
    | some none => .exc c l m
    | none => .bad) := rr rfl
@[simp] theorem sFldM_r (C i : Nat) (o e : E) (l : Lc) (m : Mem) : sFldM C i o e l m = (e l m).out l fun d m1 => (o l m1).out l fun x m2 => match setIns m2 x C i d with
  | some m3 => .nx l m3
  | none => .bad := rr rfl
@[simp] theorem sRaise_r (c : XC) (l : Lc) (m : Mem) : sRaise c l m = .exc c l m := rr rfl
@[simp] theorem tTruth_r (e : E) (l : Lc) (m : Mem) : tTruth e l m = (e l m).bind fun d m1 => match sq m1 d with
  | some ds => .ok (!ds.isEmpty) m1
  | none => .bad := rr rfl
@[simp] theorem eApp_r (o e : E) (l : Lc) (m : Mem) : eApp o e l m = (o l m).bind fun x m1 => match lAt m1 x with
  | some _ => (e l m1).bind fun y m2 => (match lAt m2 x with
    | some (n, ds) => if ds.length < big then .ok .non (m2.set n (.lst (ds ++ [y]))) else .bad
    | none => .bad)
  | none => .bad := rr rfl
@[simp] theorem ePop_r (o : E) (l : Lc) (m : Mem) : ePop o l m = (o l m).bind fun x m1 => match lAt m1 x with
  | some (n, ds) => (match ds[ds.length - 1]? with
    | some y => .ok y (m1.set n (.lst ds.dropLast))
    | none => .bad)
  | none => .bad := rr rfl
@[simp] theorem sSetIx_r (o i e : E) (l : Lc) (m : Mem) : sSetIx o i e l m = (e l m).out l fun y m1 => (o l m1).out l fun x m2 => (i l m2).out l fun k m3 => match lAt m3 x, k with
  | some (n, ds), .int k => (match ixN ds.length k with
    | some j => .nx l (m3.set n (.lst (ds.set j y)))
    | none => .bad)
  | _, _ => .bad := rr rfl
@[simp] theorem lAt_r (n : Nat) (m : Mem) : lAt m (.loc n) = (match m[n]? with
    | some (.lst ds) => some (n, ds)
    | _ => none) := rr rfl
@[simp] theorem kAt_r (n : Nat) (m : Mem) : kAt m (.loc n) = (match m[n]? with
    | some (.dic ds) => some (n, ds)
    | _ => none) := rr rfl
@[simp] theorem dcAt_r (n : Nat) (m : Mem) : dcAt m (.loc n) = (match m[n]? with
    | some (.dic kds) => some (.k kds)
    | some (.dit kds) => some (.t kds)
    | some (.lck kds) => some (.k kds)
    | some (.lct kds) => some (.t kds)
    | _ => none) := rr rfl
@[simp] theorem keyD_i (i : Int) : keyD (.int i) = some (.inl i) := rr rfl
@[simp] theorem keyD_s (i : Str) : keyD (.str i) = some (.inr i) := rr rfl
@[simp] theorem dgetD_r (m : Mem) (x y : Dv) : dgetD m x y = (match dcAt m x with
  | some (.k kds) => (keyD y).map (valG kds)
  | some (.t kds) => (keyT y).map (valG kds)
  | none => none) := rr rfl
@[simp] theorem dputD_r (m : Mem) (n : Nat) (y d : Dv) : dputD m (.loc n) y d = (match m[n]? with
    | some (.dic kds) => match keyD y with
      | some k => if kds.length < big then some (m.set n (.dic (putG kds k d))) else none
      | none => none
    | some (.dit kds) => match keyT y with
      | some k => if kds.length < big then some (m.set n (.dit (putG kds k d))) else none
      | none => none
    | _ => none) := rr rfl
@[simp] theorem eNewK_r (l : Lc) (m : Mem) : eNewK l m = .ok (.loc m.length) (m ++ [.dic []]) := rr rfl
@[simp] theorem eNewT_r (l : Lc) (m : Mem) : eNewT l m = .ok (.loc m.length) (m ++ [.dit []]) := rr rfl
@[simp] theorem eDGet_r (o k : E) (l : Lc) (m : Mem) : eDGet o k l m = (o l m).bind fun x m1 => (k l m1).bind fun y m2 => match dgetD m2 x y with
  | some (some d) => .ok d m2
  | _ => .bad := rr rfl
@[simp] theorem eDIn_r (k o : E) (l : Lc) (m : Mem) : eDIn k o l m = (k l m).bind fun y m1 => (o l m1).bind fun x m2 => match dgetD m2 x y with
  | some r => .ok (.bl r.isSome) m2
  | none => .bad := rr rfl
@[simp] theorem eDNotIn_r (k o : E) (l : Lc) (m : Mem) : eDNotIn k o l m = (k l m).bind fun y m1 => (o l m1).bind fun x m2 => match dgetD m2 x y with
  | some r => .ok (.bl (!r.isSome)) m2
  | none => .bad := rr rfl
@[simp] theorem eDGet2_r (o k z : E) (l : Lc) (m : Mem) : eDGet2 o k z l m = (o l m).bind fun x m1 => match dcAt m1 x with
  | some _ => (k l m1).bind fun y m2 => (z l m2).bind fun w m3 => (match dgetD m3 x y with
    | some r => .ok (r.getD w) m3
    | none => .bad)
  | none => .bad := rr rfl
@[simp] theorem eDPop_r (o k : E) (l : Lc) (m : Mem) : eDPop o k l m = (o l m).bind fun x m1 => match kAt m1 x with
  | some _ => (k l m1).bind fun y m2 => (match kAt m2 x, keyD y with
    | some (n, kds), some k => (match valG kds k with
      | some d => .ok d (m2.set n (.dic (dropG kds k)))
      | none => .bad)
    | _, _ => .bad)
  | none => .bad := rr rfl
@[simp] theorem sDPutM_r (o k v : E) (l : Lc) (m : Mem) : sDPutM o k v l m = (v l m).out l fun d m1 => (o l m1).out l fun x m2 => (k l m2).out l fun y m3 => match dputD m3 x y d with
  | some m4 => .nx l m4
  | none => .bad := rr rfl
@[simp] theorem eJoin_r (o e : E) (l : Lc) (m : Mem) : eJoin o e l m = (o l m).bind fun x m1 => match x with
  | .str a => (e l m1).bind fun y m2 => (match (stq m2 y).bind txts with
    | some ss => if (ss.map (·.length)).sum + ss.length * a.length ≤ 16777216 then .ok (.str (Txt.join a ss)) m2 else .bad
    | none => .bad)
  | _ => .bad := rr rfl
@[simp] theorem eSplit_r (o e : E) (l : Lc) (m : Mem) : eSplit o e l m = (o l m).bind fun x m1 => match x with
  | .str a => (e l m1).bind fun y m2 => (match y with
    | .str b => if (b.length == 0) = false ∧ a.length + 2 ≤ big then .ok (.lst ((Txt.split a b).map Dv.str)) m2 else .bad
    | _ => .bad)
  | _ => .bad := rr rfl
@[simp] theorem sq_scr (m : Mem) (ns : List Int) : sq m (.scr ns) = some (ns.map Dv.int) := rr rfl
@[simp] theorem sq_lst (m : Mem) (ds : List Dv) : sq m (.lst ds) = some ds := rr rfl
@[simp] theorem sq_loc (m : Mem) (n : Nat) : sq m (.loc n) = (match m[n]? with
    | some (.lst ds) => some ds
    | _ => none) := rr rfl
@[simp] theorem lx_lst (m : Mem) (ds : List Dv) : lx m (.lst ds) = some ds := rr rfl
@[simp] theorem lx_loc (m : Mem) (n : Nat) : lx m (.loc n) = (match m[n]? with
    | some (.lst ds) => some ds
    | _ => none) := rr rfl
@[simp] theorem stq_tup (m : Mem) (ds : List Dv) : stq m (.tup ds) = some ds := rr rfl
@[simp] theorem stq_lst (m : Mem) (ds : List Dv) : stq m (.lst ds) = some ds := rr rfl
@[simp] theorem stq_scr (m : Mem) (ns : List Int) : stq m (.scr ns) = some (ns.map Dv.int) := rr rfl
@[simp] theorem stq_loc (m : Mem) (n : Nat) : stq m (.loc n) = (match m[n]? with
    | some (.lst ds) => some ds
    | _ => none) := rr rfl

/-! ### operators -/
@[simp] theorem addD_ii (i j : Int) (m : Mem) : addD (.int i) (.int j) m = .ok (.int (i + j)) m := rr rfl
@[simp] theorem addD_ss (i j : Str) (m : Mem) : addD (.str i) (.str j) m = if i.length + j.length ≤ big then .ok (.str (i ++ j)) m else .bad := rr rfl
@[simp] theorem addD_tt (i j : List Dv) (m : Mem) : addD (.tup i) (.tup j) m = if i.length + j.length ≤ big ∧ i ≠ [] then .ok (.tup (i ++ j)) m else .bad := rr rfl
@[simp] theorem addD_ll (i j : List Dv) (m : Mem) : addD (.lst i) (.lst j) m = mkLst (i ++ j) m := rr rfl
@[simp] theorem subD_ii (i j : Int) (m : Mem) : subD (.int i) (.int j) m = .ok (.int (i - j)) m := rr rfl
@[simp] theorem ltD_ii (i j : Int) (m : Mem) : ltD (.int i) (.int j) m = .ok (.bl (decide (i < j))) m := rr rfl
@[simp] theorem gtD_ii (i j : Int) (m : Mem) : gtD (.int i) (.int j) m = .ok (.bl (decide (j < i))) m := rr rfl
@[simp] theorem geD_ii (i j : Int) (m : Mem) : geD (.int i) (.int j) m = .ok (.bl (decide (j ≤ i))) m := rr rfl
@[simp] theorem leD_ii (i j : Int) (m : Mem) : leD (.int i) (.int j) m = .ok (.bl (decide (i ≤ j))) m := rr rfl
@[simp] theorem negD_i (i : Int) (m : Mem) : negD (.int i) m = .ok (.int (-i)) m := rr rfl
theorem fdivD_c {j : Int} (h : 0 < j ∧ j < 1073741824) (i : Int) (m : Mem) : fdivD (.int i) (.int j) m = .ok (.int (i / j)) m := by
  show (match (if 0 < j ∧ j < 1073741824 then some (Dv.int (i / j)) else none) with | some d => Res.ok d m | none => .bad) = _
  rw [if_pos h]
theorem modD_c {j : Int} (h : 0 < j) (i : Int) (m : Mem) : modD (.int i) (.int j) m = .ok (.int (i % j)) m := by
  show (match (if 0 < j then some (Dv.int (i % j)) else none) with | some d => Res.ok d m | none => .bad) = _
  rw [if_pos h]
@[simp] theorem fdivD_r (i j : Int) (m : Mem) : fdivD (.int i) (.int j) m = if 0 < j ∧ j < 1073741824 then .ok (.int (i / j)) m else .bad := by
  by_cases h : 0 < j ∧ j < 1073741824
  · rw [fdivD_c h, if_pos h]
  · rw [if_neg h]
    show (match (if 0 < j ∧ j < 1073741824 then some (Dv.int (i / j)) else none) with | some d => Res.ok d m | none => .bad) = _
    rw [if_neg h]
@[simp] theorem modD_r (i j : Int) (m : Mem) : modD (.int i) (.int j) m = if 0 < j then .ok (.int (i % j)) m else .bad := by
  by_cases h : 0 < j
  · rw [modD_c h, if_pos h]
  · rw [if_neg h]
    show (match (if 0 < j then some (Dv.int (i % j)) else none) with | some d => Res.ok d m | none => .bad) = _
    rw [if_neg h]
@[simp] theorem powD_1012 (m : Mem) : powD (.int 10) (.int 12) m = .ok (.int 1000000000000) m := rr rfl
@[simp] theorem isD_n (x : Dv) (m : Mem) : isD x .non m = .ok (.bl (isNon x)) m := rr rfl
@[simp] theorem isnD_n (x : Dv) (m : Mem) : isnD x .non m = .ok (.bl (!isNon x)) m := rr rfl
@[simp] theorem isNon_n : isNon .non = true := rr rfl
@[simp] theorem isNon_i (i : Int) : isNon (.int i) = false := rr rfl
@[simp] theorem isNon_s (i : Str) : isNon (.str i) = false := rr rfl
@[simp] theorem isNon_b (i : Bool) : isNon (.bl i) = false := rr rfl
@[simp] theorem isNon_l (i : List Dv) : isNon (.lst i) = false := rr rfl
@[simp] theorem isNon_t (i : List Dv) : isNon (.tup i) = false := rr rfl
@[simp] theorem isNon_c (i : Nat) : isNon (.loc i) = false := rr rfl
@[simp] theorem ixD_str (z : Str) (i : Int) (m : Mem) : ixD (.str z) (.int i) m = if z.length ≤ big then (match atI z.cps.toList i with
    | some c => .ok (.str ⟨#[c]⟩) m
    | none => .bad) else .bad := rr rfl
@[simp] theorem ixD_t (ds : List Dv) (i : Int) (m : Mem) : ixD (.tup ds) (.int i) m = (match atI ds i with
    | some d => .ok d m
    | none => .bad) := rr rfl
@[simp] theorem ixD_l (ds : List Dv) (i : Int) (m : Mem) : ixD (.lst ds) (.int i) m = (match atI ds i with
    | some d => .ok d m
    | none => .bad) := rr rfl
@[simp] theorem ixD_scr (ds : List Int) (i : Int) (m : Mem) : ixD (.scr ds) (.int i) m = (match atI (ds.map Dv.int) i with
    | some d => .ok d m
    | none => .bad) := rr rfl
@[simp] theorem ixD_loc (n : Nat) (i : Int) (m : Mem) : ixD (.loc n) (.int i) m = (match sq m (.loc n) with
    | some ds => (match atI ds i with
      | some d => .ok d m
      | none => .bad)
    | none => .bad) := rr rfl
@[simp] theorem slD_str (z : Str) (lo hi : Option Int) (m : Mem) : slD (.str z) lo hi m = if z.length ≤ big then .ok (.str (cutS z lo hi)) m else .bad := rr rfl
@[simp] theorem slD_l (z : List Dv) (lo hi : Option Int) (m : Mem) : slD (.lst z) lo hi m = .ok (.lst (cutL z lo hi)) m := rr rfl
@[simp] theorem slD_t (ds : List Dv) (lo hi : Option Int) (m : Mem) : slD (.tup ds) lo hi m = if HT.sIx ds.length 0 lo = 0 ∧ HT.sIx ds.length ds.length hi = ds.length then .bad else .ok (.tup (cutL ds lo hi)) m := rr rfl
@[simp] theorem lenD_str (z : Str) (m : Mem) : lenD [.str z] m = if z.length ≤ big then .ok (.int z.length) m else .bad := rr rfl
@[simp] theorem lenD_tup (z : List Dv) (m : Mem) : lenD [.tup z] m = .ok (.int z.length) m := rr rfl
@[simp] theorem lenD_lst (z : List Dv) (m : Mem) : lenD [.lst z] m = .ok (.int z.length) m := rr rfl
@[simp] theorem lenD_scr (z : List Int) (m : Mem) : lenD [.scr z] m = .ok (.int z.length) m := by
  show Res.ok (Dv.int (z.map Dv.int).length) m = _
  rw [List.length_map]
@[simp] theorem lenD_loc (n : Nat) (m : Mem) : lenD [.loc n] m = (match sq m (.loc n) with
    | some xs => .ok (.int xs.length) m
    | none => .bad) := rr rfl
@[simp] theorem listD_r (x : Dv) (m : Mem) : listD [x] m = (match stq m x with
    | some xs => mkLst xs m
    | none => .bad) := rr rfl
@[simp] theorem listN_r (x : Dv) (m : Mem) : listN [x] m = (match stq m x with
    | some xs => newLst xs m
    | none => .bad) := rr rfl
@[simp] theorem tupleD_tup (z : List Dv) (m : Mem) : tupleD [.tup z] m = .ok (.tup z) m := rr rfl
@[simp] theorem tupleD_lst (z : List Dv) (m : Mem) : tupleD [.lst z] m = mkTup z m := rr rfl
@[simp] theorem tupleD_loc (n : Nat) (m : Mem) : tupleD [.loc n] m = (match sq m (.loc n) with
    | some xs => mkTup xs m
    | none => .bad) := rr rfl
@[simp] theorem intD_i (i : Int) (m : Mem) : intD [.int i] m = .ok (.int i) m := rr rfl
@[simp] theorem intD_b (b : Bool) (m : Mem) : intD [.bl b] m = .ok (.int (if b then 1 else 0)) m := rr rfl
@[simp] theorem absD_i (i : Int) (m : Mem) : absD [.int i] m = .ok (.int (if i < 0 then -i else i)) m := rr rfl
@[simp] theorem maxD_i (i j : Int) (m : Mem) : maxD [.int i, .int j] m = .ok (.int (if j > i then j else i)) m := rr rfl
@[simp] theorem minD_i (i j : Int) (m : Mem) : minD [.int i, .int j] m = .ok (.int (if j < i then j else i)) m := rr rfl
@[simp] theorem tyOf_non (m : Mem) : tyOf m .non = some .none := rr rfl
@[simp] theorem tyOf_bl (m : Mem) (b : Bool) : tyOf m (.bl b) = some .bool := rr rfl
@[simp] theorem tyOf_int (m : Mem) (b : Int) : tyOf m (.int b) = some .int := rr rfl
@[simp] theorem tyOf_str (m : Mem) (b : Str) : tyOf m (.str b) = some .str := rr rfl
@[simp] theorem tyOf_scr (m : Mem) (b : List Int) : tyOf m (.scr b) = some .list := rr rfl
@[simp] theorem tyOf_lst (m : Mem) (b : List Dv) : tyOf m (.lst b) = some .list := rr rfl
@[simp] theorem tyOf_tup (m : Mem) (b : List Dv) : tyOf m (.tup b) = some .tuple := rr rfl
theorem tyOf_loc_l {m : Mem} {n : Nat} {ds : List Dv} (h : m[n]? = some (.lst ds)) : tyOf m (.loc n) = some .list := by
  show (match m[n]? with | some (.lst _) => some Tn.list | some (.dic _) => _ | some (.dit _) => _ | _ => _) = _
  rw [h]
@[simp] theorem isiD_r (T : Tn) (x : Dv) (m : Mem) : isiD T x m = (match tyOf m x with
  | some t => .ok (.bl (isA t T)) m
  | none => .bad) := rr rfl
@[simp] theorem isi2D_r (T U : Tn) (x : Dv) (m : Mem) : isi2D T U x m = (match tyOf m x with
  | some t => .ok (.bl (isA t T || isA t U)) m
  | none => .bad) := rr rfl
@[simp] theorem isA_r (t T : Tn) : isA t T = (decide (t = T) || (decide (t = .bool) && decide (T = .int))) := rr rfl
@[simp] theorem atI_0 {α : Type} (a : α) (r : List α) : atI (a :: r) 0 = some a := by
  have := atI_nat (xs := a :: r) (j := 0) (v := a) rfl
  simpa using this
@[simp] theorem atI_1 {α : Type} (a b : α) (r : List α) : atI (a :: b :: r) 1 = some b := by
  have := atI_nat (xs := a :: b :: r) (j := 1) (v := b) rfl
  simpa using this
@[simp] theorem atI_2 {α : Type} (a b c : α) (r : List α) : atI (a :: b :: c :: r) 2 = some c := by
  have := atI_nat (xs := a :: b :: c :: r) (j := 2) (v := c) rfl
  simpa using this
@[simp] theorem big_v : big = 16777216 := rr rfl
@[simp] theorem mkLst_r (ds : List Dv) (m : Mem) : mkLst ds m = if ds.length ≤ big then .ok (.lst ds) m else .bad := rr rfl
@[simp] theorem mkTup_r (ds : List Dv) (m : Mem) : mkTup ds m = if ds.length ≤ big then .ok (.tup ds) m else .bad := rr rfl
@[simp] theorem newLst_r (ds : List Dv) (m : Mem) : newLst ds m = if ds.length ≤ big then .ok (.loc m.length) (m ++ [.lst ds]) else .bad := rr rfl
@[simp] theorem mkTup_2 (a b : Dv) (m : Mem) : mkTup [a, b] m = .ok (.tup [a, b]) m := rr rfl
@[simp] theorem mkTup_1 (a : Dv) (m : Mem) : mkTup [a] m = .ok (.tup [a]) m := rr rfl
@[simp] theorem mkTup_3 (a b c : Dv) (m : Mem) : mkTup [a, b, c] m = .ok (.tup [a, b, c]) m := rr rfl
@[simp] theorem mkTup_0 (m : Mem) : mkTup [] m = .ok (.tup []) m := rr rfl
@[simp] theorem mkLst_0 (m : Mem) : mkLst [] m = .ok (.lst []) m := rr rfl
@[simp] theorem newLst_0 (m : Mem) : newLst [] m = .ok (.loc m.length) (m ++ [.lst []]) := rr rfl
theorem mkLst_ok' {ds : List Dv} (h : ds.length ≤ big) (m : Mem) : mkLst ds m = .ok (.lst ds) m := if_pos h
theorem mkTup_ok' {ds : List Dv} (h : ds.length ≤ big) (m : Mem) : mkTup ds m = .ok (.tup ds) m := if_pos h
theorem newLst_ok' {ds : List Dv} (h : ds.length ≤ big) (m : Mem) : newLst ds m = .ok (.loc m.length) (m ++ [.lst ds]) := if_pos h
@[simp] theorem eqD_ii (i j : Int) (m : Mem) : eqD (.int i) (.int j) m = .ok (.bl (decide (i = j))) m := by
  simp [eqD, eqB, scD, scal]
@[simp] theorem neD_ii (i j : Int) (m : Mem) : neD (.int i) (.int j) m = .ok (.bl (!decide (i = j))) m := by
  simp [neD, eqB, scD, scal]
@[simp] theorem eqD_ss (i j : Str) (m : Mem) : eqD (.str i) (.str j) m = .ok (.bl (decide (i = j))) m := by
  simp [eqD, eqB, scD, scal]
@[simp] theorem neD_ss (i j : Str) (m : Mem) : neD (.str i) (.str j) m = .ok (.bl (!decide (i = j))) m := by
  simp [neD, eqB, scD, scal]
@[simp] theorem eqD_bb (i j : Bool) (m : Mem) : eqD (.bl i) (.bl j) m = .ok (.bl (decide (i = j))) m := by
  simp [eqD, eqB, scD, scal]
@[simp] theorem neD_bb (i j : Bool) (m : Mem) : neD (.bl i) (.bl j) m = .ok (.bl (!decide (i = j))) m := by
  simp [neD, eqB, scD, scal]
theorem p64 : (2 : Int) ^ 64 = 18446744073709551616 := by decide +kernel
theorem mulD_r {i j : Int} (h : -18446744073709551616 < j ∧ j < 18446744073709551616) (m : Mem) : mulD (.int i) (.int j) m = .ok (.int (i * j)) m := by
  show (if (-(2 ^ 64) < i ∧ i < 2 ^ 64) ∨ (-(2 ^ 64) < j ∧ j < 2 ^ 64) then Res.ok (Dv.int (i * j)) m else .bad) = _
  rw [p64]
  exact if_pos (.inr h)
theorem mulD_l {i j : Int} (h : -18446744073709551616 < i ∧ i < 18446744073709551616) (m : Mem) : mulD (.int i) (.int j) m = .ok (.int (i * j)) m := by
  show (if (-(2 ^ 64) < i ∧ i < 2 ^ 64) ∨ (-(2 ^ 64) < j ∧ j < 2 ^ 64) then Res.ok (Dv.int (i * j)) m else .bad) = _
  rw [p64]
  exact if_pos (.inl h)

/-! ### defs -/
open Classical in
theorem fin_rt_eq (m0 m : Mem) (d : Dv) : fin m0 (.rt d m) = if m.take m0.length = m0 ∧ clo m0.length d = true then .ok d m0 else .ok d m := rr rfl
open Classical in
theorem fin_nx_eq (m0 m : Mem) (l : Lc) : fin m0 (.nx l m) = if m.take m0.length = m0 then .ok .non m0 else .ok .non m := rr rfl
open Classical in
theorem fin_exc_eq (m0 m : Mem) (l : Lc) (c : XC) : fin m0 (.exc c l m) = if m.take m0.length = m0 then .exc c m0 else .exc c m := rr rfl
@[simp] theorem fin_rt (m : Mem) (d : Dv) : fin m (.rt d m) = .ok d m := by rw [fin_rt_eq]; split <;> rfl
@[simp] theorem fin_nx (m : Mem) (l : Lc) : fin m (.nx l m) = .ok .non m := by rw [fin_nx_eq]; split <;> rfl
@[simp] theorem fin_exc (m : Mem) (l : Lc) (c : XC) : fin m (.exc c l m) = .exc c m := by rw [fin_exc_eq]; split <;> rfl
@[simp] theorem clo_bl (n : Nat) (b : Bool) : clo n (.bl b) = true := rr rfl
@[simp] theorem clo_int (n : Nat) (b : Int) : clo n (.int b) = true := rr rfl
@[simp] theorem clo_str (n : Nat) (b : Str) : clo n (.str b) = true := rr rfl
@[simp] theorem clo_non (n : Nat) : clo n .non = true := rr rfl
@[simp] theorem clo_fn (n k : Nat) : clo n (.fn k) = true := rr rfl
@[simp] theorem clo_loc (n k : Nat) : clo n (.loc k) = decide (k < n) := rr rfl
@[simp] theorem clo_lst (n : Nat) (ds : List Dv) : clo n (.lst ds) = clos n ds := rr rfl
@[simp] theorem clo_tup (n : Nat) (ds : List Dv) : clo n (.tup ds) = clos n ds := rr rfl
@[simp] theorem clos_nil (n : Nat) : clos n [] = true := rr rfl
@[simp] theorem clos_cons (n : Nat) (d : Dv) (ds : List Dv) : clos n (d :: ds) = (clo n d && clos n ds) := rr rfl
theorem fin_rtA {m : Mem} {d : Dv} (x : Mem) (h : clo m.length d = true) : fin m (.rt d (m ++ x)) = .ok d m := by
  rw [fin_rt_eq, if_pos ⟨by simp, h⟩]
theorem fin_rtL {m : Mem} {n : Nat} (x : Mem) (h : ¬ n < m.length) : fin m (.rt (.loc n) (m ++ x)) = .ok (.loc n) (m ++ x) := by
  rw [fin_rt_eq, if_neg]; rintro ⟨_, h2⟩; exact h (of_decide_eq_true h2)
theorem fin_nxA (m : Mem) (l : Lc) (x : Mem) : fin m (.nx l (m ++ x)) = .ok .non m := by rw [fin_nx_eq, if_pos (by simp)]
theorem fin_excA (m : Mem) (l : Lc) (c : XC) (x : Mem) : fin m (.exc c l (m ++ x)) = .exc c m := by rw [fin_exc_eq, if_pos (by simp)]
@[simp] theorem getLast_mem (m : Mem) (o : MO) : (m ++ [o])[m.length]? = some o := by simp
@[simp] theorem setLast_mem (m : Mem) (o o' : MO) : (m ++ [o]).set m.length o' = m ++ [o'] := by simp

/-! ### numbers and texts -/
theorem rng_nil (lo : Int) : rng lo 0 = [] := rr rfl
theorem rng_cons (lo : Int) (n : Nat) : rng lo (n + 1) = .int lo :: rng (lo + 1) n := by
  unfold rng
  rw [List.range_succ_eq_map, List.map_cons, List.map_map]
  congr 1
  · simp
  · apply List.map_congr_left
    intro a _
    simp only [Function.comp]
    congr 1
    omega
theorem clos_map {α : Type} (n : Nat) (f : α → Dv) (h : ∀ a, clo n (f a) = true) : ∀ xs : List α, clos n (xs.map f) = true
  | [] => rfl
  | x :: xs => by
    show (clo n (f x) && clos n (xs.map f)) = true
    rw [h x, clos_map n f h xs]
    rfl
@[simp] theorem txts_map (ss : List Str) : txts (ss.map Dv.str) = some ss := by
  induction ss with
  | nil => rfl
  | cons a r ih => show (txts (r.map Dv.str)).map (a :: ·) = _; rw [ih] <;> rfl
@[simp] theorem txts_comp {α : Type} (f : α → Str) (xs : List α) : txts (xs.map (Dv.str ∘ f)) = some (xs.map f) := by
  rw [← List.map_map, txts_map]
@[simp] theorem txts_fun {α : Type} (f : α → Str) (xs : List α) : txts (xs.map fun a => Dv.str (f a)) = some (xs.map f) := txts_comp f xs
/-! ### loops -/
theorem lcM_ok {j p : Nat} {t : T} {e : E} {l : Lc} {m1 : Mem} (hp : p = m1.length) {t' : Dv → Bool} {f : Dv → Dv} : ∀ (ds : List Dv) (acc : List Dv),
    (∀ x ∈ ds, ∀ acc, t ((l.set j none).set j (some x)) (m1 ++ [.lst acc]) = .ok (t' x) (m1 ++ [.lst acc])) →
    (∀ x ∈ ds, t' x = true → ∀ acc, e ((l.set j none).set j (some x)) (m1 ++ [.lst acc]) = .ok (f x) (m1 ++ [.lst acc])) → acc.length + ds.length ≤ big →
    lcM j t e p ds l (m1 ++ [.lst acc]) = some (m1 ++ [.lst (acc ++ (ds.filter t').map f)])
  | [], acc, _, _, _ => by simp [lcM]
  | x :: ds, acc, h1, h2, h3 => by
    subst hp
    have ih := fun acc => lcM_ok (p := m1.length) (t := t) (e := e) (l := l) (j := j) (m1 := m1) rfl (t' := t') (f := f) ds acc (fun y hy => h1 y (.tail _ hy)) (fun y hy => h2 y (.tail _ hy))
    simp only [List.length_cons] at h3
    unfold lcM
    rw [h1 x (.head _)]
    cases hx : t' x with
    | false =>
      show lcM j t e _ ds l _ = _
      rw [ih acc (by omega), List.filter_cons_of_neg (by rw [hx]; decide)]
    | true =>
      have a1 : acc.length < big := by omega
      simp only [h2 x (.head _) hx, getLast_mem, a1, if_true, setLast_mem]
      rw [ih _ (by simp only [List.length_append, List.length_cons, List.length_nil]; omega), List.filter_cons_of_pos hx]
      simp
theorem eLc_ok {it : A} {j : Nat} {t : T} {e : E} {l : Lc} {m m1 : Mem} {ds : List Dv} (h : it l m = .ok ds m1) (t' : Dv → Bool) (f : Dv → Dv)
    (ht : ∀ x ∈ ds, ∀ acc, t ((l.set j none).set j (some x)) (m1 ++ [.lst acc]) = .ok (t' x) (m1 ++ [.lst acc]))
    (he : ∀ x ∈ ds, t' x = true → ∀ acc, e ((l.set j none).set j (some x)) (m1 ++ [.lst acc]) = .ok (f x) (m1 ++ [.lst acc])) (hl : ds.length ≤ big) (hc : clos m1.length ((ds.filter t').map f) = true) :
    eLc it j t e l m = .ok (.lst ((ds.filter t').map f)) m1 := by
  unfold eLc
  rw [h]
  show (match lcM j t e m1.length ds l (m1 ++ [.lst []]) with | some m2 => _ | none => _) = _
  rw [lcM_ok rfl ds [] ht he (by simpa using hl)]
  simp [hc]
theorem eLcN_ok {it : A} {j : Nat} {t : T} {e : E} {l : Lc} {m m1 : Mem} {ds : List Dv} (h : it l m = .ok ds m1) (t' : Dv → Bool) (f : Dv → Dv)
    (ht : ∀ x ∈ ds, ∀ acc, t ((l.set j none).set j (some x)) (m1 ++ [.lst acc]) = .ok (t' x) (m1 ++ [.lst acc]))
    (he : ∀ x ∈ ds, t' x = true → ∀ acc, e ((l.set j none).set j (some x)) (m1 ++ [.lst acc]) = .ok (f x) (m1 ++ [.lst acc])) (hl : ds.length ≤ big) :
    eLcN it j t e l m = .ok (.loc m1.length) (m1 ++ [.lst ((ds.filter t').map f)]) := by
  unfold eLcN
  rw [h]
  show (match lcM j t e m1.length ds l (m1 ++ [.lst []]) with | some m2 => _ | none => _) = _
  rw [lcM_ok rfl ds [] ht he (by simpa using hl)]
  simp
theorem eLc_map {it : A} {j : Nat} {e : E} {l : Lc} {m m1 : Mem} {ds : List Dv} (h : it l m = .ok ds m1) (f : Dv → Dv)
    (he : ∀ x ∈ ds, ∀ acc, e ((l.set j none).set j (some x)) (m1 ++ [.lst acc]) = .ok (f x) (m1 ++ [.lst acc])) (hl : ds.length ≤ big) (hc : clos m1.length (ds.map f) = true) :
    eLc it j tYesM e l m = .ok (.lst (ds.map f)) m1 := by
  have e0 : ds.filter (fun _ => true) = ds := List.filter_eq_self.mpr fun _ _ => rfl
  have := eLc_ok (t := tYesM) (e := e) (j := j) h (fun _ => true) f (fun _ _ _ => rfl) (fun x hx _ => he x hx) hl (by rw [e0]; exact hc)
  rwa [e0] at this
theorem eLcN_map {it : A} {j : Nat} {e : E} {l : Lc} {m m1 : Mem} {ds : List Dv} (h : it l m = .ok ds m1) (f : Dv → Dv)
    (he : ∀ x ∈ ds, ∀ acc, e ((l.set j none).set j (some x)) (m1 ++ [.lst acc]) = .ok (f x) (m1 ++ [.lst acc])) (hl : ds.length ≤ big) :
    eLcN it j tYesM e l m = .ok (.loc m1.length) (m1 ++ [.lst (ds.map f)]) := by
  have e0 : ds.filter (fun _ => true) = ds := List.filter_eq_self.mpr fun _ _ => rfl
  have := eLcN_ok (t := tYesM) (e := e) (j := j) h (fun _ => true) f (fun _ _ _ => rfl) (fun x hx _ => he x hx) hl
  rwa [e0] at this
theorem forM_cons {tg : Tg} {body : S} {x : Dv} {r : List Dv} {l l1 l2 : Lc} {m m2 : Mem} (h1 : tg x l = some l1) (h2 : body l1 m = .nx l2 m2) : forM tg body (x :: r) l m = forM tg body r l2 m2 := by
  conv => lhs; unfold forM
  rw [h1]
  simp [h2]
theorem while_nil (t : T) (b : S) (n : Nat) {l : Lc} {m : Mem} (h : t l m = .ok false m) : whileM t b (n + 1) l m = .nx l m := by
  unfold whileM; rw [h] <;> rfl
theorem while_one (t : T) (b : S) (n : Nat) {l l2 : Lc} {m m2 : Mem} (h : t l m = .ok true m) (h2 : b l m = .nx l2 m2) : whileM t b (n + 1) l m = whileM t b n l2 m2 := by
  conv => lhs; unfold whileM
  rw [h]
  simp [h2]
@[simp] theorem powD_30 (m : Mem) : powD (.int 10) (.int 30) m = .ok (.int 1000000000000000000000000000000) m := rr rfl
/-- a loop that runs through -/
theorem forM_inv {tg : Tg} {body : S} {ds : List Dv} (Inv : Nat → Lc → Mem → Prop) (step : ∀ i (h : i < ds.length) l m, Inv i l m → ∃ l1 l2 m2, tg ds[i] l = some l1 ∧ (body l1 m = .nx l2 m2 ∨ body l1 m = .ct l2 m2) ∧ Inv (i + 1) l2 m2) :
    ∀ (l : Lc) (m : Mem), Inv 0 l m → ∃ l2 m2, forM tg body ds l m = .nx l2 m2 ∧ Inv ds.length l2 m2 := by
  induction ds generalizing Inv with
  | nil => intro l m h; exact ⟨l, m, rfl, h⟩
  | cons x ds ih =>
    intro l m h
    obtain ⟨l1, l2, m2, e1, e2, h2⟩ := step 0 (by simp) l m h
    have e1 : tg x l = some l1 := e1
    obtain ⟨l3, m3, e3, h3⟩ := ih (fun i => Inv (i + 1)) (fun i hi l m h => step (i + 1) (by simp; omega) l m h) l2 m2 h2
    refine ⟨l3, m3, ?_, h3⟩
    unfold forM
    rw [e1]
    rcases e2 with e2 | e2 <;> simp [e2, e3]
/-- a loop that may hand back -/
theorem forM_inv2 {tg : Tg} {body : S} {ds : List Dv} (Inv : Nat → Lc → Mem → Prop) (R : Out → Prop)
    (step : ∀ i (h : i < ds.length) l m, Inv i l m → ∃ l1, tg ds[i] l = some l1 ∧ ((∃ l2 m2, (body l1 m = .nx l2 m2 ∨ body l1 m = .ct l2 m2) ∧ Inv (i + 1) l2 m2) ∨ (∃ d m2, body l1 m = .rt d m2 ∧ R (.rt d m2)) ∨ (∃ c l2 m2, body l1 m = .exc c l2 m2 ∧ R (.exc c l2 m2)) ∨ (∃ l2 m2, body l1 m = .bk l2 m2 ∧ R (.nx l2 m2)))) :
    ∀ (l : Lc) (m : Mem), Inv 0 l m → (∃ l2 m2, forM tg body ds l m = .nx l2 m2 ∧ Inv ds.length l2 m2) ∨ R (forM tg body ds l m) := by
  induction ds generalizing Inv with
  | nil => intro l m h; exact .inl ⟨l, m, rfl, h⟩
  | cons x ds ih =>
    intro l m h
    obtain ⟨l1, e1, e2⟩ := step 0 (by simp) l m h
    have e1 : tg x l = some l1 := e1
    unfold forM
    rw [e1]
    rcases e2 with ⟨l2, m2, e2, h2⟩ | ⟨d, m2, e2, h2⟩ | ⟨c, l2, m2, e2, h2⟩ | ⟨l2, m2, e2, h2⟩
    · have e3 := ih (fun i => Inv (i + 1)) (fun i hi l m h => step (i + 1) (by simp; omega) l m h) l2 m2 h2
      rcases e2 with e2 | e2 <;> simpa [e2] using e3
    · exact .inr (by simpa [e2] using h2)
    · exact .inr (by simpa [e2] using h2)
    · exact .inr (by simpa [e2] using h2)
end Sn
/-! Sn11 -/
set_option Elab.async false
set_option linter.all false
set_option maxRecDepth 100000
set_option autoImplicit false
set_option maxHeartbeats 1000000
/-! Sn11: list(d), sorted lists with a place, sums of lists with a place, data one deeper compared -/
namespace Sn
open PySem PySem.Spec PyProof.Rows L2
section
variable {G : Cg} {X : Cx} {W : WX} {σ : L2.St} {H : Hp} {D : Hp} {adr : List Addr} {m : Mem}

def keyV : Key → Dv
  | .inl i => .int i
  | .inr s => .str s
theorem rep_key (K : Cg) (D : Hp) (adr : List Addr) (k : Key) : Rep K D adr (kV k) (keyV k) := by
  cases k with
  | inl i => exact .int i
  | inr s => exact .str s
theorem reps_keys (K : Cg) (D : Hp) (adr : List Addr) : ∀ ks : List Key, Reps K D adr (ks.map kV) (ks.map keyV)
  | [] => .nil
  | k :: ks => .cons (rep_key K D adr k) (reps_keys K D adr ks)
def rListK : List V → Hp → VK → Prop := fun xs H Q => ∃ (a : Addr) (kvs : List (Key × V)), xs = [.ref a] ∧ Rd H a (.dK kvs) ∧ ∀ p, H p = none → Q (.ref p) (upd H p (.lst (kvs.map fun kv => kV kv.1)))
/-- list(d) -/
def listKD (ds : List Dv) (m : Mem) : Res Dv := match ds with
  | [x] => match dcAt m x with
    | some (.k kds) => mkLst ((kds.map (·.1)).map keyV) m
    | _ => .bad
  | _ => .bad
theorem listKD_s : CaS G rListK listKD := fun D adr m H xs ds rm r σ W Q a => by
  unfold listKD at a
  split at a
  · split at a
    · rename_i kds h
      obtain ⟨v, rfl, q⟩ := r.one_inv
      obtain ⟨p, kvs, rfl, h3, h4⟩ := rm.dc_k q h
      refine ⟨p, kvs, rfl, h3, ?_⟩
      have e : (kvs.map fun kv => kV kv.1) = (kvs.map (·.1)).map kV := by rw [List.map_map]; rfl
      rw [e]
      refine (mkLst_ok rm (W := W) (σ := σ) ?_ a).2
      rw [h4.1]
      exact reps_keys _ _ _ _
    · exact a.elim
  · exact a.elim
/-- sorted(d), with a place -/
def sortKiN (ds : List Dv) (m : Mem) : Res Dv := match ds with
  | [x] => match dcAt m x with
    | some (.k kds) => match kis (kds.map (·.1)) with
      | some ss => newLst ((ss.mergeSort ile).map Dv.int) m
      | none => .bad
    | _ => .bad
  | _ => .bad
theorem sortKiN_s : CaS G (rSortKF flInt Sum.inl) sortKiN := fun D adr m H xs ds rm r σ W Q a => by
  unfold sortKiN at a
  split at a
  · split at a
    · rename_i kds h
      split at a
      · rename_i ss h2
        obtain ⟨v, rfl, q⟩ := r.one_inv
        obtain ⟨p, kvs, rfl, h3, h4⟩ := rm.dc_k q h
        refine ⟨p, kvs, ss, rfl, h3, h4.1.trans (kis_eq h2), ?_⟩
        show ∀ p, H p = none → Q (.ref p) (upd H p (.lst ((ss.mergeSort (PySem.W.dataLe false PyData.int)).map V.int)))
        rw [sort_int]
        exact (newLst_ok rm (W := W) (σ := σ) (reps_ints _ _ _ _) a).2
      · exact a.elim
    · exact a.elim
  · exact a.elim
/-- a + b of lists, with a place -/
def addN (x y : Dv) (m : Mem) : Res Dv := match lx m x, lx m y with
  | some xs, some ys => newLst (xs ++ ys) m
  | _, _ => .bad
theorem addN_s : OpS G (rAddX G.K) addN := fun D adr m H x y dx dy rm rx ry σ W Q a => by
  unfold addN at a
  split at a
  · rename_i xs ys hx hy
    obtain ⟨p, vs, rfl, h1, h2⟩ := rm.lx rx hx
    obtain ⟨q, ws, rfl, h3, h4⟩ := rm.lx ry hy
    obtain ⟨z, k⟩ := newLst_ok rm (W := W) (σ := σ) (h2.append h4) a
    exact .inr (.inr (.inl ⟨p, q, vs, ws, rfl, rfl, h1, h3, by rw [List.length_append] at z; exact z, k⟩))
  · exact a.elim
/-! data one deeper -/
def vwT (m : Mem) : Dv → Dv
  | .tup ds => .tup (ds.map (vw m))
  | d => vw m d
theorem vws_dp (rm : RM G D adr m H) : ∀ (ds : List Dv) (vs : List V) (ps : List PyData), Reps G D adr vs ds → toPys m (ds.map (vw m)) = some ps → DpAll G.K H vs ps
  | [], _, _, r, e => by cases r; cases e; exact .nil
  | d :: ds, _, _, r, e => by
    cases r with
    | cons q s =>
      rw [List.map_cons] at e
      unfold toPys at e
      split at e
      · rename_i p ps h1 h2
        cases e
        exact .cons (vw_dp rm q h1) (vws_dp rm ds _ ps s h2)
      · cases e
theorem vwT_dp (rm : RM G D adr m H) {d : Dv} {v : V} {p : PyData} (r : Rep G D adr v d) (e : toPy m (vwT m d) = some p) : Dp G.K H v p := by
  unfold vwT at e
  split at e
  · rename_i ds
    cases r with
    | tup q s =>
      unfold toPy at e
      cases h : toPys m (ds.map (vw m)) with
      | none => rw [h] at e; cases e
      | some ps => rw [h] at e; cases e; exact .tup (SqT.of (rm.le.tup q)) (vws_dp rm ds _ ps s h)
  · exact vw_dp rm r e
def eqBV (m : Mem) (x y : Dv) : Option Bool := match toPy m (vwT m x), toPy m (vwT m y) with
  | some p, some q => if SeqAt.shaped p && SeqAt.shaped q then some (PyData.eqv p q) else none
  | _, _ => none
def eqDV (x y : Dv) (m : Mem) : Res Dv := match eqBV m x y with
  | some b => .ok (.bl b) m
  | none => .bad
def neDV (x y : Dv) (m : Mem) : Res Dv := match eqBV m x y with
  | some b => .ok (.bl (!b)) m
  | none => .bad
theorem eqBV_s (rm : RM G D adr m H) {x y : V} {dx dy : Dv} {b : Bool} (rx : Rep G D adr x dx) (ry : Rep G D adr y dy) (e : eqBV m dx dy = some b) :
    ∃ p q, Dp G.K H x p ∧ Dp G.K H y q ∧ SeqAt.shaped p = true ∧ SeqAt.shaped q = true ∧ b = PyData.eqv p q := by
  unfold eqBV at e
  split at e
  · rename_i p q h1 h2
    split at e
    · rename_i h
      cases e
      rw [Bool.and_eq_true] at h
      exact ⟨p, q, vwT_dp rm rx h1, vwT_dp rm ry h2, h.1, h.2, rfl⟩
    · cases e
  · cases e
theorem eqDV_s : OpS G (rEqX G.K) eqDV := fun D adr m H x y dx dy rm rx ry σ W Q a => by
  unfold eqDV at a
  split at a
  · rename_i b e
    obtain ⟨p, q, h1, h2, h3, h4, h5⟩ := eqBV_s rm rx ry e
    exact .inr ⟨p, q, h1, h2, h3, h4, by rw [← h5]; exact a.ok rm (.bl _)⟩
  · exact a.elim
theorem neDV_s : OpS G (rNeX G.K) neDV := fun D adr m H x y dx dy rm rx ry σ W Q a => by
  unfold neDV at a
  split at a
  · rename_i b e
    obtain ⟨p, q, h1, h2, h3, h4, h5⟩ := eqBV_s rm rx ry e
    exact .inr ⟨p, q, h1, h2, h3, h4, by rw [← h5]; exact a.ok rm (.bl _)⟩
  · exact a.elim
end
/-! how they are reckoned with -/
@[simp] theorem listKD_r (x : Dv) (m : Mem) : listKD [x] m = (match dcAt m x with
    | some (.k kds) => mkLst ((kds.map (·.1)).map keyV) m
    | _ => .bad) := rr rfl
@[simp] theorem addN_r (x y : Dv) (m : Mem) : addN x y m = (match lx m x, lx m y with
  | some xs, some ys => newLst (xs ++ ys) m
  | _, _ => .bad) := rr rfl
theorem keyV_ints (ks : List Int) : (ks.map Sum.inl : List Key).map keyV = ks.map Dv.int := by rw [List.map_map] <;> rfl
end Sn
/-! Sn12 -/
set_option Elab.async false
set_option linter.all false
set_option maxRecDepth 100000
set_option autoImplicit false
set_option maxHeartbeats 2000000
/-! Sn12: within an except suite: loops over lists, defs called, methods -/
namespace Sn
open PySem PySem.Spec PyProof.Rows L2 HotX L2H

theorem pyNext_list_end_hot {prog : Program} {w : World} {A : Around} {E : Value → Shared → Prop} {s : Shared} {it x1 l : Addr} {i : Nat} {items} {Q : Option Value → Shared → Prop} (hot : HotAt A x1 s.heap) (hne : x1 ≠ it)
    (hit : s.heap.IsListIter it l i) (hl : s.heap.IsList l items) (hx : items[i]? = none)
    (hQ : ∀ h', (∀ b o, b ≠ it → s.heap.get? b = some o → h'.get? b = some o) → Q none { s with heap := h' }) : wpAny (model prog w) A (pyNext (.ref it)) Q E s := by
  obtain ⟨o, ho, hc, hd⟩ := id hit
  obtain ⟨ol, hol, _, nl, hdl⟩ := hl
  obtain ⟨hh, o1, vs1, h1, d1, c1⟩ := hot
  unfold pyNext
  refine wpAny_bind (wpAny_attempt (wpAny_callSpecial?_slot (name := Str.ofString "__next__") hit.typeIs slot_listiter_next
    (wpAny_call_entry slot_listiter_next hit.typeIs entry_listiter_next ?_ (args_listiter_next _))))
  show wpAny _ _ (field (.ref it) 0 >>= _) _ _ s
  refine wpAny_bind (wpAny_field ho hd (x := .ref l) rfl ?_)
  show wpAny _ _ (if (Value.ref l == Value.none) = true then _ else _) _ _ s
  rw [if_neg (show ¬ ((Value.ref l == Value.none) = true) from Bool.false_ne_true)]
  show wpAny _ _ (field (.ref it) 1 >>= _) _ _ s
  refine wpAny_bind (wpAny_field ho hd (x := .int i 0) rfl ?_)
  show wpAny _ _ (seqItems? (.ref l) >>= _) _ _ s
  refine wpAny_bind (wpAny_seqItems hol hdl ?_)
  simp only [Int.toNat_natCast, hx]
  refine wpAny_bind (wpAny_rule (wpAny_bind (wpAny_setField ho hd (by simp) ?_)))
  show wpAny _ _ (newExc (.type "StopIteration") [] >>= _) _ _ _
  refine wpAny_bind ?_
  simp only [newExc, newTuple]
  refine wpAny_bind (wpAny_newObj_type ?_ (by size_fits))
  refine wpAny_bind (m := firstArgMember _ _) (wpAny_of_eq (a := Value.none) (by first | rfl | (simp only [firstArgMember]; rfl)) ?_)
  refine wpAny_newObj_type ?_ (by size_fits)
  have q1 : ∀ (f : Obj → Obj), (s.heap.update it f).get? x1 = some o1 := fun f => (Heap.get?_update_other _ _ hne.symm).trans h1
  refine raiseNew_hot ⟨hh, o1, vs1, Heap.get?_push_of_some _ (Heap.get?_push_of_some _ (q1 _)), d1, c1⟩ (Nat.ne_of_lt (Heap.lt_size (Heap.get?_push_of_some _ (q1 _)))) (Heap.get?_push_size _ rfl) rfl (by first | (simp; done) | (simp; omega) | (simp only [Array.size_append]; simp; omega)) ?_
  refine wpAny_bind (wpAny_isInstance (T := "StopIteration") (b := true) ⟨_, Heap.get?_update_self _ (Heap.get?_push_size _ rfl) rfl, rfl⟩ isSubtype_stop ?_)
  refine wpAny_pure (hQ _ fun b o hb e => ?_)
  have e2 : ∀ (f : Obj → Obj), (s.heap.update it f).get? b = some o := fun f => (Heap.get?_update_other _ _ (Ne.symm hb)).trans e
  rw [Heap.get?_update_other _ _ (Nat.ne_of_gt (Heap.lt_size (Heap.get?_push_of_some _ (e2 _))))]
  exact Heap.get?_push_of_some _ (Heap.get?_push_of_some _ (e2 _))
theorem turn_listH {P : Program} {w : World} {K : PySem.W.Frag} {tg : Expr} (a it : Addr) : TurnH P w K tg (Itl K a) [it] it (fun i h => h.IsListIter it a i) where
  mem := by simp
  obj := fun i h st b hb => by
    have e : b = it := by simpa using hb
    subst e
    obtain ⟨o, e, c, d⟩ := st
    exact ⟨o, e, fun v z => by rw [d] at z; cases z⟩
  keep := fun i h h' st k => st.at fun o e => k it (by simp) o e
  item := by
    intro X hP hw hK hc i pins s σ H E I hf st hg
    subst hP hw hK
    obtain ⟨xs, x, hq, hx⟩ := hg
    obtain ⟨its, rv, p, hz⟩ := I.list hq
    obtain ⟨u, hu, ru⟩ := rv.get hx
    obtain ⟨f0, f1, f2, f3, f4, f5⟩ := hf it (by simp)
    refine wpAny_pyNext_list_item st p.isList (x := u) (by simpa using hu) fun h' st' sb => ?_
    have I1 : Inv X pins σ H { s with heap := h' } := I.turned (t' := s.toks) (fun b o hb e => (sb.2 b hb).trans e) f0 f1 f3 f4 f5
    obtain ⟨o, e, c, d⟩ := id st'
    exact ⟨u, rfl, go_of (s := { s with heap := h' }) e c d (by decide) ⟨x, H, I1, ru, ⟨rfl, fun ys hy => by rw [I.list_inj hy hq]; exact hx⟩, st', fun b hb => (hf b hb).1⟩⟩
  done := by
    intro X hP hw hK hc i pins s σ H E I hf st hg
    subst hP hw hK
    obtain ⟨xs, hq, hx⟩ := hg
    obtain ⟨its, rv, p, hz⟩ := I.list hq
    obtain ⟨f0, f1, f2, f3, f4, f5⟩ := hf it (by simp)
    have hl := rv.length
    obtain ⟨x1, hpn, hot⟩ : ∃ x1, x1 ≠ it ∧ HotAt X.A x1 s.heap := by
      obtain ⟨q, ⟨hh, v1, e1, c1⟩, hq'⟩ := hc
      exact ⟨q.1, f5 q (List.mem_append_left _ hq'), hh, q.2, v1, (I.pin q (List.mem_append_left _ hq')).1, e1, c1⟩
    exact pyNext_list_end_hot hot hpn st p.isList (by simp; omega) fun h' eb => ⟨rfl, I.turned (t' := s.toks) (fun b o hb e => eb b o hb e) f0 f1 f3 f4 f5⟩
  self := fun _ _ _ _ _ st h => wpAny_pyIter_listiter st h
theorem pi_listH {X : Cx} {tg l : Expr} {tl : TE} (hl : PE X l tl) : PIH X tg l (iList X.K tl) := by
  refine ⟨fun pins s σ H R I h => ?_⟩
  refine thn (hl.run pins s σ H _ I h) fun v s1 ⟨x, H1, I1, r1, q1⟩ => ?_
  obtain ⟨a, e, ⟨xs, hq⟩, q⟩ := q1
  subst e
  cases r1
  obtain ⟨its, rv, p, hz⟩ := I1.list hq
  refine wpAny_pyIter_list p.isList ?_
  refine ⟨s1.heap.objs.size, [s1.heap.objs.size], _, _, H1, rfl, I1.kept (t' := s1.toks) fun b o e => Heap.get?_push_of_some _ e, turn_listH a _, ⟨_, Heap.get?_push_size _ rfl, rfl, rfl⟩, fun b hb => ?_, q⟩
  have e : b = s1.heap.objs.size := by simpa using hb
  subst e
  exact I1.fpOk (Nat.le_refl _) (I1.hok.fresh (Nat.le_refl _))
section
variable {G : Cg} {X : Cx} {W : WX}
/-- a loop over a list without items -/
def sForE (e : E) : S := fun l m => (e l m).out l fun d m1 => match d with
  | .lst [] => .nx l m1
  | _ => .bad
theorem pg_no {tg : Expr} : PG X tg (fun _ _ _ _ => False) := ⟨fun _ _ _ _ _ _ _ _ _ h => h.elim⟩
theorem ms_forE {tg iter : Expr} {me : E} {body : List Stmt} {pos : Pos} (hp : PassesOwn (model X.prog X.w) X.A X.env X.xe) (hc : HotC X) (hK : X.K = G.K) (he : PE X iter (tM G W me)) (hs : ∀ x, foldedSetIterable iter X.env x = pure x := by intro _; rfl) :
    PS X (.For tg iter body [] pos) (tS G W (sForE me)) := by
  refine PS_imp (ps_forH hp hc (pi_listH he) pg_no (pss_no (ss := body)) hs) fun De σ H ⟨D, adr, l, m, rm, rs, a⟩ => ?_
  refine stepS rm rs a fun v H1 D1 a1 d m1 e1 f1 rm1 rs1 re b => ?_
  split at b
  · cases re with
    | @lst p vs _ q r =>
      cases r
      have hq : SqL X.K H1 p [] := SqL.of (rm1.le _ _ q)
      refine ⟨p, rfl, ⟨[], hq⟩, fun _ _ σ' H' => σ' = σ ∧ H' = H1, ⟨0, rfl, rfl⟩, ?_⟩
      rintro i n σ' H' ⟨rfl, rfl⟩
      exact .inl ⟨⟨[], hq, Nat.zero_le _⟩, b _ _ _ _ (Le.refl _) (Pf.refl _) rm1 rs1⟩
  · exact b.elim
theorem me_callH {x : Str} {p pos : Pos} {e : Expr} {es : List Expr} {ms : A} {k n : Nat} {f : Addr} {fd : FuncData} {ps : List Str} {g : Fn} (F : FnH X.prog X.w X.K X.mg X.base (L2N.CX X.prog X.w) k f fd ps (spM G n g)) (tk : L2N.Takes X W) (hr : RoomH k X.A) (hc : HotC X) (hg : Gl X x) (hm : X.mg x = some (.ref f))
    (hk : PySem.W.keepIn X.K (.ref f) = true) (hb : Binds X.K fd ps []) (ha : PA X (e :: es) (tMA G W ms)) (hdb : (x == ("__debug__" : Str)) = false := by decide) (he : starEach (e :: es) X.env = (false, eval e X.env) :: starEach es X.env := by rfl) (hpl : (backTo pos (starEach es X.env)).any (·.1) = false := by rfl) :
    PE X (.Call (.Name x p) (e :: es) [] pos) (tM G W (eCall n g ms)) :=
  PE_imp (pe_callH F hr hc hg hm hk hb (fun σ => L2N.passAt tk σ) ha hdb he hpl) fun σ H Q ⟨D, adr, l, m, rm, rs, a⟩ => step rm rs a fun vs H1 D1 a1 ds m1 e1 f1 rm1 rs1 r b => by
    split at b
    · rename_i hl
      exact ⟨D1, a1, m1, ds, rm1, r, hl, aft_we b⟩
    · exact b.elim
theorem me_methH {k n C : Nat} {f : Addr} {fd : FuncData} {ps : List Str} {g : Fn} {o e : Expr} {es : List Expr} {mo : E} {ms : A} {nm : Str} {apos pos : Pos} {pl : Sem Bool} (F : FnH X.prog X.w X.K X.mg X.base (L2N.CX X.prog X.w) k f fd ps (spM G n g)) (tk : L2N.Takes X W) (hr : RoomH k X.A) (hc : HotC X) (hb : Binds X.K fd ps [])
    (c : Cls X.K (G.cls C)) (hm : Meth X.K (G.cls C) nm f) (hn : nm ∉ G.names C) (ho : PE X o (tM G W mo)) (ha : PA X (e :: es) (tMA G W ms))
    (hst : starEach (e :: es) X.env = (false, eval e X.env) :: starEach es X.env := by rfl) (hpl : (backTo pos (starEach es X.env)).any (·.1) = false := by rfl)
    (ht : eval (.Call (.Attribute o nm apos) (e :: es) [] pos) X.env = (do
      let ov ← eval o X.env
      standAt apos.atName
      let (f, first) ← holding [ov] (getMethod ov nm pl)
      callWith pos f first (backTo pos (starEach (e :: es) X.env)) (backToKw pos (keywordEach [] X.env))) := by rfl) :
    PE X (.Call (.Attribute o nm apos) (e :: es) [] pos) (tM G W (eMeth C n g mo ms)) :=
  PE_imp (pe_methH ho c hm F hr hc hb (fun σ => L2N.passAt tk σ) ha hst hpl ht) fun σ H Q ⟨D, adr, l, m, rm, rs, a⟩ => step rm rs a fun v H1 D1 a1 d m1 e1 f1 rm1 rs1 r b => by
    split at b
    · rename_i C' fs h
      split at b
      · rename_i hC
        subst hC
        obtain ⟨p, dx, fv, rfl, h1, h2, h3, h4⟩ := rm1.ins r h
        refine ⟨p, dx, fv, rfl, h1, lookup_none (fun z => hn (by rw [h2] at z; exact List.mem_of_mem_take z)), ?_⟩
        refine step rm1 rs1 b fun vs H2 D2 a2 ds m2 e2 f2 rm2 rs2 r2 c => ?_
        split at c
        · rename_i hl
          exact ⟨D2, a2, m2, d :: ds, rm2, .cons (r.mono e2 f2) r2, hl, aft_we c⟩
        · exact c.elim
      · exact b.elim
    · exact b.elim
end
/-- the context of a def's body, called within an except suite -/
abbrev cxh (P : Program) (w : World) (K : PySem.W.Frag) (mg : Str → Option Value) (base : Heap) (N : List Str) (qual : Str) (st : Stmt) (f : Addr) (cdv : Value) (A : Around) (outer : List Env) (s : Shared) (H : Hp) (E : XK) (p : Addr × Obj) : Cx :=
  cxH (L2N.CX P w) P w K mg base N qual (defScope st) f cdv A outer s H E p
theorem fn_okH {P : Program} {w : World} {G : Cg} {mg : Str → Option Value} {base : Heap} {x qual : Str} {st : Stmt} {f : Addr} {fd : FuncData} {N ps : List Str} {k n M : Nat} {body : S} {g : Fn} (F : Fun G.K x qual st f fd) (Sc : FnScope N ps (defScope st)) (hn : ps.length = n) (hM : N.length = M) (hg : g = mkFn n M body)
    (hbody : ∀ (cdv : Value) (A : Around) (outer : List Env) (s : Shared) (H : Hp) (E : XK) (p : Addr × Obj), Hot1 A p → RoomH k (A.deeper (envOfC qual (defScope st) s.heap.objs.size f cdv)) →
      PSs (cxH (L2N.CX P w) P w G.K mg base N qual (defScope st) f cdv A outer s H E p) (defBody st) (tS G (We E) body)) : FnH P w G.K mg base (L2N.CX P w) (k + 1) f fd ps (spM G n g) := by
  subst hn hM hg
  obtain ⟨oc, od, kV, doc, pm, an, cdv, ct, osl, rfl, lk, hcd⟩ := F.ex
  refine fn_ofH lk hcd Sc (fun vs H Q E h => ?_) (fun A outer s H vs Q E p hot hr h => ⟨tS G (We E) body, hbody cdv A outer s H E p hot hr, ?_⟩)
  · obtain ⟨D, adr, m, ds, rm, r, hl, a⟩ := h
    rw [r.length, hl]
  · obtain ⟨D, adr, m, ds, rm, r, hl, a⟩ := h
    unfold mkFn at a
    rw [if_pos hl] at a
    refine ⟨D, adr, _, m, rm, ?_, fin_s rm a⟩
    have := rs_start r (N.length - ps.length)
    unfold L2.start
    rw [r.length, hl]
    exact this
theorem hotC_of {CX : CXT} {P : Program} {w : World} {K : PySem.W.Frag} {mg : Str → Option Value} {base : Heap} {N : List Str} {qual : Str} {scope : Scope} {f : Addr} {cd : Value} {A : Around} {outer : List Env} {s : Shared} {H : Hp} {E : XK} {p : Addr × Obj} (h : Hot1 A p) : HotC (cxH CX P w K mg base N qual scope f cd A outer s H E p) := ⟨p, h, List.mem_singleton.mpr rfl⟩
theorem huH_of {A : Around} {k : Nat} (hr : RoomH k A) : A.units + 1 < cLine := by have := hr.un; omega
theorem huH64 {A : Around} {k : Nat} (hr : RoomH k A) : A.units + 64 < cLine := by have := hr.un; omega
/-! ### try: .. except X: a suite that runs on -/
section
variable {G : Cg} {X : Cx} {W : WX}
/-- body; classes of what it raises: caught (then the suite), or not -/
def sTryS (tab : List (XC × Bool)) (body suite : S) : S := fun l m => match body l m with
  | .exc c l1 m1 => match tab.lookup c with
    | some true => (match suite l1 m1 with
      | .exc _ _ _ => .bad
      | o => o)
    | some false => .exc c l1 m1
    | none => .bad
  | o => o
inductive HdB (G : Cg) (X : Cx) (cv : Value) : List (XC × Bool) → Prop
  | nil : HdB G X cv []
  | cons {c : XC} {b : Bool} {tab : List (XC × Bool)} (hx : PySem.W.exmOne X.K (.ref (G.xa c)) cv = some b) (r : HdB G X cv tab) : HdB G X cv ((c, b) :: tab)
theorem HdB.get {cv : Value} {tab : List (XC × Bool)} (h : HdB G X cv tab) {c : XC} {b : Bool} (e : tab.lookup c = some b) : PySem.W.exmOne X.K (.ref (G.xa c)) cv = some b := by
  induction h with
  | nil => cases e
  | cons hx r ih =>
    rename_i c' b' tab
    rw [List.lookup_cons] at e
    by_cases g : c = c'
    · subst g
      simp at e
      subst e
      exact hx
    · have g' : (c == c') = false := by simpa using g
      rw [g'] at e
      exact ih e
/-- nothing is let out -/
abbrev Wno : WX := fun _ _ _ _ => False
theorem aftS_w0 {De : Ends} {D : Hp} {adr : List Addr} {r : Out} (h : AftS G W De D adr (match r with
      | .exc _ _ _ => .bad
      | o => o)) : AftS G Wno De D adr r := by
  cases r <;> first | exact h | exact False.elim h
theorem ms_tryS {x : Str} {cv : Value} {tab : List (XC × Bool)} {body suite : List Stmt} {mb ms : S} {b₀ : Stmt} {np pos pos' : Pos} (hs : X.stack = X.env :: X.outer) (hf : X.env.frame = some X.env.locals) (hc : Names X x cv) (tk : L2N.Takes X W)
    (hb : ∀ (W : WX) (pn : List (Addr × Obj)) (xe : Value → Shared → Prop), L2N.Takes (X.tr pn xe) W → PassesOwn (model X.prog X.w) X.A X.env xe → PSs (X.tr pn xe) body (tS G W mb))
    (hsu : ∀ (a : Addr) (oe : Obj) (pn : List (Addr × Obj)), HotC (X.suite a ((a, oe) :: pn)) → PSs (X.suite a ((a, oe) :: pn)) (b₀ :: suite) (tS G Wno ms)) (ht : HdB G X cv tab) :
    PS X (.Try body [.ExceptHandler (some (.Name x np)) none (b₀ :: suite) pos'] [] [] pos) (tS G W (sTryS tab mb ms)) := by
  have hh : L2N.HdsOk X [.ExceptHandler (some (.Name x np)) none (b₀ :: suite) pos'] [(cv, fun _ _ _ => tS G Wno ms)] := .cons hc (fun a oe cls d pn z f => by
    obtain ⟨vs, hv⟩ := f
    exact hsu a oe pn ⟨(a, oe), ⟨rfl, vs, hv, z.2.2 vs hv⟩, List.mem_cons_self⟩) .nil
  refine PS_imp (L2N.ps_try_many (tb := fun W => tS G W mb) (Wout := W) hs hf tk hb hh) fun De σ H ⟨D, adr, l, m, rm, rs, q⟩ => ?_
  refine ⟨D, adr, l, m, rm, rs, ?_⟩
  unfold sTryS at q
  cases e : mb l m with
  | nx l1 m1 => rw [e] at q; exact q
  | rt d m1 => rw [e] at q; exact q
  | bk l1 m1 => rw [e] at q; exact q
  | ct l1 m1 => rw [e] at q; exact q
  | bad => rw [e] at q; exact q.elim
  | exc c l1 m1 =>
    rw [e] at q
    intro σ' H' D' a' le pf rm' rs'
    cases hl : tab.lookup c with
    | none => simp only [hl] at q; exact q.elim
    | some o =>
      have h1 := ht.get hl
      simp only [hl] at q
      refine ⟨o, h1, fun ho a ha => ?_, fun ho => ?_⟩
      · subst ho
        exact ⟨D', a', l1, m1, rm', rs', (aftS_w0 q).mono le pf⟩
      · subst ho
        exact q σ' H' D' a' le pf rm' rs'
end
/-! what is not carried (and must not be reached) -/
def sBad : S := fun _ _ => .bad
def eBad : E := fun _ _ => .bad
theorem ms_bad {G : Cg} {X : Cx} {W : WX} {st : Stmt} : PS X st (tS G W sBad) := ⟨fun pins s σ H De I ⟨_, _, _, _, _, _, a⟩ => a.elim⟩
theorem me_bad {G : Cg} {X : Cx} {W : WX} {e : Expr} : PE X e (tM G W eBad) := ⟨fun pins s σ H Q I ⟨_, _, _, _, _, _, a⟩ => a.elim⟩
theorem roomH_mark {k : Nat} {A : Around} (r : Room k A) (v : Option Value) : RoomH k (A.mark v) := ⟨r.dp, r.un⟩
@[simp] theorem sForE_r (e : E) (l : Lc) (m : Mem) : sForE e l m = (e l m).out l fun d m1 => match d with
  | .lst [] => .nx l m1
  | _ => .bad := rr rfl
def Out.gotS (tab : List (XC × Bool)) (suite : S) (o : Out) : Out := match o with
  | .exc c l1 m1 => match tab.lookup c with
    | some true => (match suite l1 m1 with
      | .exc _ _ _ => .bad
      | o => o)
    | some false => .exc c l1 m1
    | none => .bad
  | o => o
@[simp] theorem sTryS_r (tab : List (XC × Bool)) (b ms : S) (l : Lc) (m : Mem) : sTryS tab b ms l m = Out.gotS tab ms (b l m) := by
  unfold sTryS Out.gotS
  cases b l m <;> rfl
@[simp] theorem gotS_nx (tab : List (XC × Bool)) (ms : S) (l : Lc) (m : Mem) : Out.gotS tab ms (.nx l m) = .nx l m := rr rfl
@[simp] theorem gotS_rt (tab : List (XC × Bool)) (ms : S) (d : Dv) (m : Mem) : Out.gotS tab ms (.rt d m) = .rt d m := rr rfl
@[simp] theorem gotS_exc (tab : List (XC × Bool)) (ms : S) (c : XC) (l : Lc) (m : Mem) : Out.gotS tab ms (.exc c l m) = (match tab.lookup c with
    | some true => (match ms l m with
      | .exc _ _ _ => .bad
      | o => o)
    | some false => .exc c l m
    | none => .bad) := rr rfl
end Sn
/-! R1 -/
set_option Elab.async false
set_option linter.all false
set_option maxRecDepth 100000
set_option autoImplicit false
set_option maxHeartbeats 1000000
/-! R1: texts in order, tables by keys, sorted rows -/
namespace Sn
open PySem PySem.Spec PyProof.Rows L2

/-! ### texts in order -/
abbrev tx (s : Str) : List Nat := s.cps.toList
theorem tx_inj {a b : Str} (h : tx a = tx b) : a = b := by
  cases a with
  | mk x =>
    cases b with
    | mk y =>
      have : x = y := Array.ext' h
      rw [this]
def slt (a b : Str) : Prop := tx a < tx b
instance (a b : Str) : Decidable (slt a b) := inferInstanceAs (Decidable (tx a < tx b))
theorem slt_irrefl (a : Str) : ¬ slt a a := List.lt_irrefl _
theorem slt_trans {a b c : Str} (h : slt a b) (g : slt b c) : slt a c := List.lt_trans h g
theorem slt_tri (a b : Str) : slt a b ∨ a = b ∨ slt b a := by
  by_cases h : tx a < tx b
  · exact .inl h
  · by_cases g : tx b < tx a
    · exact .inr (.inr g)
    · exact .inr (.inl (tx_inj (List.le_antisymm (List.not_lt.mp g) (List.not_lt.mp h))))
theorem slt_asymm {a b : Str} (h : slt a b) : ¬ slt b a := fun g => slt_irrefl _ (slt_trans h g)
theorem slt_ne {a b : Str} (h : slt a b) : a ≠ b := fun e => slt_irrefl b (by rw [e] at h; exact h)
theorem sle_iff {a b : Str} : sle a b = true ↔ ¬ slt b a := by
  unfold sle slt
  rw [decide_eq_true_iff]
  exact List.not_lt.symm
theorem leD_str (a b : Str) (m : Mem) : leD (.str a) (.str b) m = .ok (.bl (decide (¬ slt b a))) m := by
  show Res.ok (Dv.bl (!decide (slt b a))) m = _
  rw [decide_not]
theorem sle_trans {a b c : Str} (h : sle a b = true) (g : sle b c = true) : sle a c = true := by
  rw [sle_iff] at *
  intro k
  rcases slt_tri b a with x | x | x
  · exact h x
  · subst x; exact g k
  · rcases slt_tri c b with y | y | y
    · exact g y
    · subst y; exact h k
    · exact slt_asymm (slt_trans x y) k
theorem sle_total (a b : Str) : (sle a b || sle b a) = true := by
  rw [Bool.or_eq_true, sle_iff, sle_iff]
  by_cases h : slt b a
  · exact .inr (slt_asymm h)
  · exact .inl h
theorem sort_pairwise {l : List Str} (h : l.Nodup) : (l.mergeSort sle).Pairwise slt := by
  have h1 : (l.mergeSort sle).Pairwise (fun a b => sle a b = true) := List.pairwise_mergeSort (le := sle) (fun a b c h g => sle_trans h g) sle_total l
  have h2 : (l.mergeSort sle).Nodup := (List.mergeSort_perm l sle).nodup_iff.mpr h
  refine (List.pairwise_and_iff.mpr ⟨h1, h2⟩).imp fun {a b} ⟨x, y⟩ => ?_
  rcases slt_tri a b with z | z | z
  · exact z
  · exact absurd z y
  · exact absurd z (sle_iff.mp x)

/-! ### tables -/
section
variable {κ κ' α α' : Type}
def keys (kvs : List (κ × α)) : List κ := kvs.map (·.1)
/-- the same table in other words -/
def kmap (f : κ → κ') (g : α → α') (kvs : List (κ × α)) : List (κ' × α') := kvs.map fun p => (f p.1, g p.2)
theorem keys_kmap (f : κ → κ') (g : α → α') (kvs : List (κ × α)) : keys (kmap f g kvs) = (keys kvs).map f := by
  unfold keys kmap
  rw [List.map_map, List.map_map] <;> rfl
@[simp] theorem length_kmap (f : κ → κ') (g : α → α') (kvs : List (κ × α)) : (kmap f g kvs).length = kvs.length := List.length_map _
end
section
variable {κ κ' α α' : Type} [DecidableEq κ] [DecidableEq κ']
theorem valG_nil (k : κ) : valG ([] : List (κ × α)) k = none := rfl
theorem valG_cons (p : κ × α) (kvs : List (κ × α)) (k : κ) : valG (p :: kvs) k = if p.1 = k then some p.2 else valG kvs k := by
  unfold valG
  rw [List.find?_cons]
  by_cases h : p.1 = k <;> simp [h]
theorem valG_none {kvs : List (κ × α)} {k : κ} : valG kvs k = none ↔ k ∉ keys kvs := by
  induction kvs with
  | nil => simp [valG_nil, keys]
  | cons p r ih =>
    rw [valG_cons]
    by_cases h : p.1 = k
    · simp [h, keys]
    · rw [if_neg h, ih]
      simp [keys, Ne.symm h]
theorem valG_mem {kvs : List (κ × α)} {k : κ} {v : α} (h : valG kvs k = some v) : (k, v) ∈ kvs := by
  induction kvs with
  | nil => cases h
  | cons p r ih =>
    rw [valG_cons] at h
    split at h
    · rename_i e
      cases h
      subst e
      exact .head _
    · exact .tail _ (ih h)
theorem valG_of_mem {kvs : List (κ × α)} {k : κ} {v : α} (nd : (keys kvs).Nodup) (h : (k, v) ∈ kvs) : valG kvs k = some v := by
  induction kvs with
  | nil => cases h
  | cons p r ih =>
    rw [valG_cons]
    have nd' : p.1 ∉ keys r ∧ (keys r).Nodup := List.nodup_cons.mp nd
    rcases List.mem_cons.mp h with rfl | h
    · simp
    · rw [if_neg, ih nd'.2 h]
      rintro rfl
      exact nd'.1 (List.mem_map.mpr ⟨_, h, rfl⟩)
theorem any_key (kvs : List (κ × α)) (k : κ) : (kvs.any fun kv => decide (kv.1 = k)) = true ↔ k ∈ keys kvs := by
  simp [keys]
theorem keys_put (kvs : List (κ × α)) (k : κ) (v : α) : keys (putG kvs k v) = if k ∈ keys kvs then keys kvs else keys kvs ++ [k] := by
  unfold putG
  by_cases h : k ∈ keys kvs
  · rw [if_pos ((any_key kvs k).mpr h), if_pos h]
    unfold keys
    rw [List.map_map]
    apply List.map_congr_left
    intro a _
    simp only [Function.comp]
    split <;> rfl
  · rw [if_neg (fun g => h ((any_key kvs k).mp g)), if_neg h]
    simp [keys]
theorem mem_keys_put {kvs : List (κ × α)} {k x : κ} {v : α} : x ∈ keys (putG kvs k v) ↔ x = k ∨ x ∈ keys kvs := by
  rw [keys_put]
  by_cases h : k ∈ keys kvs
  · rw [if_pos h]
    constructor
    · exact .inr
    · rintro (rfl | g)
      · exact h
      · exact g
  · rw [if_neg h]
    simp [or_comm]
theorem nodup_put {kvs : List (κ × α)} (nd : (keys kvs).Nodup) (k : κ) (v : α) : (keys (putG kvs k v)).Nodup := by
  rw [keys_put]
  split
  · exact nd
  · rename_i h
    rw [List.nodup_append]
    refine ⟨nd, by simp, fun a ha b hb e => ?_⟩
    rw [List.mem_singleton] at hb
    subst hb e
    exact h ha
theorem length_put (kvs : List (κ × α)) (k : κ) (v : α) : (putG kvs k v).length ≤ kvs.length + 1 := by
  have h := congrArg List.length (keys_put kvs k v)
  unfold keys at h
  rw [List.length_map] at h
  rw [h]
  split <;> simp
theorem valG_append (a b : List (κ × α)) (x : κ) : valG (a ++ b) x = (valG a x).or (valG b x) := by
  induction a with
  | nil => rfl
  | cons p r ih =>
    rw [List.cons_append, valG_cons, valG_cons, ih]
    split <;> rfl
theorem valG_put (kvs : List (κ × α)) (k x : κ) (v : α) : valG (putG kvs k v) x = if x = k then some v else valG kvs x := by
  unfold putG
  split
  · rename_i h
    have h := (any_key kvs k).mp h
    induction kvs with
    | nil => cases h
    | cons p r ih =>
      rw [List.map_cons, valG_cons, valG_cons]
      by_cases e : p.1 = k
      · simp only [e, if_true]
        by_cases g : k = x
        · simp [g]
        · have g' : x ≠ k := Ne.symm g
          simp only [g, g', if_false]
          by_cases hr : k ∈ keys r
          · rw [ih ((any_key r k).mpr hr) hr, if_neg g']
          · have : r.map (fun kv => if kv.1 = k then (kv.1, v) else kv) = r := by
              conv => rhs; rw [← List.map_id r]
              apply List.map_congr_left
              intro a ha
              rw [if_neg]
              · rfl
              · rintro rfl; exact hr (List.mem_map.mpr ⟨a, ha, rfl⟩)
            rw [this]
      · have hr : k ∈ keys r := by
          rcases List.mem_cons.mp h with z | z
          · exact absurd z.symm e
          · exact z
        simp only [e, if_false]
        by_cases g : p.1 = x
        · have : x ≠ k := by rintro rfl; exact e g
          simp [g, this]
        · rw [if_neg g, ih ((any_key r k).mpr hr) hr, if_neg g]
  · rename_i h
    have h : k ∉ keys kvs := fun g => h ((any_key kvs k).mpr g)
    rw [valG_append, valG_cons, valG_nil]
    by_cases e : x = k
    · subst e
      rw [valG_none.mpr h]
      simp
    · rw [if_neg e, if_neg (Ne.symm e)]
      simp
theorem keys_drop (kvs : List (κ × α)) (k : κ) : keys (dropG kvs k) = (keys kvs).filter (fun x => decide (x ≠ k)) := by
  unfold keys dropG
  rw [List.filter_map]
  rfl
theorem valG_drop (kvs : List (κ × α)) (k x : κ) : valG (dropG kvs k) x = if x = k then none else valG kvs x := by
  unfold dropG
  induction kvs with
  | nil => simp [valG_nil]
  | cons p r ih =>
    by_cases e : p.1 = k
    · rw [List.filter_cons_of_neg (by simp [e]), ih, valG_cons]
      by_cases g : x = k
      · simp [g]
      · rw [if_neg g, if_neg g, if_neg]
        rintro rfl; exact g e
    · rw [List.filter_cons_of_pos (by simp [e]), valG_cons, ih, valG_cons]
      by_cases g : p.1 = x
      · rw [if_pos g, if_pos g, if_neg]
        rintro rfl; exact e g
      · rw [if_neg g, if_neg g]
theorem nodup_drop {kvs : List (κ × α)} (nd : (keys kvs).Nodup) (k : κ) : (keys (dropG kvs k)).Nodup := by
  rw [keys_drop]; exact nd.filter _
theorem valG_kmap {f : κ → κ'} (hf : ∀ a b, f a = f b → a = b) (g : α → α') (kvs : List (κ × α)) (k : κ) : valG (kmap f g kvs) (f k) = (valG kvs k).map g := by
  induction kvs with
  | nil => rfl
  | cons p r ih =>
    show valG ((f p.1, g p.2) :: kmap f g r) (f k) = _
    rw [valG_cons, valG_cons, ih]
    by_cases e : p.1 = k
    · simp [e]
    · rw [if_neg e, if_neg (fun z => e (hf _ _ z))]
theorem putG_kmap {f : κ → κ'} (hf : ∀ a b, f a = f b → a = b) (g : α → α') (kvs : List (κ × α)) (k : κ) (v : α) : putG (kmap f g kvs) (f k) (g v) = kmap f g (putG kvs k v) := by
  unfold putG
  have h1 : ((kmap f g kvs).any fun kv => decide (kv.1 = f k)) = kvs.any fun kv => decide (kv.1 = k) := by
    unfold kmap
    rw [List.any_map]
    congr 1
    funext p
    simp only [Function.comp]
    rw [decide_eq_decide]
    exact ⟨hf _ _, congrArg f⟩
  rw [h1]
  split
  · unfold kmap
    rw [List.map_map, List.map_map]
    apply List.map_congr_left
    intro p _
    simp only [Function.comp]
    by_cases e : p.1 = k
    · simp [e]
    · rw [if_neg (fun z => e (hf _ _ z)), if_neg e]
  · unfold kmap
    rw [List.map_append] <;> rfl
theorem dropG_kmap {f : κ → κ'} (hf : ∀ a b, f a = f b → a = b) (g : α → α') (kvs : List (κ × α)) (k : κ) : dropG (kmap f g kvs) (f k) = kmap f g (dropG kvs k) := by
  unfold dropG kmap
  rw [List.filter_map]
  congr 1
  apply List.filter_congr
  intro p _
  simp only [Function.comp]
  rw [decide_eq_decide]
  exact ⟨fun z e => z (congrArg f e), fun z e => z (hf _ _ e)⟩
end

/-! ### sorted rows -/
section
variable {α : Type}
abbrev Srt (rows : List (Str × α)) : Prop := rows.Pairwise fun p q => slt p.1 q.1
theorem Srt.nd {rows : List (Str × α)} (h : Srt rows) : (keys rows).Nodup := by
  unfold keys
  rw [List.nodup_iff_pairwise_ne, List.pairwise_map]
  exact h.imp fun {a b} z => slt_ne z
theorem srt_ext : ∀ {xs ys : List (Str × α)}, Srt xs → Srt ys → (∀ x, valG xs x = valG ys x) → xs = ys
  | [], [], _, _, _ => rfl
  | [], q :: _, _, _, e => by
    have := e q.1
    rw [valG_nil, valG_cons, if_pos rfl] at this
    cases this
  | p :: _, [], _, _, e => by
    have := e p.1
    rw [valG_nil, valG_cons, if_pos rfl] at this
    cases this
  | p :: xs, q :: ys, h1, h2, e => by
    obtain ⟨a1, a2⟩ := List.pairwise_cons.mp h1
    obtain ⟨b1, b2⟩ := List.pairwise_cons.mp h2
    have lo : ∀ {r : List (Str × α)} {x y : Str}, (∀ z ∈ r, slt x z.1) → slt y x ∨ y = x → valG r y = none := fun {r x y} h g => by
      rw [valG_none]
      intro m
      obtain ⟨z, hz, rfl⟩ := List.mem_map.mp m
      rcases g with g | g
      · exact slt_asymm g (h z hz)
      · rw [← g] at h; exact slt_irrefl _ (h z hz)
    have hk : p.1 = q.1 := by
      rcases slt_tri p.1 q.1 with z | z | z
      · have := e p.1
        rw [valG_cons, if_pos rfl, valG_cons, if_neg (slt_ne z).symm, lo b1 (.inl z)] at this
        cases this
      · exact z
      · have := e q.1
        rw [valG_cons, valG_cons, if_pos rfl, if_neg (slt_ne z).symm, lo a1 (.inl z)] at this
        cases this
    have hv : p.2 = q.2 := by
      have := e p.1
      rw [valG_cons, if_pos rfl, valG_cons, if_pos hk.symm] at this
      exact Option.some.inj this
    rw [srt_ext a2 b2 fun x => by
      have := e x
      rw [valG_cons, valG_cons, hk] at this
      by_cases g : q.1 = x
      · rw [lo a1 (.inr (by rw [hk]; exact g.symm)), lo b1 (.inr g.symm)]
      · rwa [if_neg g, if_neg g] at this]
    exact congrArg (· :: ys) (Prod.ext hk hv)
/-- a table's rows by name -/
def rowsOf [Inhabited α] (d : List (Str × α)) : List (Str × α) := ((keys d).mergeSort sle).map fun s => (s, (valG d s).getD default)
theorem keys_rowsOf [Inhabited α] (d : List (Str × α)) : keys (rowsOf d) = (keys d).mergeSort sle := by
  unfold rowsOf
  show (List.map (fun s => (s, (valG d s).getD default)) ((keys d).mergeSort sle)).map (·.1) = _
  rw [List.map_map]
  exact (List.map_congr_left (fun _ _ => rfl)).trans (List.map_id _)
theorem rowsOf_srt [Inhabited α] {d : List (Str × α)} (nd : (keys d).Nodup) : Srt (rowsOf d) := by
  unfold Srt rowsOf
  rw [List.pairwise_map]
  exact sort_pairwise nd
theorem valG_rowsOf [Inhabited α] {d : List (Str × α)} (nd : (keys d).Nodup) (x : Str) : valG (rowsOf d) x = valG d x := by
  cases h : valG d x with
  | none =>
    rw [valG_none, keys_rowsOf, List.mem_mergeSort]
    exact valG_none.mp h
  | some v =>
    refine valG_of_mem (rowsOf_srt nd).nd ?_
    have hm : x ∈ keys d := by
      rcases Classical.em (x ∈ keys d) with z | z
      · exact z
      · rw [valG_none.mpr z] at h; cases h
    unfold rowsOf
    exact List.mem_map.mpr ⟨x, List.mem_mergeSort.mpr hm, by rw [h] <;> rfl⟩
theorem length_rowsOf [Inhabited α] (d : List (Str × α)) : (rowsOf d).length = d.length := by
  unfold rowsOf
  rw [List.length_map, List.length_mergeSort]
  exact List.length_map _
/-- placed -/
def plc (name : Str) (box : α) : Bool → List (Str × α) → List (Str × α)
  | put, [] => if put then [] else [(name, box)]
  | put, (o, k) :: r => (if !put && decide (¬ slt o name) then [(name, box)] else []) ++ ((if o = name then [] else [(o, k)]) ++ plc name box (put || decide (¬ slt o name)) r)
theorem plc_true (name : Str) (box : α) (rows : List (Str × α)) : plc name box true rows = rows.filter fun p => decide (p.1 ≠ name) := by
  induction rows with
  | nil => rfl
  | cons p r ih =>
    obtain ⟨o, k⟩ := p
    show (if (!true && decide (¬ slt o name)) = true then _ else _) ++ (_ ++ plc name box (true || decide (¬ slt o name)) r) = _
    rw [Bool.true_or, ih]
    by_cases e : o = name <;> simp [e]
theorem plc_srt {name : Str} {box : α} {rows : List (Str × α)} (h : Srt rows) : Srt (plc name box false rows) ∧ ∀ x, valG (plc name box false rows) x = if x = name then some box else valG rows x := by
  induction rows with
  | nil =>
    refine ⟨by simp [plc], fun x => ?_⟩
    show valG [(name, box)] x = _
    rw [valG_cons, valG_nil]
    by_cases e : x = name
    · simp [e]
    · rw [if_neg e, if_neg (Ne.symm e)]
  | cons p r ih =>
    obtain ⟨o, k⟩ := p
    obtain ⟨h1, h2⟩ := List.pairwise_cons.mp h
    obtain ⟨i1, i2⟩ := ih h2
    show Srt ((if (!false && decide (¬ slt o name)) = true then _ else _) ++ (_ ++ plc name box (false || decide (¬ slt o name)) r)) ∧ _
    rw [Bool.false_or, Bool.not_false, Bool.true_and]
    by_cases hs : slt o name
    · have hne : o ≠ name := slt_ne hs
      have e : plc name box false ((o, k) :: r) = (o, k) :: plc name box false r := by
        show (if (!false && decide (¬ slt o name)) = true then _ else _) ++ (_ ++ plc name box (false || decide (¬ slt o name)) r) = _
        simp [hs, hne]
      rw [e]
      simp only [hs, not_true, decide_false, Bool.false_eq_true, if_false, hne, List.nil_append, List.cons_append]
      refine ⟨List.pairwise_cons.mpr ⟨fun z hz => ?_, i1⟩, fun x => ?_⟩
      · have hm : z.1 ∈ keys (plc name box false r) := List.mem_map.mpr ⟨z, hz, rfl⟩
        by_cases g : z.1 = name
        · rw [g]; exact hs
        · have : valG (plc name box false r) z.1 = valG r z.1 := by rw [i2, if_neg g]
          have hr : z.1 ∈ keys r := by
            rcases Classical.em (z.1 ∈ keys r) with y | y
            · exact y
            · rw [valG_none.mpr y, valG_none] at this; exact absurd hm this
          obtain ⟨y, hy, e⟩ := List.mem_map.mp hr
          rw [← e]
          exact h1 y hy
      · rw [valG_cons, valG_cons, i2]
        by_cases g : o = x
        · subst g; rw [if_pos rfl, if_neg hne, if_pos rfl]
        · rw [if_neg g, if_neg g]
    · have e : plc name box false ((o, k) :: r) = (name, box) :: ((if o = name then [] else [(o, k)]) ++ r.filter fun p => decide (p.1 ≠ name)) := by
        show (if (!false && decide (¬ slt o name)) = true then _ else _) ++ (_ ++ plc name box (false || decide (¬ slt o name)) r) = _
        simp [hs, plc_true]
      have e2 : (if o = name then [] else [(o, k)]) ++ (r.filter fun p => decide (p.1 ≠ name)) = ((o, k) :: r).filter fun p => decide (p.1 ≠ name) := by
        by_cases g : o = name <;> simp [g]
      rw [e, e2]
      simp only [hs, not_false_eq_true, decide_true, if_true]
      rw [plc_true, e2]
      show Srt ((name, box) :: _) ∧ _
      refine ⟨List.pairwise_cons.mpr ⟨fun z hz => ?_, h.filter _⟩, fun x => ?_⟩
      · obtain ⟨z1, z2⟩ := List.mem_filter.mp hz
        have z2 := of_decide_eq_true z2
        rcases List.mem_cons.mp z1 with rfl | z1
        · rcases slt_tri o name with y | y | y
          · exact absurd y hs
          · exact absurd y z2
          · exact y
        · have h3 := h1 z z1
          rcases slt_tri name o with y | y | y
          · exact slt_trans y h3
          · rw [y]; exact h3
          · exact absurd y hs
      · have hd := valG_drop ((o, k) :: r) name x
        unfold dropG at hd
        rw [valG_cons, hd]
        by_cases g : x = name
        · simp [g]
        · rw [if_neg g, if_neg g, if_neg (Ne.symm g)]
theorem plc_rows [Inhabited α] {d : List (Str × α)} (nd : (keys d).Nodup) (name : Str) (box : α) : plc name box false (rowsOf d) = rowsOf (putG d name box) := by
  obtain ⟨h1, h2⟩ := plc_srt (name := name) (box := box) (rowsOf_srt nd)
  refine srt_ext h1 (rowsOf_srt (nodup_put nd _ _)) fun x => ?_
  rw [h2, valG_rowsOf (nodup_put nd _ _), valG_put, valG_rowsOf nd]
end
end Sn
/-! Q1 -/
set_option Elab.async false
set_option linter.all false
set_option maxRecDepth 100000
set_option autoImplicit false
set_option maxHeartbeats 1000000
/-! Q1: plain data compared -/
namespace Sn
open PySem PySem.Spec PyProof.Rows L2

mutual
def pyOf : Dv → PyData
  | .int i => .int i
  | .str s => .str s
  | .lst ds => .list (pyOfs ds)
  | .tup ds => .tuple (pyOfs ds)
  | _ => .none
def pyOfs : List Dv → List PyData
  | [] => []
  | d :: ds => pyOf d :: pyOfs ds
end
mutual
/-- plain data: none, numbers, texts, lists and tuples of them, n deep -/
def pln (n : Nat) : Dv → Bool
  | .non => true
  | .int _ => true
  | .str s => PyData.strOk s
  | .lst ds => match n with
    | 0 => false
    | n + 1 => plns n ds
  | .tup ds => match n with
    | 0 => false
    | n + 1 => plns n ds
  | _ => false
def plns (n : Nat) : List Dv → Bool
  | [] => true
  | d :: ds => pln n d && plns n ds
end
theorem plns_map {α : Type} (n : Nat) (f : α → Dv) : ∀ (xs : List α), (∀ a ∈ xs, pln n (f a) = true) → plns n (xs.map f) = true
  | [], _ => by simp [plns]
  | x :: xs, h => by
    rw [List.map_cons]
    unfold plns
    rw [h x (.head _), plns_map n f xs fun a ha => h a (.tail _ ha)]
    rfl
theorem plns_of {n : Nat} : ∀ {xs : List Dv}, (∀ a ∈ xs, pln n a = true) → plns n xs = true
  | [], _ => by simp [plns]
  | x :: xs, h => by
    unfold plns
    rw [h x (.head _), plns_of fun a ha => h a (.tail _ ha)]
    rfl
mutual
theorem pln_ok (m : Mem) : ∀ (n : Nat) (d : Dv), pln n d = true → toPy m d = some (pyOf d) ∧ (pyOf d).canLay0 = true ∧ (pyOf d).depth ≤ n
  | _, .non, _ => by simp [toPy, pyOf, PyData.canLay0, PyData.depth]
  | _, .int _, _ => by simp [toPy, pyOf, PyData.canLay0, PyData.depth]
  | _, .str s, h => by
    have h : PyData.strOk s = true := by simpa [pln] using h
    simp [toPy, pyOf, PyData.canLay0, PyData.depth, h]
  | 0, .lst ds, h => by simp [pln] at h
  | n + 1, .lst ds, h => by
    have h : plns n ds = true := by simpa [pln] using h
    obtain ⟨a, b, c⟩ := plns_ok m n ds h
    refine ⟨by simp [toPy, pyOf, a], by simp only [pyOf, PyData.canLay0]; exact b, by simp only [pyOf, PyData.depth]; omega⟩
  | 0, .tup ds, h => by simp [pln] at h
  | n + 1, .tup ds, h => by
    have h : plns n ds = true := by simpa [pln] using h
    obtain ⟨a, b, c⟩ := plns_ok m n ds h
    refine ⟨by simp [toPy, pyOf, a], by simp only [pyOf, PyData.canLay0]; exact b, by simp only [pyOf, PyData.depth]; omega⟩
  | _, .bl _, h => by simp [pln] at h
  | _, .fn _, h => by simp [pln] at h
  | _, .loc _, h => by simp [pln] at h
  | _, .scr _, h => by simp [pln] at h
  | _, .dic _ _, h => by simp [pln] at h
  | _, .dit _ _, h => by simp [pln] at h
theorem plns_ok (m : Mem) : ∀ (n : Nat) (ds : List Dv), plns n ds = true → toPys m ds = some (pyOfs ds) ∧ PyData.canLayAll0 (pyOfs ds) = true ∧ PyData.depthAll (pyOfs ds) ≤ n
  | _, [], _ => by simp [toPys, pyOfs, PyData.canLayAll0, PyData.depthAll]
  | n, d :: ds, h => by
    have h : pln n d = true ∧ plns n ds = true := by simpa [plns] using h
    obtain ⟨a, b, c⟩ := pln_ok m n d h.1
    obtain ⟨a', b', c'⟩ := plns_ok m n ds h.2
    refine ⟨by simp [toPys, pyOfs, a, a'], by simp only [pyOfs, PyData.canLayAll0]; rw [b, b']; rfl, by simp only [pyOfs, PyData.depthAll]; omega⟩
end
mutual
theorem pln_eq : ∀ (n : Nat) (d e : Dv), pln n d = true → pln n e = true → ((pyOf d).eqv (pyOf e) = true ↔ d = e)
  | n, .lst ds, e, h, g => by
    cases e with
    | lst es =>
      cases n with
      | zero => simp [pln] at h
      | succ n =>
        have h : plns n ds = true := by simpa [pln] using h
        have g : plns n es = true := by simpa [pln] using g
        have := plns_eq n ds es h g
        simp only [pyOf, PyData.eqv, this, Dv.lst.injEq]
    | _ => first | (simp [pyOf, PyData.eqv]; done) | (simp [pln] at g; done)
  | n, .tup ds, e, h, g => by
    cases e with
    | tup es =>
      cases n with
      | zero => simp [pln] at h
      | succ n =>
        have h : plns n ds = true := by simpa [pln] using h
        have g : plns n es = true := by simpa [pln] using g
        have := plns_eq n ds es h g
        simp only [pyOf, PyData.eqv, this, Dv.tup.injEq]
    | _ => first | (simp [pyOf, PyData.eqv]; done) | (simp [pln] at g; done)
  | n, .int i, e, h, g => by
    cases e with
    | _ => first | (simp [pyOf, PyData.eqv]; done) | (simp [pln] at g; done)
  | n, .str i, e, h, g => by
    cases e with
    | _ => first | (simp [pyOf, PyData.eqv]; done) | (simp [pln] at g; done)
  | n, .non, e, h, g => by
    cases e with
    | _ => first | (simp [pyOf, PyData.eqv]; done) | (simp [pln] at g; done)
  | _, .bl _, _, h, _ => by simp [pln] at h
  | _, .fn _, _, h, _ => by simp [pln] at h
  | _, .loc _, _, h, _ => by simp [pln] at h
  | _, .scr _, _, h, _ => by simp [pln] at h
  | _, .dic _ _, _, h, _ => by simp [pln] at h
  | _, .dit _ _, _, h, _ => by simp [pln] at h
theorem plns_eq : ∀ (n : Nat) (ds es : List Dv), plns n ds = true → plns n es = true → (PyData.eqvAll (pyOfs ds) (pyOfs es) = true ↔ ds = es)
  | _, [], [], _, _ => by simp [pyOfs, PyData.eqvAll]
  | _, [], _ :: _, _, _ => by simp [pyOfs, PyData.eqvAll]
  | _, _ :: _, [], _, _ => by simp [pyOfs, PyData.eqvAll]
  | n, d :: ds, e :: es, h, g => by
    have h : pln n d = true ∧ plns n ds = true := by simpa [plns] using h
    have g : pln n e = true ∧ plns n es = true := by simpa [plns] using g
    simp only [pyOfs, PyData.eqvAll, Bool.and_eq_true, pln_eq n d e h.1 g.1, plns_eq n ds es h.2 g.2, List.cons.injEq]
end
open Classical in
theorem eqB_pln {n : Nat} {m : Mem} {x y : Dv} (hn : n ≤ 64) (h : pln n (vw m x) = true) (g : pln n (vw m y) = true) (hs : scD x = none ∨ scD y = none) : eqB m x y = some (decide (vw m x = vw m y)) := by
  obtain ⟨a, b, c⟩ := pln_ok m n _ h
  obtain ⟨a', b', c'⟩ := pln_ok m n _ g
  have s1 : SeqAt.shaped (pyOf (vw m x)) = true := by
    unfold SeqAt.shaped
    rw [b, decide_eq_true (Nat.le_trans c hn)]
    rfl
  have s2 : SeqAt.shaped (pyOf (vw m y)) = true := by
    unfold SeqAt.shaped
    rw [b', decide_eq_true (Nat.le_trans c' hn)]
    rfl
  have e : (pyOf (vw m x)).eqv (pyOf (vw m y)) = decide (vw m x = vw m y) := by
    rw [Bool.eq_iff_iff, decide_eq_true_iff]
    exact pln_eq n _ _ h g
  unfold eqB
  split
  · rename_i h1 h2
    rcases hs with z | z
    · rw [z] at h1; cases h1
    · rw [z] at h2; cases h2
  · rw [a, a']
    simp only [s1, s2, Bool.and_self, if_true, e]
open Classical in
theorem eqD_pln {n : Nat} {m : Mem} {x y : Dv} (hn : n ≤ 64) (h : pln n (vw m x) = true) (g : pln n (vw m y) = true) (hs : scD x = none ∨ scD y = none) : eqD x y m = .ok (.bl (decide (vw m x = vw m y))) m := by
  unfold eqD; rw [eqB_pln hn h g hs]
open Classical in
theorem neD_pln {n : Nat} {m : Mem} {x y : Dv} (hn : n ≤ 64) (h : pln n (vw m x) = true) (g : pln n (vw m y) = true) (hs : scD x = none ∨ scD y = none) : neD x y m = .ok (.bl (!decide (vw m x = vw m y))) m := by
  unfold neD; rw [eqB_pln hn h g hs]
theorem strOk_abc {s : Str} (h : ∀ x ∈ tx s, x ≤ 122) : PyData.strOk s = true := by
  unfold PyData.strOk
  rw [← Array.all_toList, List.all_eq_true]
  intro x hx
  have := h x hx
  simp
  omega
/-- a list's data: given at once or at a place -/
def LV (m : Mem) (x : Dv) (ds : List Dv) : Prop := x = .lst ds ∨ ∃ n, x = .loc n ∧ m[n]? = some (.lst ds)
theorem LV.sq {m : Mem} {x : Dv} {ds : List Dv} (h : LV m x ds) : sq m x = some ds := by
  rcases h with rfl | ⟨n, rfl, h⟩
  · rfl
  · rw [sq_loc, h]
theorem LV.ty {m : Mem} {x : Dv} {ds : List Dv} (h : LV m x ds) : tyOf m x = some .list := by
  rcases h with rfl | ⟨n, rfl, h⟩
  · rfl
  · exact tyOf_loc_l h
theorem LV.len {m : Mem} {x : Dv} {ds : List Dv} (h : LV m x ds) : lenD [x] m = .ok (.int ds.length) m := by
  rcases h with rfl | ⟨n, rfl, h⟩
  · rfl
  · rw [lenD_loc, sq_loc, h]
theorem LV.ix {m : Mem} {x : Dv} {ds : List Dv} (h : LV m x ds) (i : Int) : ixD x (.int i) m = (match atI ds i with
    | some d => .ok d m
    | none => .bad) := by
  rcases h with rfl | ⟨n, rfl, h⟩
  · rfl
  · rw [ixD_loc, sq_loc, h] <;> rfl
theorem LV.vw {m : Mem} {x : Dv} {ds : List Dv} (h : LV m x ds) : vw m x = .lst ds := by
  rcases h with rfl | ⟨n, rfl, h⟩
  · rfl
  · show (match m[n]? with
      | some (.lst ds) => Dv.lst ds
      | _ => .loc n) = _
    rw [h]
theorem LV.app {m : Mem} {x : Dv} {ds : List Dv} (h : LV m x ds) (e : Mem) : LV (m ++ e) x ds := by
  rcases h with rfl | ⟨n, rfl, h⟩
  · exact .inl rfl
  · refine .inr ⟨n, rfl, ?_⟩
    rw [List.getElem?_append_left]
    · exact h
    · exact (List.getElem?_eq_some_iff.mp h).1
theorem sortKsD_ok {α : Type} {m : Mem} {n : Nat} {f : α → Dv} {d : List (Str × α)} (h : m[n]? = some (.dic (kmap Sum.inr f d))) : sortKsD [.loc n] m = .ok (.lst (((keys d).mergeSort sle).map Dv.str)) m := by
  have e : dcAt m (.loc n) = some (.k (kmap Sum.inr f d)) := by rw [dcAt_r, h]
  have e2 : kss ((kmap Sum.inr f d).map (·.1)) = some (keys d) := by
    have := keys_kmap (κ' := Key) Sum.inr f d
    unfold keys at this
    rw [this, kss_map] <;> rfl
  unfold sortKsD
  simp only [e, e2]
theorem inr_inj (a b : Str) (h : (Sum.inr a : Key) = Sum.inr b) : a = b := Sum.inr.inj h
theorem inl_inj (a b : Int) (h : (Sum.inl a : Key) = Sum.inl b) : a = b := Sum.inl.inj h
end Sn
/-! Sn13 -/
set_option Elab.async false
set_option linter.all false
set_option maxRecDepth 100000
set_option autoImplicit false
set_option maxHeartbeats 1000000
/-! Sn13: lists of data sorted; dicts whose values are equal tuples -/
namespace Sn
open PySem PySem.Spec PyProof.Rows L2
section
variable {X : Cx}
theorem each_zip {K : PySem.W.Frag} {H : Hp} : ∀ {vs : List V} {ps : List PyData} {us : List Value}, DpAll K H vs ps → Vals vs us → PySem.W.EachIs (fun u b => RelV b.1 u) us (vs.zip ps)
  | [], [], us, _, r => by cases r; exact .nil
  | [], _ :: _, _, d, _ => nomatch d
  | _ :: _, [], _, d, _ => nomatch d
  | v :: vs, p :: ps, us, d, r => by
    cases r with
    | cons q t =>
      cases d with
      | cons d1 d2 => exact .cons q (each_zip d2 t)
theorem each_reads {K : PySem.W.Frag} {pins : List (Addr × Obj)} {σ : L2.St} {H : Hp} {s : Shared} (I : Inv X pins σ H s) : ∀ {vs : List V} {ps : List PyData} {us : List Value}, DpAll X.K H vs ps → Vals vs us → PySem.W.EachIs (fun u b => ∃ as, Reads s.heap u b.2 as) us (vs.zip ps)
  | [], [], us, _, r => by cases r; exact .nil
  | [], _ :: _, _, d, _ => nomatch d
  | _ :: _, [], _, d, _ => nomatch d
  | v :: vs, p :: ps, us, d, r => by
    cases r with
    | cons q t =>
      cases d with
      | cons d1 d2 => exact .cons (Dp.reads I p v _ d1 q) (each_reads (K := K) I d2 t)
theorem zip_snd {α β : Type} : ∀ {xs : List α} {ys : List β}, xs.length = ys.length → (xs.zip ys).map (·.2) = ys
  | [], [], _ => rfl
  | [], _ :: _, h => by cases h
  | _ :: _, [], h => by cases h
  | x :: xs, y :: ys, h => by
    show y :: (xs.zip ys).map (·.2) = _
    rw [zip_snd (by simpa using h)]
theorem dpAll_len {K : PySem.W.Frag} {H : Hp} : ∀ {vs : List V} {ps : List PyData}, DpAll K H vs ps → vs.length = ps.length
  | [], [], _ => rfl
  | [], _ :: _, d => nomatch d
  | _ :: _, [], d => nomatch d
  | v :: vs, p :: ps, d => by
    cases d with
    | cons _ d2 => simp [dpAll_len d2]
theorem vals_of_zip {bs : List (V × PyData)} : ∀ {us : List Value}, PySem.W.EachIs (fun u (b : V × PyData) => RelV b.1 u) us bs → Vals (bs.map (·.1)) us
  | _, .nil => .nil
  | _, .cons q t => .cons q (vals_of_zip t)
def rSortD (K : PySem.W.Frag) : List V → Hp → VK → Prop := fun xs H Q => ∃ (a : Addr) (vs : List V) (ps : List PyData), xs = [.ref a] ∧ SqL K H a vs ∧ DpAll K H vs ps ∧ PySem.W.AllAlike ps ∧ PySem.W.Sortable ps ∧ (∀ p ∈ ps, p.depth ≤ 40) ∧
  ∀ p, H p = none → Q (.ref p) (upd H p (.lst (((vs.zip ps).mergeSort (PySem.W.dataLe false (·.2))).map (·.1))))
/-- sorted(xs), data of one kind -/
theorem call_sortD (hu : X.A.units + 64 < cLine) : CallR X (.builtin "sorted") (rSortD X.K) := by
  intro pins s σ H xs us Q I r q
  obtain ⟨a, vs, ps, ex, hd, dp, hal, hso, hdp, q⟩ := q
  subst ex
  obtain ⟨its, rv, hl, hz⟩ := I.list hd
  rw [Vals.ref1 r]
  have hlen := dpAll_len dp
  have hps : (vs.zip ps).map (·.2) = ps := zip_snd hlen
  have hz' : (vs.zip ps).length = vs.length := by rw [List.length_zip, hlen, Nat.min_self]
  refine PySem.W.sorted_data (enc := fun b : V × PyData => b.2) hl.isList (each_zip dp rv) (each_reads (K := X.K) I dp rv) (by rw [hps]; exact hal) (by rw [hps]; exact hso) (by rw [hz']; exact hz) (fun b hb => ?_) fun out _ eo => ?_
  · have : b.2 ∈ ps := by rw [← hps]; exact List.mem_map.mpr ⟨b, hb, rfl⟩
    have := hdp _ this
    omega
  · obtain ⟨ep, he'⟩ := PyProof.Rows.sortedAll_at s.heap its out.toArray
    have hle : (((vs.zip ps).mergeSort (PySem.W.dataLe false (·.2))).map (·.1)).length ≤ sizeLine := by
      rw [List.length_map, List.length_mergeSort, hz']
      exact hz
    exact ⟨.ref _, upd H (s.heap.objs.size + 1) (.lst (((vs.zip ps).mergeSort (PySem.W.dataLe false (·.2))).map (·.1))), I.laid (t' := s.toks) (fun _ _ => PyProof.Rows.sortedAll_old) (Nat.le_succ _) ⟨hle, out, ep, vals_of_zip eo, he'⟩, rfl, q _ (I.hok.fresh (Nat.le_succ _))⟩
end
section
variable {G : Cg}
theorem reps_zip3 {D : Hp} {adr : List Addr} : ∀ {vs : List V} {ds : List Dv} {ps : List PyData}, Reps G D adr vs ds → ∀ t ∈ vs.zip (ds.zip ps), Rep G D adr t.1 t.2.1
  | [], _, _, _, t, ht => by cases ht
  | _ :: _, [], _, h, _, _ => nomatch h
  | _ :: _, _ :: _, [], _, t, ht => by cases ht
  | v :: vs, d :: ds, p :: ps, h, t, ht => by
    cases h with
    | cons q r =>
      rcases List.mem_cons.mp ht with rfl | ht
      · exact q
      · exact reps_zip3 r t ht
theorem reps_of_all {D : Hp} {adr : List Addr} {α : Type} : ∀ (l : List α) (f : α → V) (g : α → Dv), (∀ a ∈ l, Rep G D adr (f a) (g a)) → Reps G D adr (l.map f) (l.map g)
  | [], _, _, _ => .nil
  | a :: l, f, g, h => .cons (h a (.head _)) (reps_of_all l f g fun b hb => h b (.tail _ hb))
theorem zip_map3 {α β γ : Type} : ∀ {xs : List α} {ys : List β} {zs : List γ}, xs.length = ys.length → ys.length = zs.length → (xs.zip (ys.zip zs)).map (fun t => (t.1, t.2.2)) = xs.zip zs ∧ (xs.zip (ys.zip zs)).map (fun t => t.2) = ys.zip zs
  | [], [], [], _, _ => ⟨rfl, rfl⟩
  | x :: xs, y :: ys, z :: zs, h1, h2 => by
    obtain ⟨a, b⟩ := zip_map3 (xs := xs) (ys := ys) (zs := zs) (by simpa using h1) (by simpa using h2)
    constructor
    · show (x, z) :: (xs.zip (ys.zip zs)).map _ = _
      rw [a]; rfl
    · show (y, z) :: (xs.zip (ys.zip zs)).map _ = _
      rw [b]; rfl
  | [], _ :: _, _, h, _ => by cases h
  | _ :: _, [], _, h, _ => by cases h
  | _ :: _, _ :: _, [], _, h => by cases h
  | [], [], _ :: _, _, h => by cases h
/-- sorted data, with the things -/
def srtD (ds : List Dv) (ps : List PyData) : List Dv := ((ds.zip ps).mergeSort (PySem.W.dataLe false (·.2))).map (·.1)
theorem reps_srt {D : Hp} {adr : List Addr} {vs : List V} {ds : List Dv} {ps : List PyData} (r : Reps G D adr vs ds) (h : ds.length = ps.length) : Reps G D adr (((vs.zip ps).mergeSort (PySem.W.dataLe false (·.2))).map (·.1)) (srtD ds ps) := by
  obtain ⟨e1, e2⟩ := zip_map3 r.length h
  have m1 : ((vs.zip (ds.zip ps)).mergeSort (PySem.W.dataLe false fun t => t.2.2)).map (fun t => (t.1, t.2.2)) = (vs.zip ps).mergeSort (PySem.W.dataLe false (·.2)) := by
    conv => rhs; rw [← e1]
    exact List.map_mergeSort fun a _ b _ => rfl
  have m2 : ((vs.zip (ds.zip ps)).mergeSort (PySem.W.dataLe false fun t => t.2.2)).map (fun t => t.2) = (ds.zip ps).mergeSort (PySem.W.dataLe false (·.2)) := by
    conv => rhs; rw [← e2]
    exact List.map_mergeSort fun a _ b _ => rfl
  unfold srtD
  rw [← m1, ← m2, List.map_map, List.map_map]
  exact reps_of_all _ _ _ fun t ht => reps_zip3 r t (List.mem_mergeSort.mp ht)
open Classical in
noncomputable def sortDD (ds : List Dv) (m : Mem) : Res Dv := match ds with
  | [x] => match sq m x with
    | some es => match toPys m es with
      | some ps => if PySem.W.AllAlike ps ∧ PySem.W.Sortable ps ∧ ∀ p ∈ ps, p.depth ≤ 40 then .ok (.lst (srtD es ps)) m else .bad
      | none => .bad
    | none => .bad
  | _ => .bad
theorem toPys_len {m : Mem} : ∀ {ds : List Dv} {ps : List PyData}, toPys m ds = some ps → ds.length = ps.length
  | [], _, e => by cases e; rfl
  | d :: ds, ps, e => by
    unfold toPys at e
    split at e
    · rename_i p qs h1 h2
      cases e
      simp [toPys_len h2]
    · cases e
theorem sortDD_s : CaS G (rSortD G.K) sortDD := fun D adr m H xs ds rm r σ W Q a => by
  unfold sortDD at a
  split at a
  · split at a
    · rename_i es h1
      split at a
      · rename_i ps h2
        split at a
        · rename_i hc
          obtain ⟨v, rfl, q⟩ := r.one_inv
          obtain ⟨p, vs, rfl, h5, h6⟩ := rm.sq q h1
          refine ⟨p, vs, ps, rfl, h5, toPys_dp rm es vs ps h6 h2, hc.1, hc.2.1, hc.2.2, fun q hq => ?_⟩
          have hl : Le D (upd D q (.lst (((vs.zip ps).mergeSort (PySem.W.dataLe false (·.2))).map (·.1)))) := Le.new (rm.dfree hq)
          exact a _ _ _ adr hl (Pf.refl _) (rm.newD hq) (.lst upd_same (Reps.mono hl (Pf.refl _) _ _ (reps_srt h6 (toPys_len h2))))
        · exact a.elim
      · exact a.elim
    · exact a.elim
  · exact a.elim
/-! ### dicts of equal tuples -/
def rEqDD (K : PySem.W.Frag) : R2 := fun x y H Q => ∃ a b ks ls, x = .ref a ∧ y = .ref b ∧ H a = some (.dK ks) ∧ H b = some (.dK ls) ∧ ks.length = ls.length ∧
  (∀ p ∈ ks, ∃ c d q1 q2, p.2 = .ref c ∧ valV ls p.1 = some (.ref d) ∧ Dp K H (.ref c) q1 ∧ Dp K H (.ref d) q2 ∧ SeqAt.shaped q1 = true ∧ SeqAt.shaped q2 = true ∧ PyData.eqv q1 q2 = true) ∧ Q (.bl true) H
theorem op_eqDD {X : Cx} (hu : X.A.units + 65 < cLine) : OpR X (compareOp .Eq) (rEqDD X.K) := by
  intro pins s σ H x y v u Q I rx ry h
  obtain ⟨a, b, ks, ls, rfl, rfl, ha, hb, hl, hp, q⟩ := h
  cases (show v = Value.ref a from rx)
  cases (show u = Value.ref b from ry)
  obtain ⟨_, ya, va, ra, da⟩ := (show ObjOk X.prog X.w H s.heap a (.dK ks) from I.hok a _ ha)
  obtain ⟨_, yb, vb, rb, db⟩ := (show ObjOk X.prog X.w H s.heap b (.dK ls) from I.hok b _ hb)
  refine PySem.W.rcP_dicts (A := X.A) (knd := mixKind X.prog X.w) (r := true) ya yb da db (by omega) (fun _ => hits_run (F := fun x y => ∃ c d q1 q2, x = .ref c ∧ y = .ref d ∧ Dp X.K H (.ref c) q1 ∧ Dp X.K H (.ref d) q2 ∧ SeqAt.shaped q1 = true ∧ SeqAt.shaped q2 = true ∧ PyData.eqv q1 q2 = true) ?_ rb ra fun p hm => ?_) _ _ ?_
  · rintro x y v u ⟨c, d, q1, q2, rfl, rfl, d1, d2, s1, s2, e⟩ rx ry
    cases (show v = Value.ref c from rx)
    cases (show u = Value.ref d from ry)
    by_cases z : c = d
    · subst z
      exact (SeqAt.EqAt.same _).eqP
    · refine SeqAt.eqP_refs z fun E Q hq => ?_
      obtain ⟨as, r1⟩ := Dp.reads I q1 _ _ d1 rfl
      obtain ⟨bs, r2⟩ := Dp.reads I q2 _ _ d2 rfl
      exact SeqAt.compareEq_shaped r1 r2 s1 s2 (by show X.A.units + 1 + 64 < cLine; omega) (by rw [e]; exact hq)
  · obtain ⟨c, d, q1, q2, e1, e2, r⟩ := hp p hm
    exact ⟨_, e2, c, d, q1, q2, e1, rfl, r⟩
  · have e : va.length = vb.length := by rw [← ra.length, ← rb.length]; exact hl
    rw [show (va.length == vb.length && true) = true from by rw [e]; simp]
    exact ⟨.bl true, H, I, rfl, q⟩
theorem KReps.mem {K : Cg} {D : Hp} {adr : List Addr} {κ : Type} [DecidableEq κ] : ∀ {kvs : List (κ × V)} {kds : List (κ × Dv)}, KReps K D adr kvs kds → ∀ p ∈ kvs, ∃ q ∈ kds, p.1 = q.1 ∧ Rep K D adr p.2 q.2
  | [], _, _, p, hp => by cases hp
  | _ :: _, [], h, _, _ => by have := h.length; simp at this
  | (a, v) :: kvs, (b, d) :: kds, h, p, hp => by
    obtain ⟨rfl, q, r⟩ := h.cons
    rcases List.mem_cons.mp hp with rfl | hp
    · exact ⟨_, .head _, rfl, q⟩
    · obtain ⟨w, h1, h2, h3⟩ := KReps.mem r p hp
      exact ⟨w, .tail _ h1, h2, h3⟩
open Classical in
noncomputable def eqDict (x y : Dv) (m : Mem) : Res Dv := match kAt m x, kAt m y with
  | some (_, ks), some (_, ls) => if ks.length = ls.length ∧ ∀ p ∈ ks, ∃ ds, p.2 = .tup ds ∧ valG ls p.1 = some (.tup ds) ∧ pln 60 (.tup ds) = true then .ok (.bl true) m else .bad
  | _, _ => .bad
theorem eqDict_s : OpS G (rEqDD G.K) eqDict := fun D adr m H x y dx dy rm rx ry σ W Q a => by
  unfold eqDict at a
  split at a
  · rename_i n1 ks n2 ls h1 h2
    split at a
    · rename_i hc
      obtain ⟨p1, vs, rfl, _, _, e1, k1⟩ := rm.kAt rx h1
      obtain ⟨p2, ws, rfl, _, _, e2, k2⟩ := rm.kAt ry h2
      refine ⟨p1, p2, vs, ws, rfl, rfl, e1, e2, by rw [k1.length, k2.length]; exact hc.1, fun p hp => ?_, a.ok rm (.bl true)⟩
      obtain ⟨q, hq, hq1, hq2⟩ := k1.mem p hp
      obtain ⟨ds, d1, d2, d3⟩ := hc.2 q hq
      obtain ⟨v, v1, v2⟩ := (k2.val p.1).1 (.tup ds) (by rw [hq1]; exact d2)
      obtain ⟨t1, t2, t3⟩ := pln_ok m 60 _ d3
      have hsh : SeqAt.shaped (pyOf (.tup ds)) = true := by
        unfold SeqAt.shaped
        rw [t2, decide_eq_true (Nat.le_trans t3 (by decide))]
        rfl
      rw [d1] at hq2
      have dp1 := toPy_dp rm _ _ _ hq2 t1
      have dp2 := toPy_dp rm _ _ _ v2 t1
      cases hp2 : p.2 with
      | ref c =>
        cases v with
        | ref d =>
          rw [hp2] at dp1
          exact ⟨c, d, _, _, rfl, v1, dp1, dp2, hsh, hsh, (pln_eq 60 _ _ d3 d3).mpr rfl⟩
        | _ => cases v2
      | _ => rw [hp2] at hq2; cases hq2
    · exact a.elim
  · exact a.elim
end
end Sn
/-! Sn14 -/
set_option Elab.async false
set_option linter.all false
set_option maxRecDepth 100000
set_option autoImplicit false
set_option maxHeartbeats 1000000
/-! Sn14: a dict walked while a statement runs: it is locked, and comes free behind it -/
namespace Sn
open PySem PySem.Spec PyProof.Rows L2
section
variable {G : Cg} {X : Cx} {W : WX} {σ : L2.St} {H : Hp} {D : Hp} {adr : List Addr} {m : Mem}

def IsDk : HO → Prop
  | .dK _ => True
  | .dT _ => True
  | _ => False
theorem IsDk.mut {u : HO} (h : IsDk u) : Mut (some u) := by
  cases u <;> first | exact trivial | exact h.elim
def cutH (D : Hp) (a : Addr) : Hp := fun b => if b = a then none else D b
theorem cutH_ne {D : Hp} {a b : Addr} (h : b ≠ a) : cutH D a b = D b := by simp [cutH, h]
section
variable {a : Addr} {od : Obj} {u : HO} (ha : D a = some (.frz od u)) (hu : IsDk u)
include ha hu
theorem lk_ne {b : Addr} {o : HO} (h : D b = some o) (hn : ∀ od u, o ≠ .frz od u) : b ≠ a := fun e => by
  subst e
  rw [ha] at h
  cases h
  exact hn _ _ rfl
theorem lk_sq {K : PySem.W.Frag} {b : Addr} {xs : List V} (h : SqL K D b xs) : SqL K (cutH D a) b xs := by
  rcases h with (h | ⟨ob, h⟩) | h
  · exact .inl (.inl (by rw [cutH_ne (lk_ne ha hu h (fun _ _ e => by cases e))]; exact h))
  · have hb : b ≠ a := fun e => by
      subst e
      rw [ha] at h
      cases h
      exact hu
    exact .inl (.inr ⟨ob, by rw [cutH_ne hb]; exact h⟩)
  · exact .inr h
mutual
theorem lk_rep : ∀ (d : Dv) (v : V), Rep G D adr v d → Rep G (cutH D a) adr v d
  | .non, _, h => by cases h; exact .non
  | .bl b, _, h => by cases h; exact .bl b
  | .int i, _, h => by cases h; exact .int i
  | .str s, _, h => by cases h; exact .str s
  | .fn a, _, h => by cases h; exact .fn a
  | .loc n, _, h => by
    cases h with
    | loc q => exact .loc q
  | .scr ns, _, h => by
    cases h with
    | scr q => exact .scr (lk_sq ha hu q)
  | .lst ds, _, h => by
    cases h with
    | lst q r => exact .lst (by rw [cutH_ne (lk_ne ha hu q (fun _ _ e => by cases e))]; exact q) (lk_reps ds _ r)
  | .tup ds, _, h => by
    cases h with
    | tup q r => exact .tup (by rw [cutH_ne (lk_ne ha hu q (fun _ _ e => by cases e))]; exact q) (lk_reps ds _ r)
  | .dic ks ds, _, h => by cases h
  | .dit ks ds, _, h => by cases h
theorem lk_reps : ∀ (ds : List Dv) (vs : List V), Reps G D adr vs ds → Reps G (cutH D a) adr vs ds
  | [], _, h => by cases h; exact .nil
  | d :: ds, _, h => by
    cases h with
    | cons q r => exact .cons (lk_rep d _ q) (lk_reps ds _ r)
end
theorem lk_kreps {κ : Type} {kvs : List (κ × V)} {kds : List (κ × Dv)} (h : KReps G D adr kvs kds) : KReps G (cutH D a) adr kvs kds := ⟨h.1, lk_reps ha hu _ _ h.2⟩
theorem lk_rs {l : Lc} (h : RS G D adr l σ) : RS G (cutH D a) adr l σ := ⟨h.1, fun i d e => let ⟨v, p, q⟩ := h.2 i d e; ⟨v, p, lk_rep ha hu _ _ q⟩⟩
theorem lk_ro {b : Addr} (hb : b ≠ a) : ∀ {o : MO}, RO G D adr H b o → RO G (cutH D a) adr H b o
  | .dead, _ => trivial
  | .lst ds, ⟨vs, h, r⟩ => ⟨vs, h, lk_reps ha hu _ _ r⟩
  | .dic kds, ⟨vs, h, r⟩ => ⟨vs, h, lk_kreps ha hu r⟩
  | .dit kds, ⟨vs, h, r⟩ => ⟨vs, h, lk_kreps ha hu r⟩
  | .lck kds, ⟨vs, ob, h, r⟩ => ⟨vs, ob, by rw [cutH_ne hb]; exact h, lk_kreps ha hu r⟩
  | .lct kds, ⟨vs, ob, h, r⟩ => ⟨vs, ob, by rw [cutH_ne hb]; exact h, lk_kreps ha hu r⟩
  | .ins C ds, ⟨dx, fv, h, n, l, r⟩ => ⟨dx, fv, h, n, l, lk_reps ha hu _ _ r⟩
end
/-- what a dict becomes while it is walked, and back -/
def lkO : MO → Option MO
  | .dic k => some (.lck k)
  | .dit k => some (.lct k)
  | _ => none
def ulO : MO → Option MO
  | .lck k => some (.dic k)
  | .lct k => some (.dit k)
  | _ => none
theorem lkO_fre : ∀ {o o' : MO}, lkO o = some o' → Fre o ∧ ¬ Fre o'
  | .dic k, _, h => by cases h; exact ⟨trivial, id⟩
  | .dit k, _, h => by cases h; exact ⟨trivial, id⟩
  | .dead, _, h => by cases h
  | .lst k, _, h => by cases h
  | .lck k, _, h => by cases h
  | .lct k, _, h => by cases h
  | .ins C k, _, h => by cases h
theorem lkO_ro {a : Addr} : ∀ {o o' : MO}, RO G D adr H a o → lkO o = some o' → ∃ u, IsDk u ∧ H a = some u ∧ ∀ (D' H' : Hp) (od : Obj), Le D D' → D' a = some (.frz od u) → RO G D' adr H' a o'
  | .dic k, _, ⟨vs, h, r⟩, e => by cases e; exact ⟨_, (show IsDk (.dK vs) from trivial), h, fun D' H' od le q => ⟨vs, od, q, r.mono le (Pf.refl _)⟩⟩
  | .dit k, _, ⟨vs, h, r⟩, e => by cases e; exact ⟨_, (show IsDk (.dT vs) from trivial), h, fun D' H' od le q => ⟨vs, od, q, r.mono le (Pf.refl _)⟩⟩
  | .dead, _, _, h => by cases h
  | .lst k, _, _, h => by cases h
  | .lck k, _, _, h => by cases h
  | .lct k, _, _, h => by cases h
  | .ins C k, _, _, h => by cases h
theorem ulO_ro {a : Addr} : ∀ {o o' : MO}, RO G D adr H a o → ulO o = some o' → ∃ u od, IsDk u ∧ D a = some (.frz od u) ∧ ∀ (H' : Hp), H' a = some u → RO G (cutH D a) adr H' a o'
  | .lck k, _, ⟨vs, ob, h, r⟩, e => by cases e; exact ⟨_, ob, (show IsDk (.dK vs) from trivial), h, fun H' q => ⟨vs, q, lk_kreps h (show IsDk (.dK vs) from trivial) r⟩⟩
  | .lct k, _, ⟨vs, ob, h, r⟩, e => by cases e; exact ⟨_, ob, (show IsDk (.dT vs) from trivial), h, fun H' q => ⟨vs, q, lk_kreps h (show IsDk (.dT vs) from trivial) r⟩⟩
  | .dead, _, _, h => by cases h
  | .lst k, _, _, h => by cases h
  | .dic k, _, _, h => by cases h
  | .dit k, _, _, h => by cases h
  | .ins C k, _, _, h => by cases h
theorem RM.addr_ne (r : RM G D adr m H) {n k : Nat} {a b : Addr} (e1 : adr[n]? = some a) (q1 : adr[k]? = some b) (hk : n ≠ k) : b ≠ a := by
  rintro rfl
  obtain ⟨l1, g1⟩ := List.getElem?_eq_some_iff.mp e1
  obtain ⟨l2, g2⟩ := List.getElem?_eq_some_iff.mp q1
  exact hk ((List.getElem_inj r.nd).mp (g1.trans g2.symm))
theorem RM.lockd (r : RM G D adr m H) {n : Nat} {a : Addr} {o o' : MO} (e1 : adr[n]? = some a) (e2 : m[n]? = some o) (e3 : lkO o = some o') :
    ∃ u, IsDk u ∧ H a = some u ∧ Le D (upd D a (.frz default u)) ∧ ∀ od, Le D (upd D a (.frz od u)) ∧ RM G (upd D a (.frz od u)) adr (m.set n o') (upd H a (.frz od u)) := by
  obtain ⟨u, hu, h1, h2⟩ := lkO_ro (r.at_ n a o e1 e2) e3
  have hd := r.fr n a o e1 e2 (lkO_fre e3).1
  refine ⟨u, hu, h1, Le.new hd, fun od => ⟨Le.new hd, ?_⟩⟩
  refine ⟨r.le.upd2, r.nd, by simp [r.len], fun k b ob q1 q2 q3 => ?_, fun b hb => ?_, fun k b ob q1 q2 => ?_⟩
  · by_cases hk : n = k
    · subst hk
      rw [List.getElem?_set_self (by have := (List.getElem?_eq_some_iff.mp e2).1; exact this)] at q2
      cases q2
      exact absurd q3 (lkO_fre e3).2
    · rw [List.getElem?_set_ne hk] at q2
      rw [upd_ne (r.addr_ne e1 q1 hk)]
      exact r.fr k b ob q1 q2 q3
  · by_cases z : b = a
    · subst z
      rw [upd_same]
      exact fun e => by cases e
    · rw [upd_ne z]
      exact r.ex b hb
  · by_cases hk : n = k
    · subst hk
      rw [List.getElem?_set_self (by have := (List.getElem?_eq_some_iff.mp e2).1; exact this)] at q2
      cases q2
      rw [e1] at q1
      cases q1
      exact h2 _ _ od (Le.new hd) upd_same
    · rw [List.getElem?_set_ne hk] at q2
      exact ((r.at_ k b ob q1 q2).mono (Le.new hd) (Pf.refl _)).heap (upd_ne (r.addr_ne e1 q1 hk))
theorem RM.unlockd (r : RM G D adr m H) {n : Nat} {a : Addr} {o o' : MO} (e1 : adr[n]? = some a) (e2 : m[n]? = some o) (e3 : ulO o = some o') :
    ∃ u od, IsDk u ∧ D a = some (.frz od u) ∧ RM G (cutH D a) adr (m.set n o') (upd H a u) := by
  obtain ⟨u, od, hu, h1, h2⟩ := ulO_ro (r.at_ n a o e1 e2) e3
  refine ⟨u, od, hu, h1, fun b ob q => ?_, r.nd, by simp [r.len], fun k b ob q1 q2 q3 => ?_, fun b hb => ?_, fun k b ob q1 q2 => ?_⟩
  · have hb : b ≠ a := fun e => by simp [cutH, e] at q
    rw [cutH_ne hb] at q
    rw [upd_ne hb]
    exact r.le b ob q
  · by_cases hk : n = k
    · subst hk
      rw [e1] at q1
      cases q1
      simp [cutH]
    · rw [List.getElem?_set_ne hk] at q2
      rw [cutH_ne (r.addr_ne e1 q1 hk)]
      exact r.fr k b ob q1 q2 q3
  · by_cases z : b = a
    · subst z
      rw [upd_same]
      exact fun e => by cases e
    · rw [upd_ne z]
      exact r.ex b hb
  · by_cases hk : n = k
    · subst hk
      rw [List.getElem?_set_self (by have := (List.getElem?_eq_some_iff.mp e2).1; exact this)] at q2
      cases q2
      rw [e1] at q1
      cases q1
      exact h2 _ upd_same
    · rw [List.getElem?_set_ne hk] at q2
      exact (lk_ro h1 hu (r.addr_ne e1 q1 hk) (r.at_ k b ob q1 q2)).heap (upd_ne (r.addr_ne e1 q1 hk))

def lkM (n : Nat) (m : Mem) : Option Mem := match m[n]? with
  | some o => (lkO o).map fun o' => m.set n o'
  | none => none
def ulM (n : Nat) (m : Mem) : Option Mem := match m[n]? with
  | some o => (ulO o).map fun o' => m.set n o'
  | none => none
def ulS (n : Nat) : Out → Out
  | .nx l m => match ulM n m with
    | some m' => .nx l m'
    | none => .bad
  | .bk l m => match ulM n m with
    | some m' => .bk l m'
    | none => .bad
  | .ct l m => match ulM n m with
    | some m' => .ct l m'
    | none => .bad
  | .rt d m => match ulM n m with
    | some m' => .rt d m'
    | none => .bad
  | _ => .bad
/-- a statement that runs while the dict in a name is walked -/
def sLock (i : Nat) (s : S) : S := fun l m => match l[i]? with
  | some (some (.loc n)) => match lkM n m with
    | some m1 => ulS n (s l m1)
    | none => .bad
  | _ => .bad
theorem ul_step {n : Nat} {a : Addr} {u : HO} {od : Obj} {D1 D' H' : Hp} {a' : List Addr} {m2 m3 : Mem} (e1 : a'[n]? = some a) (hu : IsDk u) (hd : D a = none) (le : Le (upd D a (.frz od u)) D') (rm : RM G D' a' m2 H') (e : ulM n m2 = some m3) :
    H' a = some (.frz od u) ∧ D' a = some (.frz od u) ∧ Le D (cutH D' a) ∧ RM G (cutH D' a) a' m3 (upd H' a u) := by
  have h1 : D' a = some (.frz od u) := le _ _ upd_same
  unfold ulM at e
  split at e
  · rename_i o e2
    obtain ⟨o', e3, rfl⟩ := Option.map_eq_some_iff.mp e
    obtain ⟨u', od', hu', h2, rm2⟩ := rm.unlockd e1 e2 e3
    rw [h1] at h2
    cases h2
    refine ⟨rm.le _ _ h1, h1, fun b ob q => ?_, rm2⟩
    have hb : b ≠ a := fun z => by subst z; rw [hd] at q; cases q
    rw [cutH_ne hb]
    exact le b ob (by rw [upd_ne hb]; exact q)
  · cases e
theorem ms_lock {st : Stmt} {i : Nat} {s : S} (h : PS X st (tS G W s)) : PS X st (tS G W (sLock i s)) :=
  PS_imp (ps_lock h) fun De σ H ⟨D, adr, l, m, rm, rs, a⟩ => by
    unfold sLock at a
    split at a
    · rename_i n e1
      split at a
      · rename_i m1 e2
        unfold lkM at e2
        split at e2
        · rename_i o e3
          obtain ⟨o', e4, rfl⟩ := Option.map_eq_some_iff.mp e2
          obtain ⟨v, hv, r⟩ := rs.2 i _ e1
          obtain ⟨ad, rfl, q1, ro⟩ := rm.of_loc r e3
          obtain ⟨u, hu, h1, _, h2⟩ := rm.lockd q1 e3 e4
          have hd := rm.fr n ad o q1 e3 (lkO_fre e4).1
          refine ⟨ad, u, h1, hu.mut, fun od => ?_⟩
          obtain ⟨le, rm1⟩ := h2 od
          refine ⟨_, adr, l, _, rm1, rs.mono le (Pf.refl _), ?_⟩
          revert a
          cases s l (m.set n o') with
          | bad => exact fun a => a
          | exc c l2 m2 => exact fun a => a.elim
          | nx l2 m2 =>
            intro a σ' H' D' a' le2 pf rm2 rs2
            dsimp only [ulS] at a
            cases e5 : ulM n m2 with
            | none => rw [e5] at a; exact a.elim
            | some m3 =>
              rw [e5] at a
              obtain ⟨x1, x2, x3, x4⟩ := ul_step (D1 := D) (pf.get q1) hu hd le2 rm2 e5
              exact ⟨x1, a σ' _ _ a' x3 pf x4 (lk_rs x2 hu rs2)⟩
          | bk l2 m2 =>
            intro a σ' H' D' a' le2 pf rm2 rs2
            dsimp only [ulS] at a
            cases e5 : ulM n m2 with
            | none => rw [e5] at a; exact a.elim
            | some m3 =>
              rw [e5] at a
              obtain ⟨x1, x2, x3, x4⟩ := ul_step (D1 := D) (pf.get q1) hu hd le2 rm2 e5
              exact ⟨x1, a σ' _ _ a' x3 pf x4 (lk_rs x2 hu rs2)⟩
          | ct l2 m2 =>
            intro a σ' H' D' a' le2 pf rm2 rs2
            dsimp only [ulS] at a
            cases e5 : ulM n m2 with
            | none => rw [e5] at a; exact a.elim
            | some m3 =>
              rw [e5] at a
              obtain ⟨x1, x2, x3, x4⟩ := ul_step (D1 := D) (pf.get q1) hu hd le2 rm2 e5
              exact ⟨x1, a σ' _ _ a' x3 pf x4 (lk_rs x2 hu rs2)⟩
          | rt d2 m2 =>
            intro a v H' D' a' le2 pf rm2 rr2
            dsimp only [ulS] at a
            cases e5 : ulM n m2 with
            | none => rw [e5] at a; exact a.elim
            | some m3 =>
              rw [e5] at a
              obtain ⟨x1, x2, x3, x4⟩ := ul_step (D1 := D) (pf.get q1) hu hd le2 rm2 e5
              exact ⟨x1, a v _ _ a' x3 pf x4 (lk_rep x2 hu _ _ rr2)⟩
        · cases e2
      · exact a.elim
    · exact a.elim
/-- an expression that is worked out while the dict in a name is walked -/
def eLock {α : Type} (i : Nat) (e : Er α) : Er α := fun l m => match l[i]? with
  | some (some (.loc n)) => match lkM n m with
    | some m1 => match e l m1 with
      | .ok d m2 => match ulM n m2 with
        | some m3 => .ok d m3
        | none => .bad
      | _ => .bad
    | none => .bad
  | _ => .bad
theorem me_lock {ex : Expr} {i : Nat} {e : E} (h : PE X ex (tM G W e)) : PE X ex (tM G W (eLock i e)) :=
  PE_imp (pe_lock h) fun σ H Q ⟨D, adr, l, m, rm, rs, a⟩ => by
    unfold eLock at a
    split at a
    · rename_i n e1
      split at a
      · rename_i m1 e2
        unfold lkM at e2
        split at e2
        · rename_i o e3
          obtain ⟨o', e4, rfl⟩ := Option.map_eq_some_iff.mp e2
          obtain ⟨v, hv, r⟩ := rs.2 i _ e1
          obtain ⟨ad, rfl, q1, ro⟩ := rm.of_loc r e3
          obtain ⟨u, hu, h1, _, h2⟩ := rm.lockd q1 e3 e4
          have hd := rm.fr n ad o q1 e3 (lkO_fre e4).1
          refine ⟨ad, u, h1, hu.mut, fun od => ?_⟩
          obtain ⟨le, rm1⟩ := h2 od
          refine ⟨_, adr, l, _, rm1, rs.mono le (Pf.refl _), ?_⟩
          revert a
          cases e l (m.set n o') with
          | bad => exact fun a => a
          | exc c m2 => exact fun a => a.elim
          | ok d m2 =>
            intro a v H' D' a' le2 pf rm2 rr2
            dsimp only at a
            cases e5 : ulM n m2 with
            | none => rw [e5] at a; exact a.elim
            | some m3 =>
              rw [e5] at a
              obtain ⟨x1, x2, x3, x4⟩ := ul_step (D1 := D) (pf.get q1) hu hd le2 rm2 e5
              exact ⟨x1, a v _ _ a' x3 pf x4 (lk_rep x2 hu _ _ rr2)⟩
        · cases e2
      · exact a.elim
    · exact a.elim

theorem tup_in (r : RM G D adr m H) {q : Addr} {xs : List V} (h : H q = some (.tup xs)) : ∃ D'', Le D D'' ∧ RM G D'' adr m H ∧ D'' q = some (.tup xs) := by
  cases hd : D q with
  | some o =>
    have := r.le q o hd
    rw [h] at this
    cases this
    exact ⟨D, Le.refl _, r, hd⟩
  | none =>
    have hl : Le D (upd D q (.tup xs)) := Le.new hd
    refine ⟨upd D q (.tup xs), hl, ⟨fun b u e => ?_, r.nd, r.len, fun k b o q1 q2 q3 => ?_, r.ex, fun k b o q1 q2 => (r.at_ k b o q1 q2).mono hl (Pf.refl _)⟩, upd_same⟩
    · by_cases z : b = q
      · subst z
        rw [upd_same] at e
        exact h.trans e
      · rw [upd_ne z] at e
        exact r.le b u e
    · have hne : b ≠ q := by
        rintro rfl
        have ro := r.at_ k b o q1 q2
        cases o with
        | dead => exact q3
        | lck _ => exact q3
        | lct _ => exact q3
        | lst ds => obtain ⟨vs, e, _⟩ := ro; rw [h] at e; cases e
        | dic ds => obtain ⟨vs, e, _⟩ := ro; rw [h] at e; cases e
        | dit ds => obtain ⟨vs, e, _⟩ := ro; rw [h] at e; cases e
        | ins C ds => obtain ⟨dx, vs, e, _⟩ := ro; rw [h] at e; cases e
      rw [upd_ne hne]
      exact r.fr k b o q1 q2 q3
/-- the keys of a locked dict -/
def iKeyM (e : E) : A := fun l m => (e l m).bind fun d m1 => match d with
  | .loc n => match m1[n]? with
    | some (.lck kds) => .ok (kds.map fun kd => keyV kd.1) m1
    | some (.lct kds) => .ok (kds.map fun kd => .tup (kd.1.map keyV)) m1
    | _ => .bad
  | _ => .bad
theorem mi_keys {tg e : Expr} {me : E} (he : PE X e (tM G W me)) : PI X tg e (tIt G W (iKeyM me)) :=
  PI_imp (pi_keys he) fun σ H R ⟨D, adr, l, m, rm, rs, a⟩ => stepI (rel := relE G) rm rs a fun v H1 D1 a1 d m1 e1 f1 rm1 rs1 r b => by
    cases d with
    | loc n =>
      dsimp only at b
      split at b
      · rename_i ds m2 e2
        split at e2
        · rename_i kds e3
          cases e2
          obtain ⟨p, rfl, q1, kvs, ob, h1, h2⟩ := rm1.of_loc r e3
          refine ⟨p, ob, rfl, .inl ⟨kvs, rm1.le _ _ h1, ?_⟩⟩
          have hl : kvs.length = (kds.map fun kd => keyV kd.1).length := by
            have := congrArg List.length h2.1
            simpa using this
          refine b _ H1 D1 a1 (fun H => H p = some (.frz ob (.dK kvs))) (fun i H x H' => H' = H ∧ ∃ k v, kvs[i]? = some (k, v) ∧ x = kV k) (Le.refl _) (Pf.refl _) rm1 (hl ▸ walk_keys) ⟨fun D' adr' m' H' e f rm' => rm'.le _ _ (e _ _ h1), fun i H x H' D' adr' m' hi y e f rm' => ?_⟩
          obtain ⟨y1, k, v, y2, y3⟩ := y
          refine ⟨y1, keyV k, D', ?_, Le.refl _, rm', by rw [y3]; exact rep_key _ _ _ k⟩
          have hk : (kvs.map (·.1))[i]? = some k := by simp [y2]
          rw [h2.1] at hk
          have : (kds.map fun kd => keyV kd.1) = (kds.map (·.1)).map keyV := by simp
          rw [this, List.getElem?_map, hk] <;> rfl
        · rename_i kds e3
          cases e2
          obtain ⟨p, rfl, q1, kvs, ob, h1, h2⟩ := rm1.of_loc r e3
          refine ⟨p, ob, rfl, .inr ⟨kvs, rm1.le _ _ h1, ?_⟩⟩
          have hl : kvs.length = (kds.map fun kd => Dv.tup (kd.1.map keyV)).length := by
            have := congrArg List.length h2.1
            simpa using this
          refine b _ H1 D1 a1 (fun H => H p = some (.frz ob (.dT kvs))) (fun i H x H' => H' = H ∧ ∃ (k : List Key) (v : V) (q : Addr), kvs[i]? = some (k, v) ∧ x = .ref q ∧ H q = some (.tup (k.map kV))) (Le.refl _) (Pf.refl _) rm1 (hl ▸ walk_keysT) ⟨fun D' adr' m' H' e f rm' => rm'.le _ _ (e _ _ h1), fun i H x H' D' adr' m' hi y e f rm' => ?_⟩
          obtain ⟨y1, k, v, q, y2, y3, y4⟩ := y
          have hk : (kvs.map (·.1))[i]? = some k := by simp [y2]
          rw [h2.1] at hk
          have hx : (kds.map fun kd => Dv.tup (kd.1.map keyV)) = (kds.map (·.1)).map fun k => Dv.tup (k.map keyV) := by simp
          obtain ⟨D'', g1, g2, g3⟩ := tup_in rm' y4
          refine ⟨y1, .tup (k.map keyV), D'', by rw [hx, List.getElem?_map, hk] <;> rfl, g1, g2, by rw [y3]; exact .tup g3 (reps_keys _ _ _ _)⟩
        · cases e2
      · rename_i e2
        split at e2 <;> cases e2
      · exact b.elim
    | _ => exact b.elim
theorem room65 {k : Nat} {A : Around} (hr : Room k A) : A.units + 65 < cLine := by have := hr.un; omega
/-- for x in d: d a name that holds a dict -/
def sForK (i : Nat) (tg : Tg) (body : S) : S := sLock i (sFor (iKeyM (eVar i)) tg body)
end
end Sn
/-! Sn15 -/
set_option Elab.async false
set_option linter.all false
set_option maxRecDepth 100000
set_option autoImplicit false
set_option maxHeartbeats 1000000
/-! Sn15: texts made in a suite, list(range(n)), a dict of one entry with a key worked out, sorted by key where nothing is -/
namespace Sn
open PySem PySem.Spec PyProof.Rows L2
section
variable {G : Cg} {X : Cx} {W : WX} {σ : L2.St} {H : Hp} {F F' : L2.St → Prop}

/-! ### a suite's texts -/
theorem mul01 (z : Str) (c : Bool) : Txt.mul z (if c then 1 else 0) = if c then z else "" := by
  cases c with
  | true =>
    cases z
    simp [Txt.mul]
  | false => rfl
theorem k_mulT {a b : Expr} {z w : Str} {c : Bool} {pos : Pos} (hl : z.length ≤ 1000) (hw : (if c then z else "") = w) (ha : PEk X F a (.str z)) (hb : PEk X F b (.int (if c then 1 else 0))) : PEk X F (.BinOp a .Mult b pos) (.str w) :=
  k_op (r := rRepS) (fun H Q q => ⟨z, _, rfl, rfl, by cases c <;> decide, by cases c <;> decide, hl, by rw [mul01, hw]; exact q⟩) op_repS ha hb
theorem k_addT {a b : Expr} {z w u : Str} {pos : Pos} (hl : z.length + w.length ≤ 16777216) (hu : z ++ w = u) (ha : PEk X F a (.str z)) (hb : PEk X F b (.str w)) : PEk X F (.BinOp a .Add b pos) (.str u) :=
  k_op (r := rAddS) (fun H Q q => ⟨z, w, rfl, rfl, by rw [← big_eq]; exact hl, by rw [hu]; exact q⟩) op_add_str ha hb
/-- e's slot and a text's slot -/
def F2 (i : Nat) (a : Addr) (j : Nat) (w : Str) : L2.St → Prop := fun σ => σ[i]? = some (some (.ref a)) ∧ σ[j]? = some (some (.str w))
theorem ks_setW {i j : Nat} {a : Addr} {x : Str} {e : Expr} {w u : Str} {v : V} {pos pos' : Pos} {rest : List Stmt} (hij : j < i) (hF : ∀ σ, F σ → σ[i]? = some (some (.ref a))) (h : ∀ t : TE, PE X e t → PS X (.Assign [.Name x pos'] e pos) (tAsg t (gName j))) (he : PEk X F e (.str w)) (hr : PSk X (F2 i a j w) rest v) : PSk X F (.Assign [.Name x pos'] e pos :: rest) v :=
  ks_set (h _ he) (PSs_imp hr fun D σ H q => ⟨by
    obtain ⟨σ0, h1, rfl⟩ := q.1
    have h2 := hF σ0 h1
    have hl : i < σ0.length := (List.getElem?_eq_some_iff.mp h2).1
    exact ⟨by rw [List.getElem?_set_ne (by omega)]; exact h2, List.getElem?_set_self (by omega)⟩, q.2⟩)

/-! ### list(range(n)) -/
def eRgL (e : E) : E := fun l m => (e l m).bind fun d m1 => match d with
  | .int j => if 0 ≤ j ∧ j ≤ 16777216 then mkLst (rng 0 j.toNat) m1 else .bad
  | _ => .bad
theorem reps_rg (K : Cg) (D : Hp) (adr : List Addr) (j : Int) : Reps K D adr (rgV 0 j) (rng 0 j.toNat) := by
  unfold rgV rng
  rw [Int.sub_zero]
  generalize j.toNat = n
  exact reps_of_all _ _ _ fun i _ => .int _
theorem me_rgL {a : Expr} {me : E} {p p2 pos pos2 : Pos} (hc : X.calm = true) (hg : Gl X "list") (hm : X.mg "list" = none) (hg2 : Gl X "range") (hm2 : X.mg "range" = none) (he : PE X a (tM G W me)) (na : starEach [a] X.env = (false, eval a X.env) :: starEach [] X.env := by rfl)
    (nb : starEach [.Call (.Name "range" p2) [a] [] pos2] X.env = (false, eval (.Call (.Name "range" p2) [a] [] pos2) X.env) :: starEach [] X.env := by rfl) : PE X (.Call (.Name "list" p) [.Call (.Name "range" p2) [a] [] pos2] [] pos) (tM G W (eRgL me)) :=
  PE_imp (pe_listRg hc hg hm (prg_1 hg2 hm2 he na) nb) fun σ H Q ⟨D, adr, l, m, rm, rs, a⟩ => by
    show tM G W me σ H (fun x H1 => ∃ n, x = .int n ∧ RgOk 0 n ∧ ∀ q, H1 q = none → Q (.ref q) (upd H1 q (.lst (rgV 0 n))))
    refine step (rel := relE G) rm rs a fun v H1 D1 a1 d m1 e1 f1 rm1 rs1 r b => ?_
    cases d with
    | int j =>
      dsimp only at b
      split at b
      · rename_i h
        exact ⟨j, r.int_inv, RgOk.of_le (by decide) h.2 (by decide) h.1, (mkLst_ok rm1 (reps_rg _ _ _ j) b).2⟩
      · exact b.elim
    | _ => exact b.elim

/-! ### {k: v} -/
def eDispV (k e : E) : E := fun l m => (k l (m ++ [.dic []])).bind fun kd m1 => (e l m1).bind fun d m2 => match keyD kd, m2[m.length]? with
  | some key, some (.dic []) => .ok (.loc m.length) (m2.set m.length (.dic [(key, d)]))
  | _, _ => .bad
theorem me_dispV {k v : Expr} {pos : Pos} {mk me : E} (hk : PE X k (tM G W mk)) (hv : PE X v (tM G W me)) (h : ∀ {trs : List (TE × TE)}, PPs X pos [some k] [v] trs → PE X (.Dict [some k] [v] pos) (tDisp trs)) : PE X (.Dict [some k] [v] pos) (tM G W (eDispV mk me)) := by
  refine PE_imp (h (pps_cons hk hv pps_nil)) fun σ H Q ⟨D, adr, l, m, rm, rs, a⟩ => ?_
  show ∀ p, H p = none → _
  intro p hp
  have rm1 : RM G D (adr ++ [p]) (m ++ [.dic []]) (upd H p (.dK [])) := rm.newM hp ⟨[], upd_same, rfl, .nil⟩
  have hlen := rm.len
  show tM G W mk σ (upd H p (.dK [])) _
  refine step (rel := relE G) rm1 (rs.mono (Le.refl _) Pf.snoc) (a.mono (Le.refl _) Pf.snoc) fun v1 H1 D1 a1 kd m1 e1 f1 rm2 rs2 r1 b => ?_
  refine step (rel := relE G) rm2 rs2 b fun v2 H2 D2 a2 d m2 e2 f2 rm3 rs3 r2 b2 => ?_
  split at b2
  · rename_i key hkey h2
    have hp1 : a2[m.length]? = some p := f2.get (f1.get (by rw [← hlen]; simp))
    obtain ⟨kvs, q1, q2⟩ := rm3.at_ _ _ _ hp1 h2
    have hk0 : kvs = [] := List.eq_nil_of_length_eq_zero (by have := q2.length; simpa using this)
    subst hk0
    have hkv : v1 = kV key := keyD_v r1 hkey
    refine ⟨q1, [(key, v2)], by rw [hkv] <;> rfl, by show 1 ≤ 15; decide, ?_⟩
    have e3 : mergeK [] [(key, v2)] = [(key, v2)] := rfl
    rw [e3]
    exact b2.ok (rm3.setM (o := .dic [(key, d)]) hp1 h2 trivial ⟨[(key, v2)], upd_same, rfl, .one r2⟩) (.loc hp1)
  · exact b2.elim

/-! ### sorted(xs, key=f), xs empty -/
def rSortK0 (K : PySem.W.Frag) : List V → List V → Hp → VK → Prop := fun vs zs H Q => ∃ a f, vs = [.ref a] ∧ zs = [.ref f] ∧ SqL K H a [] ∧ ∀ p, H p = none → Q (.ref p) (upd H p (.lst []))
theorem crk_sort0 : CallRK X (.builtin "sorted") ["key"] (rSortK0 X.K) := by
  intro pins s σ H xs zs us ws Q I r1 r2 q
  obtain ⟨a, f, rfl, rfl, hs, q⟩ := q
  cases r1 with
  | cons h1 t1 =>
    cases t1
    cases r2 with
    | cons h2 t2 =>
      cases t2
      cases (show _ = Value.ref a from h1)
      cases (show _ = Value.ref f from h2)
      obtain ⟨its, rv, hl, hz⟩ := I.list hs
      cases rv
      show wpAny _ _ (call (.builtin "sorted") [.ref a] [(Str.ofString "key", .ref f)]) _ _ _
      refine PySem.W.sorted_key_data (β := Unit) (R := fun _ _ => True) (bs := []) (vs := []) (f := .ref f) (b := false) (k := fun _ => .none) hl.isList .nil (fun d hd => by cases hd) (.inr fun d hd => by cases hd) (Nat.zero_le _) (fun x hx => by cases hx) (ksk_s1 _ _) (fun x => ksk_l1 _ _) (fun x => ksk_t1 _ _) (fun v x _ hx => by cases hx) fun out c h' tk keep fr ho hlen _ => ?_
      have h0 : out = [] := List.eq_nil_of_length_eq_zero hlen
      subst h0
      exact ⟨.ref _, upd H (s.heap.objs.size + 1) (.lst []), I.laid (t' := tk) keep (Nat.le_succ _) ⟨Nat.zero_le _, [], c, .nil, ho⟩, rfl, q _ (I.hok.fresh (Nat.le_succ _))⟩
def sortK0 (e : E) (f : E) : E := fun l m => (e l m).bind fun d m1 => (f l m1).bind fun g m2 => match sq m2 d, g with
  | some [], .fn _ => mkLst [] m2
  | _, _ => .bad
theorem me_sortK0 {e kf : Expr} {me mf : E} {p pos kpos : Pos} (hk : X.K = G.K) (hg : Gl X "sorted") (hm : X.mg "sorted" = none) (he : PE X e (tM G W me)) (hf : PE X kf (tM G W mf))
    (h : ∀ {t tk : TA}, PA X [e] t → PK X [⟨some "key", kf, kpos⟩] tk → PE X (.Call (.Name "sorted" p) [e] [⟨some "key", kf, kpos⟩] pos) (tCKw (rSortK0 X.K) t tk)) (h1 : starEach [e] X.env = (false, eval e X.env) :: starEach [] X.env := by rfl) : PE X (.Call (.Name "sorted" p) [e] [⟨some "key", kf, kpos⟩] pos) (tM G W (sortK0 me mf)) := by
  refine PE_imp (h (pa_cons he pa_nil h1) (pk_cons hf pk_nil)) fun σ H Q ⟨D, adr, l, m, rm, rs, a⟩ => ?_
  show tM G W me σ H (fun x H1 => tM G W mf σ H1 fun y H2 => rSortK0 X.K [x] [y] H2 Q)
  refine step (rel := relE G) rm rs a fun v1 H1 D1 a1 d m1 e1 f1 rm1 rs1 r1 b => ?_
  refine step (rel := relE G) rm1 rs1 b fun v2 H2 D2 a2 g m2 e2 f2 rm2 rs2 r2 b2 => ?_
  split at b2
  · rename_i n hq
    obtain ⟨p, vs, e3, h5, h6⟩ := rm2.sq (r1.mono e2 f2) hq
    cases h6
    cases r2
    exact ⟨p, _, by rw [e3], rfl, by rw [hk]; exact h5, (mkLst_ok rm2 (W := W) (σ := σ) .nil b2).2⟩
  · exact b2.elim
end
end Sn
/-! M_k05 -/
set_option Elab.async false
set_option linter.all false
set_option maxRecDepth 100000
set_option autoImplicit false
namespace Law
open PySem PySem.Spec PyProof.Rows L2 Sn
/-- _law_word_by -/
abbrev nm_l_word_by : List Str := ["_law_cell", "_law_letters", "_law_k"]
noncomputable def le_l_word_by_1 : E :=
  (eBin ixD (eVar 1) (eBin modD (eBin addD (eBin fdivD (eVar 0) (eC (.int 8))) (eBin mulD (eVar 2) (eBin addD (eC (.int 1)) (eBin modD (eBin fdivD (eVar 0) (eC (.int 208))) (eC (.int 25)))))) (eC (.int 26))))
noncomputable def bd_l_word_by : S :=
  (sSeq (sSet 1 (eC (.str "abcdefghijklmnopqrstuvwxyz")))
    (sRet (eJoin (eC (.str "")) (eLc (iR1 (aCons (eBin modD (eVar 0) (eC (.int 8))) aNil)) 2 tYesM le_l_word_by_1))))
noncomputable def m_l_word_by : Fn := mkFn 1 3 bd_l_word_by
/-- _law_paths -/
abbrev nm_l_paths : List Str := ["_law_word", "_law_one", "_law_two", "_law_other", "_law_good", "_law_bad"]
noncomputable def bd_l_paths : S :=
  (sSeq (sSet 1 (eBin addD (eVar 0) (eC (.str "a"))))
    (sSeq (sSet 2 (eBin addD (eVar 0) (eC (.str "b"))))
    (sSeq (sSet 3 (eBin addD (eVar 0) (eC (.str "c"))))
    (sSeq (sSet 4 (eMk mkLst (aCons (eMk mkLst (aCons (eVar 1) aNil)) (aCons (eMk mkLst (aCons (eVar 1) (aCons (eVar 2) aNil))) (aCons (eMk mkLst (aCons (eVar 3) aNil)) (aCons (eMk mkLst (aCons (eVar 3) (aCons (eVar 1) aNil))) (aCons (eMk mkLst (aCons (eVar 3) (aCons (eVar 2) (aCons (eVar 1) aNil)))) (aCons (eMk mkLst (aCons (eVar 2) aNil)) (aCons (eMk mkLst (aCons (eVar 1) (aCons (eVar 3) aNil))) (aCons (eMk mkLst (aCons (eVar 1) (aCons (eVar 2) (aCons (eVar 2) aNil)))) (aCons (eMk mkLst aNil) aNil)))))))))))
    (sSeq (sSet 5 (eMk mkLst (aCons (eC (.str "ab")) (aCons (eC .non) (aCons (eMk mkLst (aCons (eC (.str "A")) aNil)) (aCons (eMk mkLst (aCons (eVar 1) (aCons (eC (.str "")) aNil))) (aCons (eBin mulD (eMk mkLst (aCons (eVar 1) aNil)) (eC (.int 9))) (aCons (eMk mkLst (aCons (eVar 1) (aCons (eC (.int 3)) aNil))) (aCons (eMk mkLst (aCons (eBin addD (eVar 0) (eSl (eC (.str "abcdefghi")) oNone (oSome (eBin subD (eC (.int 9)) (eMk lenD (aCons (eVar 0) aNil)))))) aNil)) aNil)))))))))
    (sRet (eBin addD (eBin addD (eVar 4) (eVar 5)) (eMk mkLst (aCons eNewK (aCons (eDispV (eVar 1) (eC (.bl true))) (aCons (eMk mkLst (aCons (eC .non) aNil)) (aCons (eMk mkLst (aCons (eVar 1) (aCons (eMk mkLst (aCons (eVar 2) aNil)) aNil))) (aCons (eMk mkLst (aCons (eVar 1) (aCons eNewK aNil))) aNil)))))))))))))
noncomputable def m_l_paths : Fn := mkFn 1 6 bd_l_paths
/-- Pile.__init__ -/
abbrev nm_Pile_init : List Str := ["self"]
noncomputable def bd_Pile_init : S :=
  (sSeq (sFldM 0 0 (eVar 0) eNewK)
    (sSeq (sFldM 0 1 (eVar 0) eNewK)
    (sFldM 0 2 (eVar 0) (eC (.int 0)))))
noncomputable def m_Pile_init : Fn := mkFn 1 1 bd_Pile_init
/-- Pile.fresh -/
abbrev nm_Pile_fresh : List Str := ["self", "content"]
noncomputable def bd_Pile_fresh : S :=
  (sSeq (sFldM 0 2 (eVar 0) (eBin addD (eFld 0 2 (eVar 0)) (eC (.int 1))))
    (sSeq (sDPutM (eFld 0 0 (eVar 0)) (eFld 0 2 (eVar 0)) (eVar 1))
    (sSeq (sDPutM (eFld 0 1 (eVar 0)) (eFld 0 2 (eVar 0)) (eC (.int 0)))
    (sRet (eFld 0 2 (eVar 0))))))
noncomputable def m_Pile_fresh : Fn := mkFn 2 2 bd_Pile_fresh
/-- Pile.need -/
abbrev nm_Pile_need : List Str := ["self", "box"]
noncomputable def bd_Pile_need : S :=
  (sSeq (sIf (tOrM (tNotM (tV (eUn (isiD .int) (eVar 1)))) (tOrM (tV (eUn (isiD .bool) (eVar 1))) (tV (eDNotIn (eVar 1) (eFld 0 0 (eVar 0))))))
    (sRaise 7)
    sNil)
    (sRet (eVar 1)))
noncomputable def m_Pile_need : Fn := mkFn 2 2 bd_Pile_need
/-- Pile.hold -/
abbrev nm_Pile_hold : List Str := ["self", "box", "one"]
noncomputable def bd_Pile_hold : S :=
  (sSeq (sSet 2 (eMeth 0 2 m_Pile_need (eVar 0) (aCons (eVar 1) aNil)))
    (sDPutM (eFld 0 1 (eVar 0)) (eVar 2) (eBin addD (eDGet (eFld 0 1 (eVar 0)) (eVar 2)) (eC (.int 1)))))
noncomputable def m_Pile_hold : Fn := mkFn 2 3 bd_Pile_hold
/-- Pile.branch -/
abbrev nm_Pile_branch : List Str := ["self", "rows", "name", "box"]
noncomputable def lf_Pile_branch_1 : S :=
  (sExpr (eMeth 0 2 m_Pile_need (eVar 0) (aCons (eVar 3) aNil)))
noncomputable def lf_Pile_branch_2 : S :=
  (sExpr (eMeth 0 2 m_Pile_hold (eVar 0) (aCons (eVar 3) aNil)))
noncomputable def bd_Pile_branch : S :=
  (sSeq (sFor (iSeq (eVar 1)) (tg2 2 3)
    lf_Pile_branch_1)
    (sSeq (sFor (iSeq (eVar 1)) (tg2 2 3)
    lf_Pile_branch_2)
    (sRet (eMeth 0 2 m_Pile_fresh (eVar 0) (aCons (eMk mkTup (aCons (eC (.str "branch")) (aCons (eMk listD (aCons (eVar 1) aNil)) aNil))) aNil)))))
noncomputable def m_Pile_branch : Fn := mkFn 2 4 bd_Pile_branch
/-- Store.__init__ -/
abbrev nm_Store_init : List Str := ["self"]
noncomputable def bd_Store_init : S :=
  (sSeq (sFldM 1 0 (eVar 0) (eMake0 0 m_Pile_init))
    (sSeq (sFldM 1 1 (eVar 0) (eMeth 0 2 m_Pile_branch (eFld 1 0 (eVar 0)) (aCons (eMk mkLst aNil) aNil)))
    (sSeq (sExpr (eMeth 0 2 m_Pile_hold (eFld 1 0 (eVar 0)) (aCons (eFld 1 1 (eVar 0)) aNil)))
    (sSeq (sFldM 1 2 (eVar 0) eNewK)
    (sFldM 1 3 (eVar 0) (eC (.int 0)))))))
noncomputable def m_Store_init : Fn := mkFn 1 1 bd_Store_init
/-- is_name -/
abbrev nm_is_name : List Str := ["thing", "sign"]
noncomputable def lf_is_name_1 : S :=
  (sIf (tV (eBin ninD (eVar 1) (eC (.str "abcdefghijklmnopqrstuvwxyz"))))
    (sRet (eC (.bl false)))
    sNil)
noncomputable def bd_is_name : S :=
  (sSeq (sIf (tOrM (tNotM (tV (eUn (isiD .str) (eVar 0)))) (tOrM (tV (eBin eqD (eVar 0) (eC (.str "")))) (tV (eBin gtD (eMk lenD (aCons (eVar 0) aNil)) (eC (.int 8))))))
    (sRet (eC (.bl false)))
    sNil)
    (sSeq (sFor (iStrM (eVar 0)) (tgN 1)
    lf_is_name_1)
    (sRet (eC (.bl true)))))
noncomputable def m_is_name : Fn := mkFn 1 2 bd_is_name
/-- checked -/
abbrev nm_checked : List Str := ["path", "name"]
noncomputable def lf_checked_1 : S :=
  (sIf (tNotM (tV (eCall 1 m_is_name (aCons (eVar 1) aNil))))
    (sRaise 1)
    sNil)
noncomputable def bd_checked : S :=
  (sSeq (sIf (tOrM (tNotM (tV (eUn (isi2D .list .tuple) (eVar 0)))) (tV (eBin gtD (eMk lenD (aCons (eVar 0) aNil)) (eC (.int 8)))))
    (sRaise 1)
    sNil)
    (sSeq (sFor (iSeq (eVar 0)) (tgN 1)
    lf_checked_1)
    (sRet (eMk listD (aCons (eVar 0) aNil)))))
noncomputable def m_checked : Fn := mkFn 1 2 bd_checked
/-- Pile.let_go -/
abbrev nm_Pile_let_go : List Str := ["self", "box", "waiting", "gone", "one", "left", "inside", "name", "inner"]
noncomputable def lf_Pile_let_go_1 : S :=
  (sExpr (eApp (eVar 2) (eVar 8)))
noncomputable def lw_Pile_let_go_2 : S :=
  (sSeq (sSet 4 (ePop (eVar 2)))
    (sSeq (sSet 5 (eMk maxD (aCons (eC (.int 0)) (aCons (eBin subD (eDGet2 (eFld 0 1 (eVar 0)) (eVar 4) (eC (.int 1))) (eC (.int 1))) aNil))))
    (sIf (tV (eBin gtD (eVar 5) (eC (.int 0))))
    (sDPutM (eFld 0 1 (eVar 0)) (eVar 4) (eVar 5))
    (sIf (tV (eDIn (eVar 4) (eFld 0 0 (eVar 0))))
    (sSeq (sSet 6 (eDPop (eFld 0 0 (eVar 0)) (eVar 4)))
    (sSeq (sExpr (eDPop (eFld 0 1 (eVar 0)) (eVar 4)))
    (sSeq (sSet 3 (eBin addD (eVar 3) (eC (.int 1))))
    (sIf (tV (eBin eqD (eBin ixD (eVar 6) (eC (.int 0))) (eC (.str "branch"))))
    (sFor (iSeq (eBin ixD (eVar 6) (eC (.int 1)))) (tg2 7 8)
    lf_Pile_let_go_1)
    sNil))))
    sNil))))
noncomputable def bd_Pile_let_go : S :=
  (sSeq (sSet 2 (eMk newLst (aCons (eMeth 0 2 m_Pile_need (eVar 0) (aCons (eVar 1) aNil)) aNil)))
    (sSeq (sSet 3 (eC (.int 0)))
    (sSeq (sWhile fuelN (tTruth (eVar 2))
    lw_Pile_let_go_2)
    (sRet (eVar 3)))))
noncomputable def m_Pile_let_go : Fn := mkFn 2 9 bd_Pile_let_go
/-- Store.turned -/
abbrev nm_Store_turned : List Str := ["self", "top", "before"]
noncomputable def bd_Store_turned : S :=
  (sSeq (sExpr (eMeth 0 2 m_Pile_hold (eFld 1 0 (eVar 0)) (aCons (eVar 1) aNil)))
    (sSeq (sSet 2 (eFld 1 1 (eVar 0)))
    (sSeq (sFldM 1 1 (eVar 0) (eVar 1))
    (sRet (eMeth 0 2 m_Pile_let_go (eFld 1 0 (eVar 0)) (aCons (eVar 2) aNil))))))
noncomputable def m_Store_turned : Fn := mkFn 2 3 bd_Store_turned
/-- box_of -/
abbrev nm_box_of : List Str := ["rows", "name", "other", "box"]
noncomputable def lf_box_of_1 : S :=
  (sIf (tV (eBin eqD (eVar 2) (eVar 1)))
    (sRet (eVar 3))
    sNil)
noncomputable def bd_box_of : S :=
  (sSeq (sFor (iSeq (eVar 0)) (tg2 2 3)
    lf_box_of_1)
    (sRet (eC .non)))
noncomputable def m_box_of : Fn := mkFn 2 4 bd_box_of
/-- Pile.content -/
abbrev nm_Pile_content : List Str := ["self", "box", "inside"]
noncomputable def bd_Pile_content : S :=
  (sSeq (sSet 2 (eDGet (eFld 0 0 (eVar 0)) (eMeth 0 2 m_Pile_need (eVar 0) (aCons (eVar 1) aNil))))
    (sSeq (sIf (tV (eBin eqD (eBin ixD (eVar 2) (eC (.int 0))) (eC (.str "leaf"))))
    (sRet (eVar 2))
    sNil)
    (sRet (eMk mkTup (aCons (eC (.str "branch")) (aCons (eMk listD (aCons (eBin ixD (eVar 2) (eC (.int 1))) aNil)) aNil))))))
noncomputable def m_Pile_content : Fn := mkFn 2 3 bd_Pile_content
/-- rows_in -/
abbrev nm_rows_in : List Str := ["pile", "box", "inside"]
noncomputable def bd_rows_in : S :=
  (sSeq (sIf (tV (eBin isD (eVar 1) (eC .non)))
    (sRet (eMk mkLst aNil))
    sNil)
    (sSeq (sSet 2 (eMeth 0 2 m_Pile_content (eVar 0) (aCons (eVar 1) aNil)))
    (sSeq (sIf (tV (eBin eqD (eBin ixD (eVar 2) (eC (.int 0))) (eC (.str "branch"))))
    (sRet (eBin ixD (eVar 2) (eC (.int 1))))
    sNil)
    (sRet (eMk mkLst aNil)))))
noncomputable def m_rows_in : Fn := mkFn 2 3 bd_rows_in
/-- found -/
abbrev nm_found : List Str := ["pile", "top", "path", "here", "name"]
noncomputable def lf_found_1 : S :=
  (sSet 3 (eCall 2 m_box_of (aCons (eCall 2 m_rows_in (aCons (eVar 0) (aCons (eVar 3) aNil))) (aCons (eVar 4) aNil))))
noncomputable def bd_found : S :=
  (sSeq (sSet 3 (eVar 1))
    (sSeq (sFor (iSeq (eVar 2)) (tgN 4)
    lf_found_1)
    (sRet (eVar 3))))
noncomputable def m_found : Fn := mkFn 3 5 bd_found
/-- Store.top -/
abbrev nm_Store_top : List Str := ["self", "view"]
noncomputable def bd_Store_top : S :=
  (sSeq (sIf (tV (eBin isD (eVar 1) (eC .non)))
    (sRet (eFld 1 1 (eVar 0)))
    sNil)
    (sSeq (sIf (tOrM (tNotM (tV (eUn (isiD .int) (eVar 1)))) (tOrM (tV (eUn (isiD .bool) (eVar 1))) (tV (eDNotIn (eVar 1) (eFld 1 2 (eVar 0))))))
    (sRaise 6)
    sNil)
    (sRet (eDGet (eFld 1 2 (eVar 0)) (eVar 1)))))
noncomputable def m_Store_top : Fn := mkFn 2 2 bd_Store_top
/-- Store.kind -/
abbrev nm_Store_kind : List Str := ["self", "view", "path", "box"]
noncomputable def bd_Store_kind : S :=
  (sSeq (sSet 3 (eCall 3 m_found (aCons (eFld 1 0 (eVar 0)) (aCons (eMeth 1 2 m_Store_top (eVar 0) (aCons (eVar 1) aNil)) (aCons (eCall 1 m_checked (aCons (eVar 2) aNil)) aNil)))))
    (sSeq (sIf (tV (eBin isD (eVar 3) (eC .non)))
    (sRet (eC .non))
    sNil)
    (sRet (eBin ixD (eMeth 0 2 m_Pile_content (eFld 1 0 (eVar 0)) (aCons (eVar 3) aNil)) (eC (.int 0))))))
noncomputable def m_Store_kind : Fn := mkFn 3 4 bd_Store_kind
/-- without -/
abbrev nm_without : List Str := ["rows", "name", "pair"]
noncomputable def le_without_1 : E :=
  (eVar 2)
noncomputable def lt_without_2 : T :=
  (tV (eBin neD (eBin ixD (eVar 2) (eC (.int 0))) (eVar 1)))
noncomputable def bd_without : S :=
  (sRet (eLc (iSeq (eVar 0)) 2 lt_without_2 le_without_1))
noncomputable def m_without : Fn := mkFn 2 3 bd_without
/-- placed -/
abbrev nm_placed : List Str := ["rows", "name", "box", "made", "put", "other", "kept"]
noncomputable def lf_placedF_1 : S :=
  (sSeq (sIf (tAndM (tNotM (tV (eVar 4))) (tV (eBin leD (eVar 1) (eVar 5))))
    (sSeq (sExpr (eApp (eVar 3) (eMk mkTup (aCons (eVar 1) (aCons (eVar 2) aNil)))))
    (sSet 4 (eC (.bl true))))
    sNil)
    (sIf (tV (eBin neD (eVar 5) (eVar 1)))
    (sExpr (eApp (eVar 3) (eMk mkTup (aCons (eVar 5) (aCons (eVar 6) aNil)))))
    sNil))
noncomputable def bd_placedF : S :=
  (sSeq (sSet 3 (eMk newLst aNil))
    (sSeq (sSet 4 (eC (.bl false)))
    (sSeq (sFor (iSeq (eVar 0)) (tg2 5 6)
    lf_placedF_1)
    (sSeq (sIf (tNotM (tV (eVar 4)))
    (sExpr (eApp (eVar 3) (eMk mkTup (aCons (eVar 1) (aCons (eVar 2) aNil)))))
    sNil)
    (sRet (eVar 3))))))
noncomputable def m_placedF : Fn := mkFnF 3 7 bd_placedF
/-- rebuilt -/
abbrev nm_rebuilt : List Str := ["pile", "top", "path", "box", "passed", "made", "k", "rows"]
noncomputable def le_rebuilt_1 : E :=
  (eCall 3 m_found (aCons (eVar 0) (aCons (eVar 1) (aCons (eSl (eVar 2) oNone (oSome (eVar 6))) aNil))))
noncomputable def lw_rebuilt_2 : S :=
  (sSeq (sSet 6 (eBin subD (eVar 6) (eC (.int 1))))
    (sSeq (sSet 7 (eCall 2 m_rows_in (aCons (eVar 0) (aCons (eBin ixD (eVar 4) (eVar 6)) aNil))))
    (sSeq (sIf (tV (eBin isD (eVar 5) (eC .non)))
    (sSet 7 (eCall 2 m_without (aCons (eVar 7) (aCons (eBin ixD (eVar 2) (eVar 6)) aNil))))
    (sSet 7 (eCall 3 m_placedF (aCons (eVar 7) (aCons (eBin ixD (eVar 2) (eVar 6)) (aCons (eVar 5) aNil))))))
    (sSet 5 (eMeth 0 2 m_Pile_branch (eVar 0) (aCons (eVar 7) aNil))))))
noncomputable def bd_rebuilt : S :=
  (sSeq (sSet 4 (eLc (iR1 (aCons (eMk lenD (aCons (eVar 2) aNil)) aNil)) 6 tYesM le_rebuilt_1))
    (sSeq (sSet 5 (eVar 3))
    (sSeq (sSet 6 (eMk lenD (aCons (eVar 2) aNil)))
    (sSeq (sWhile fuelN (tV (eBin gtD (eVar 6) (eC (.int 0))))
    lw_rebuilt_2)
    (sRet (eVar 5))))))
noncomputable def m_rebuilt : Fn := mkFn 4 8 bd_rebuilt
/-- Store.value -/
abbrev nm_Store_value : List Str := ["self", "view", "path", "kind"]
noncomputable def bd_Store_value : S :=
  (sSeq (sSet 3 (eMeth 1 3 m_Store_kind (eVar 0) (aCons (eVar 1) (aCons (eVar 2) aNil))))
    (sSeq (sIf (tV (eBin isD (eVar 3) (eC .non)))
    (sRaise 3)
    sNil)
    (sSeq (sIf (tV (eBin eqD (eVar 3) (eC (.str "branch"))))
    (sRaise 5)
    sNil)
    (sRet (eBin ixD (eMeth 0 2 m_Pile_content (eFld 1 0 (eVar 0)) (aCons (eCall 3 m_found (aCons (eFld 1 0 (eVar 0)) (aCons (eMeth 1 2 m_Store_top (eVar 0) (aCons (eVar 1) aNil)) (aCons (eVar 2) aNil)))) aNil)) (eC (.int 1)))))))
noncomputable def m_Store_value : Fn := mkFn 3 4 bd_Store_value
/-- Pile.leaf -/
abbrev nm_Pile_leaf : List Str := ["self", "number"]
noncomputable def bd_Pile_leaf : S :=
  (sRet (eMeth 0 2 m_Pile_fresh (eVar 0) (aCons (eMk mkTup (aCons (eC (.str "leaf")) (aCons (eVar 1) aNil))) aNil)))
noncomputable def m_Pile_leaf : Fn := mkFn 2 2 bd_Pile_leaf
/-- Store.put -/
abbrev nm_Store_put : List Str := ["self", "path", "number", "names", "k"]
noncomputable def lf_Store_put_1 : S :=
  (sIf (tV (eBin eqD (eMeth 1 3 m_Store_kind (eVar 0) (aCons (eC .non) (aCons (eSl (eVar 3) oNone (oSome (eVar 4))) aNil))) (eC (.str "leaf"))))
    (sRaise 4)
    sNil)
noncomputable def bd_Store_put : S :=
  (sSeq (sSet 3 (eCall 1 m_checked (aCons (eVar 1) aNil)))
    (sSeq (sIf (tV (eBin eqD (eVar 3) (eMk mkLst aNil)))
    (sRaise 1)
    sNil)
    (sSeq (sIf (tOrM (tNotM (tV (eUn (isiD .int) (eVar 2)))) (tOrM (tV (eUn (isiD .bool) (eVar 2))) (tV (eBin geD (eMk absD (aCons (eVar 2) aNil)) (eC (.int 1000000000000000000000000000000))))))
    (sRaise 2)
    sNil)
    (sSeq (sFor (iR1 (aCons (eMk lenD (aCons (eVar 3) aNil)) aNil)) (tgN 4)
    lf_Store_put_1)
    (sSeq (sIf (tV (eBin eqD (eMeth 1 3 m_Store_kind (eVar 0) (aCons (eC .non) (aCons (eVar 3) aNil))) (eC (.str "branch"))))
    (sRaise 5)
    sNil)
    (sSeq (sIf (tAndM (tV (eBin eqD (eMeth 1 3 m_Store_kind (eVar 0) (aCons (eC .non) (aCons (eVar 3) aNil))) (eC (.str "leaf")))) (tV (eBin eqD (eMeth 1 3 m_Store_value (eVar 0) (aCons (eC .non) (aCons (eVar 3) aNil))) (eVar 2))))
    (sRet (eC (.int 0)))
    sNil)
    (sRet (eMeth 1 2 m_Store_turned (eVar 0) (aCons (eCall 4 m_rebuilt (aCons (eFld 1 0 (eVar 0)) (aCons (eFld 1 1 (eVar 0)) (aCons (eVar 3) (aCons (eMeth 0 2 m_Pile_leaf (eFld 1 0 (eVar 0)) (aCons (eVar 2) aNil)) aNil))))) aNil)))))))))
noncomputable def m_Store_put : Fn := mkFn 3 5 bd_Store_put
/-- Store.snap -/
abbrev nm_Store_snap : List Str := ["self"]
noncomputable def bd_Store_snap : S :=
  (sSeq (sFldM 1 3 (eVar 0) (eBin addD (eFld 1 3 (eVar 0)) (eC (.int 1))))
    (sSeq (sDPutM (eFld 1 2 (eVar 0)) (eFld 1 3 (eVar 0)) (eFld 1 1 (eVar 0)))
    (sSeq (sExpr (eMeth 0 2 m_Pile_hold (eFld 1 0 (eVar 0)) (aCons (eFld 1 1 (eVar 0)) aNil)))
    (sRet (eFld 1 3 (eVar 0))))))
noncomputable def m_Store_snap : Fn := mkFn 1 1 bd_Store_snap
/-- Store.drop -/
abbrev nm_Store_drop : List Str := ["self", "shot", "top"]
noncomputable def bd_Store_drop : S :=
  (sSeq (sIf (tV (eBin isD (eVar 1) (eC .non)))
    (sRaise 6)
    sNil)
    (sSeq (sSet 2 (eMeth 1 2 m_Store_top (eVar 0) (aCons (eVar 1) aNil)))
    (sSeq (sExpr (eDPop (eFld 1 2 (eVar 0)) (eVar 1)))
    (sRet (eMeth 0 2 m_Pile_let_go (eFld 1 0 (eVar 0)) (aCons (eVar 2) aNil))))))
noncomputable def m_Store_drop : Fn := mkFn 2 3 bd_Store_drop
/-- _law_due_of_view -/
abbrev nm_l_due_of_view : List Str := ["_law_way", "_law_at", "_law_view"]
noncomputable def bd_l_due_of_view : S :=
  (sSeq (sIf (tOrM (tV (eBin ltD (eVar 2) (eC (.int 0)))) (tAndM (tV (eBin eqD (eVar 2) (eC (.int 0)))) (tV (eBin ltD (eVar 0) (eC (.int 4))))))
    (sRet (eC (.str "shot")))
    sNil)
    (sSeq (sIf (tOrM (tV (eBin eqD (eVar 0) (eC (.int 2)))) (tOrM (tV (eBin eqD (eVar 0) (eC (.int 3)))) (tV (eBin gtD (eVar 0) (eC (.int 6))))))
    (sRet (eC (.str "")))
    sNil)
    (sSeq (sIf (tV (eBin gtD (eVar 1) (eC (.int 8))))
    (sRet (eC (.str "path")))
    sNil)
    (sSeq (sIf (tV (eBin eqD (eVar 0) (eC (.int 6))))
    (sRet (eC (.str "")))
    sNil)
    (sSeq (sIf (tV (eBin inD (eVar 1) (eMk mkLst (aCons (eC (.int 3)) (aCons (eC (.int 4)) (aCons (eC (.int 5)) (aCons (eC (.int 6)) (aCons (eC (.int 7)) aNil))))))))
    (sRet (eC (.str "nothing")))
    sNil)
    (sSeq (sIf (tAndM (tV (eBin eqD (eVar 0) (eC (.int 4)))) (tV (eBin inD (eVar 1) (eMk mkLst (aCons (eC (.int 0)) (aCons (eC (.int 8)) aNil))))))
    (sRet (eC (.str "branch")))
    sNil)
    (sSeq (sIf (tAndM (tV (eBin eqD (eVar 0) (eC (.int 5)))) (tV (eBin inD (eVar 1) (eMk mkLst (aCons (eC (.int 1)) (aCons (eC (.int 2)) aNil))))))
    (sRet (eC (.str "leaf")))
    sNil)
    (sRet (eC (.str ""))))))))))
noncomputable def m_l_due_of_view : Fn := mkFn 3 3 bd_l_due_of_view
/-- _law_due -/
abbrev nm_l_due : List Str := ["_law_way", "_law_at", "_law_number", "_law_view"]
noncomputable def bd_l_due : S :=
  (sSeq (sIf (tV (eBin gtD (eVar 0) (eC (.int 1))))
    (sRet (eCall 3 m_l_due_of_view (aCons (eVar 0) (aCons (eVar 1) (aCons (eVar 3) aNil)))))
    sNil)
    (sSeq (sIf (tV (eBin geD (eVar 1) (eC (.int 8))))
    (sRet (eC (.str "path")))
    sNil)
    (sSeq (sIf (tV (eBin eqD (eVar 0) (eC (.int 1))))
    (sRet (eBin ixD (eMk mkLst (aCons (eC (.str "")) (aCons (eC (.str "nothing")) aNil))) (eMk intD (aCons (eBin gtD (eVar 1) (eC (.int 2))) aNil))))
    sNil)
    (sSeq (sIf (tV (eBin gtD (eVar 2) (eC (.int 4))))
    (sRet (eC (.str "number")))
    sNil)
    (sSeq (sIf (tV (eBin inD (eVar 1) (eMk mkLst (aCons (eC (.int 3)) (aCons (eC (.int 4)) (aCons (eC (.int 7)) aNil))))))
    (sRet (eC (.str "leaf")))
    sNil)
    (sRet (eBin ixD (eMk mkLst (aCons (eC (.str "")) (aCons (eC (.str "branch")) aNil))) (eMk intD (aCons (eBin eqD (eVar 1) (eC (.int 0))) aNil)))))))))
noncomputable def m_l_due : Fn := mkFn 4 4 bd_l_due
/-- _law_cell_at -/
abbrev nm_l_cell_at : List Str := ["_law_script", "_law_k"]
noncomputable def bd_l_cell_at : S :=
  (sSeq (sIf (tV (eBin ltD (eVar 1) (eMk lenD (aCons (eVar 0) aNil))))
    (sRet (eBin ixD (eVar 0) (eVar 1)))
    sNil)
    (sRet (eC (.int 0))))
noncomputable def m_l_cell_at : Fn := mkFn 2 2 bd_l_cell_at
/-- Pile.kept -/
abbrev nm_Pile_kept : List Str := ["self"]
noncomputable def bd_Pile_kept : S :=
  (sRet (eMk sortKiD (aCons (eFld 0 0 (eVar 0)) aNil)))
noncomputable def m_Pile_kept : Fn := mkFn 1 1 bd_Pile_kept
/-- Store.shot_numbers -/
abbrev nm_Store_shot_numbers : List Str := ["self"]
noncomputable def bd_Store_shot_numbers : S :=
  (sRet (eMk sortKiD (aCons (eFld 1 2 (eVar 0)) aNil)))
noncomputable def m_Store_shot_numbers : Fn := mkFn 1 1 bd_Store_shot_numbers
/-- Store.cut -/
abbrev nm_Store_cut : List Str := ["self", "path", "names"]
noncomputable def bd_Store_cut : S :=
  (sSeq (sSet 2 (eCall 1 m_checked (aCons (eVar 1) aNil)))
    (sSeq (sIf (tV (eBin eqD (eVar 2) (eMk mkLst aNil)))
    (sRaise 1)
    sNil)
    (sSeq (sIf (tV (eBin isD (eCall 3 m_found (aCons (eFld 1 0 (eVar 0)) (aCons (eFld 1 1 (eVar 0)) (aCons (eVar 2) aNil)))) (eC .non)))
    (sRaise 3)
    sNil)
    (sRet (eMeth 1 2 m_Store_turned (eVar 0) (aCons (eCall 4 m_rebuilt (aCons (eFld 1 0 (eVar 0)) (aCons (eFld 1 1 (eVar 0)) (aCons (eVar 2) (aCons (eC .non) aNil))))) aNil))))))
noncomputable def m_Store_cut : Fn := mkFn 2 3 bd_Store_cut
/-- Store.back -/
abbrev nm_Store_back : List Str := ["self", "shot"]
noncomputable def bd_Store_back : S :=
  (sSeq (sIf (tV (eBin isD (eVar 1) (eC .non)))
    (sRaise 6)
    sNil)
    (sRet (eMeth 1 2 m_Store_turned (eVar 0) (aCons (eMeth 1 2 m_Store_top (eVar 0) (aCons (eVar 1) aNil)) aNil))))
noncomputable def m_Store_back : Fn := mkFn 2 2 bd_Store_back
/-- Store.names -/
abbrev nm_Store_names : List Str := ["self", "view", "path", "kind", "pair"]
noncomputable def le_Store_names_1 : E :=
  (eBin ixD (eVar 4) (eC (.int 0)))
noncomputable def bd_Store_names : S :=
  (sSeq (sSet 3 (eMeth 1 3 m_Store_kind (eVar 0) (aCons (eVar 1) (aCons (eVar 2) aNil))))
    (sSeq (sIf (tV (eBin isD (eVar 3) (eC .non)))
    (sRaise 3)
    sNil)
    (sSeq (sIf (tV (eBin eqD (eVar 3) (eC (.str "leaf"))))
    (sRaise 4)
    sNil)
    (sRet (eLc (iSeq (eCall 2 m_rows_in (aCons (eFld 1 0 (eVar 0)) (aCons (eCall 3 m_found (aCons (eFld 1 0 (eVar 0)) (aCons (eMeth 1 2 m_Store_top (eVar 0) (aCons (eVar 1) aNil)) (aCons (eVar 2) aNil)))) aNil)))) 4 tYesM le_Store_names_1)))))
noncomputable def m_Store_names : Fn := mkFn 3 5 bd_Store_names
/-- number_in -/
abbrev nm_number_in : List Str := ["pile", "box", "inside"]
noncomputable def bd_number_in : S :=
  (sSeq (sIf (tV (eBin isD (eVar 1) (eC .non)))
    (sRet (eC .non))
    sNil)
    (sSeq (sSet 2 (eMeth 0 2 m_Pile_content (eVar 0) (aCons (eVar 1) aNil)))
    (sSeq (sIf (tV (eBin eqD (eBin ixD (eVar 2) (eC (.int 0))) (eC (.str "leaf"))))
    (sRet (eBin ixD (eVar 2) (eC (.int 1))))
    sNil)
    (sRet (eC .non)))))
noncomputable def m_number_in : Fn := mkFn 2 3 bd_number_in
/-- path_of -/
abbrev nm_path_of : List Str := ["row"]
noncomputable def bd_path_of : S :=
  (sRet (eBin ixD (eVar 0) (eC (.int 0))))
noncomputable def m_path_of : Fn := mkFn 1 1 bd_path_of
/-- differences -/
abbrev nm_differences : List Str := ["pile", "one", "other", "waiting", "rows", "looked", "step", "before", "after", "left", "right", "name", "pair"]
noncomputable def lf_differences_1 : S :=
  (sExpr (eApp (eVar 3) (eMk mkTup (aCons (eBin addD (eBin ixD (eVar 6) (eC (.int 0))) (eMk mkLst (aCons (eVar 11) aNil))) (aCons (eCall 2 m_box_of (aCons (eVar 9) (aCons (eVar 11) aNil))) (aCons (eCall 2 m_box_of (aCons (eVar 10) (aCons (eVar 11) aNil))) aNil))))))
noncomputable def lw_differences_2 : S :=
  (sSeq (sSet 6 (ePop (eVar 3)))
    (sIf (tV (eBin neD (eBin ixD (eVar 6) (eC (.int 1))) (eBin ixD (eVar 6) (eC (.int 2)))))
    (sSeq (sSet 5 (eBin addD (eVar 5) (eC (.int 1))))
    (sSeq (sSet 7 (eCall 2 m_number_in (aCons (eVar 0) (aCons (eBin ixD (eVar 6) (eC (.int 1))) aNil))))
    (sSeq (sSet 8 (eCall 2 m_number_in (aCons (eVar 0) (aCons (eBin ixD (eVar 6) (eC (.int 2))) aNil))))
    (sSeq (sIf (tV (eBin neD (eVar 7) (eVar 8)))
    (sExpr (eApp (eVar 4) (eMk mkTup (aCons (eBin ixD (eVar 6) (eC (.int 0))) (aCons (eVar 7) (aCons (eVar 8) aNil))))))
    sNil)
    (sSeq (sSet 9 (eCall 2 m_rows_in (aCons (eVar 0) (aCons (eBin ixD (eVar 6) (eC (.int 1))) aNil))))
    (sSeq (sSet 10 (eCall 2 m_rows_in (aCons (eVar 0) (aCons (eBin ixD (eVar 6) (eC (.int 2))) aNil))))
    (sFor (iSeq eBad) (tgN 11)
    lf_differences_1)))))))
    sNil))
noncomputable def bd_differences : S :=
  (sSeq (sSet 3 (eMk newLst (aCons (eMk mkTup (aCons (eMk mkLst aNil) (aCons (eVar 1) (aCons (eVar 2) aNil)))) aNil)))
    (sSeq (sSet 4 (eMk newLst aNil))
    (sSeq (sSet 5 (eC (.int 0)))
    (sSeq (sWhile fuelN (tTruth (eVar 3))
    lw_differences_2)
    (sRet (eMk mkTup (aCons (sortK0 (eVar 4) (eC (.fn 0))) (aCons (eVar 5) aNil))))))))
noncomputable def m_differences : Fn := mkFn 3 13 bd_differences
/-- Store.changes -/
abbrev nm_Store_changes : List Str := ["self", "one", "other"]
noncomputable def bd_Store_changes : S :=
  (sRet (eCall 3 m_differences (aCons (eFld 1 0 (eVar 0)) (aCons (eMeth 1 2 m_Store_top (eVar 0) (aCons (eVar 1) aNil)) (aCons (eMeth 1 2 m_Store_top (eVar 0) (aCons (eVar 2) aNil)) aNil)))))
noncomputable def m_Store_changes : Fn := mkFn 3 3 bd_Store_changes
/-- _law_asked -/
abbrev nm_l_asked : List Str := ["_law_store", "_law_way", "_law_path", "_law_number", "_law_view"]
noncomputable def bd_l_asked : S :=
  (sIf (tV (eBin eqD (eVar 1) (eC (.int 0))))
    (sExpr (eMeth 1 3 m_Store_put (eVar 0) (aCons (eVar 2) (aCons (eVar 3) aNil))))
    (sIf (tV (eBin eqD (eVar 1) (eC (.int 1))))
    (sExpr (eMeth 1 2 m_Store_cut (eVar 0) (aCons (eVar 2) aNil)))
    (sIf (tV (eBin eqD (eVar 1) (eC (.int 2))))
    (sExpr (eMeth 1 2 m_Store_drop (eVar 0) (aCons (eVar 4) aNil)))
    (sIf (tV (eBin eqD (eVar 1) (eC (.int 3))))
    (sExpr (eMeth 1 2 m_Store_back (eVar 0) (aCons (eVar 4) aNil)))
    (sIf (tV (eBin eqD (eVar 1) (eC (.int 4))))
    (sExpr (eMeth 1 3 m_Store_value (eVar 0) (aCons (eVar 4) (aCons (eVar 2) aNil))))
    (sIf (tV (eBin eqD (eVar 1) (eC (.int 5))))
    (sExpr (eMeth 1 3 m_Store_names (eVar 0) (aCons (eVar 4) (aCons (eVar 2) aNil))))
    (sIf (tV (eBin eqD (eVar 1) (eC (.int 6))))
    (sExpr (eMeth 1 3 m_Store_kind (eVar 0) (aCons (eVar 4) (aCons (eVar 2) aNil))))
    (sIf (tV (eBin eqD (eVar 1) (eC (.int 7))))
    (sExpr (eMeth 1 3 m_Store_changes (eVar 0) (aCons (eC .non) (aCons (eVar 4) aNil))))
    (sIf (tV (eBin eqD (eVar 1) (eC (.int 8))))
    (sExpr (eMeth 1 3 m_Store_changes (eVar 0) (aCons (eVar 4) (aCons (eC (.int 1)) aNil))))
    (sExpr (eMeth 1 2 m_Store_top (eVar 0) (aCons (eVar 4) aNil))))))))))))
noncomputable def m_l_asked : Fn := mkFn 5 5 bd_l_asked
/-- _law_told -/
abbrev nm_l_told : List Str := ["_law_store", "_law_way", "_law_path", "_law_number", "_law_view", "_law_word", "e"]
noncomputable def bd_l_told : S :=
  (sSeq (sTryA 6 [(1, some (.str "path value")), (2, some (.str "number value")), (3, some (.str "nothing value")), (4, some (.str "leaf value")), (5, some (.str "branch value")), (6, some (.str "shot value")), (7, some (.str "box value"))]
    (sExpr (eCall 5 m_l_asked (aCons (eVar 0) (aCons (eVar 1) (aCons (eVar 2) (aCons (eVar 3) (aCons (eVar 4) aNil))))))))
    (sRet (eC (.str ""))))
noncomputable def m_l_told : Fn := mkFn 5 7 bd_l_told
/-- law -/
abbrev nm_law : List Str := ["_law_script", "_law_word", "_law_paths_here", "_law_store", "_law_way", "_law_at", "_law_number", "_law_told_here", "_law_view", "_law_asked_here", "_law_due_here", "_law_before"]
noncomputable def bd_law : S :=
  (sSeq (sSet 1 (eCall 1 m_l_word_by (aCons (eCall 2 m_l_cell_at (aCons (eVar 0) (aCons (eC (.int 4)) aNil))) aNil)))
    (sSeq (sSet 2 (eCall 1 m_l_paths (aCons (eVar 1) aNil)))
    (sSeq (sSet 3 (eMake0 1 m_Store_init))
    (sSeq (sExpr (eMeth 1 3 m_Store_put (eVar 3) (aCons (eBin ixD (eVar 2) (eC (.int 1))) (aCons (eC (.int 5)) aNil))))
    (sSeq (sExpr (eMeth 1 3 m_Store_put (eVar 3) (aCons (eBin ixD (eVar 2) (eC (.int 2))) (aCons (eUn negD (eC (.int 7))) aNil))))
    (sSeq (sExpr (eMeth 1 1 m_Store_snap (eVar 3) aNil))
    (sSeq (sExpr (eMeth 1 2 m_Store_drop (eVar 3) (aCons (eMeth 1 1 m_Store_snap (eVar 3) aNil) aNil)))
    (sSeq (sSet 4 (eBin ixD (eMk mkLst (aCons (eC (.int 0)) (aCons (eC (.int 0)) (aCons (eC (.int 0)) (aCons (eC (.int 0)) (aCons (eC (.int 0)) (aCons (eC (.int 0)) (aCons (eC (.int 1)) (aCons (eC (.int 2)) (aCons (eC (.int 3)) (aCons (eC (.int 4)) (aCons (eC (.int 5)) (aCons (eC (.int 6)) (aCons (eC (.int 7)) (aCons (eC (.int 8)) (aCons (eC (.int 9)) aNil)))))))))))))))) (eBin modD (eCall 2 m_l_cell_at (aCons (eVar 0) (aCons (eC (.int 0)) aNil))) (eC (.int 15)))))
    (sSeq (sSet 5 (eBin ixD (eBin addD (eRgL (eC (.int 21))) (eMk mkLst (aCons (eC (.int 3)) (aCons (eC (.int 4)) (aCons (eC (.int 7)) (aCons (eC (.int 0)) (aCons (eC (.int 5)) (aCons (eC (.int 3)) (aCons (eC (.int 4)) aNil))))))))) (eBin modD (eCall 2 m_l_cell_at (aCons (eVar 0) (aCons (eC (.int 1)) aNil))) (eC (.int 28)))))
    (sSeq (sSet 6 (eBin ixD (eBin addD (eRgL (eC (.int 13))) (eMk mkLst (aCons (eC (.int 0)) (aCons (eC (.int 1)) (aCons (eC (.int 2)) (aCons (eC (.int 3)) (aCons (eC (.int 4)) (aCons (eC (.int 0)) (aCons (eC (.int 1)) aNil))))))))) (eBin modD (eCall 2 m_l_cell_at (aCons (eVar 0) (aCons (eC (.int 2)) aNil))) (eC (.int 20)))))
    (sSeq (sSet 7 (eBin ixD (eMk mkLst (aCons (eC (.int 0)) (aCons (eC (.int 3)) (aCons (eUn negD (eC (.int 4))) (aCons (eBin subD (eBin powD (eC (.int 10)) (eC (.int 30))) (eC (.int 1))) (aCons (eBin subD (eC (.int 1)) (eBin powD (eC (.int 10)) (eC (.int 30)))) (aCons (eBin powD (eC (.int 10)) (eC (.int 30))) (aCons (eUn negD (eBin powD (eC (.int 10)) (eC (.int 30)))) (aCons (eC (.bl true)) (aCons (eC (.str "5")) (aCons (eC .non) (aCons (eMk mkLst (aCons (eC (.int 1)) aNil)) (aCons (eMk mkTup (aCons (eC (.int 1)) aNil)) (aCons eNewK aNil)))))))))))))) (eVar 6)))
    (sSeq (sSet 8 (eBin modD (eCall 2 m_l_cell_at (aCons (eVar 0) (aCons (eC (.int 3)) aNil))) (eC (.int 11))))
    (sSeq (sSet 9 (eBin ixD (eMk mkLst (aCons (eC .non) (aCons (eC (.int 1)) (aCons (eC (.int 2)) (aCons (eC (.int 0)) (aCons (eC (.int 3)) (aCons (eC (.bl true)) (aCons (eC (.str "1")) (aCons (eUn negD (eC (.int 1))) (aCons (eMk mkLst (aCons (eC (.int 1)) aNil)) (aCons (eMk mkTup (aCons (eC (.int 1)) aNil)) (aCons eNewK aNil)))))))))))) (eVar 8)))
    (sSeq (sSet 10 (eCall 4 m_l_due (aCons (eVar 4) (aCons (eVar 5) (aCons (eVar 6) (aCons (eBin ixD (eMk mkLst (aCons (eVar 8) (aCons (eUn negD (eC (.int 1))) aNil))) (eMk intD (aCons (eBin gtD (eVar 8) (eC (.int 1))) aNil))) aNil))))))
    (sSeq (sSet 11 (eMk mkTup (aCons (eMeth 0 1 m_Pile_kept (eFld 1 0 (eVar 3)) aNil) (aCons (eFld 0 2 (eFld 1 0 (eVar 3))) (aCons (eMeth 1 2 m_Store_top (eVar 3) (aCons (eC .non) aNil)) (aCons (eMeth 1 1 m_Store_shot_numbers (eVar 3) aNil) (aCons (eMeth 1 2 m_Store_top (eVar 3) (aCons (eC (.int 1)) aNil)) aNil)))))))
    (sSeq (sIf (tV (eBin eqD (eVar 10) (eC (.str ""))))
    (sRet (eBin eqD (eCall 5 m_l_told (aCons (eVar 3) (aCons (eVar 4) (aCons (eBin ixD (eVar 2) (eVar 5)) (aCons (eVar 7) (aCons (eVar 9) aNil)))))) (eC (.str ""))))
    sNil)
    (sSeq (sIf (tV (eBin neD (eCall 5 m_l_told (aCons (eVar 3) (aCons (eVar 4) (aCons (eBin ixD (eVar 2) (eVar 5)) (aCons (eVar 7) (aCons (eVar 9) aNil)))))) (eBin addD (eVar 10) (eC (.str " value")))))
    (sRet (eC (.bl false)))
    sNil)
    (sRet (eBin eqD (eVar 11) (eMk mkTup (aCons (eMeth 0 1 m_Pile_kept (eFld 1 0 (eVar 3)) aNil) (aCons (eFld 0 2 (eFld 1 0 (eVar 3))) (aCons (eMeth 1 2 m_Store_top (eVar 3) (aCons (eC .non) aNil)) (aCons (eMeth 1 1 m_Store_shot_numbers (eVar 3) aNil) (aCons (eMeth 1 2 m_Store_top (eVar 3) (aCons (eC (.int 1)) aNil)) aNil)))))))))))))))))))))))))
noncomputable def m_law : Fn := mkFn 1 12 bd_law
end Law
/-! K_k05 -/
set_option Elab.async false
set_option linter.all false
set_option maxRecDepth 100000
set_option autoImplicit false
set_option maxHeartbeats 4000000
namespace Law
open PySem PySem.Spec PyProof.Rows L2 Sn
def topS (i : Nat) : Stmt := PySem.Challenge.pw_snaptree_k05_refused_in_order.main.body.getD i (.Pass ⟨0, 0, 0, 0⟩)
abbrev s_l_word_by : Stmt := topS 35
abbrev s_l_paths : Stmt := topS 36
abbrev s_Pile_init : Stmt := inClass (topS 29) 0
abbrev s_Pile_fresh : Stmt := inClass (topS 29) 2
abbrev s_Pile_need : Stmt := inClass (topS 29) 1
abbrev s_Pile_hold : Stmt := inClass (topS 29) 6
abbrev s_Pile_branch : Stmt := inClass (topS 29) 4
abbrev s_Store_init : Stmt := inClass (topS 32) 0
abbrev s_is_name : Stmt := topS 26
abbrev s_checked : Stmt := topS 27
abbrev s_Pile_let_go : Stmt := inClass (topS 29) 9
abbrev s_Store_turned : Stmt := inClass (topS 32) 2
abbrev s_box_of : Stmt := topS 2
abbrev s_Pile_content : Stmt := inClass (topS 29) 5
abbrev s_rows_in : Stmt := topS 6
abbrev s_found : Stmt := topS 7
abbrev s_Store_top : Stmt := inClass (topS 32) 1
abbrev s_Store_kind : Stmt := inClass (topS 32) 9
abbrev s_without : Stmt := topS 4
abbrev s_placed : Stmt := topS 3
abbrev s_rebuilt : Stmt := topS 8
abbrev s_Store_value : Stmt := inClass (topS 32) 10
abbrev s_Pile_leaf : Stmt := inClass (topS 29) 3
abbrev s_Store_put : Stmt := inClass (topS 32) 3
abbrev s_Store_snap : Stmt := inClass (topS 32) 5
abbrev s_Store_drop : Stmt := inClass (topS 32) 6
abbrev s_l_due_of_view : Stmt := topS 39
abbrev s_l_due : Stmt := topS 40
abbrev s_l_cell_at : Stmt := topS 34
abbrev s_Pile_kept : Stmt := inClass (topS 29) 8
abbrev s_Store_shot_numbers : Stmt := inClass (topS 32) 8
abbrev s_Store_cut : Stmt := inClass (topS 32) 4
abbrev s_Store_back : Stmt := inClass (topS 32) 7
abbrev s_Store_names : Stmt := inClass (topS 32) 11
abbrev s_number_in : Stmt := topS 10
abbrev s_path_of : Stmt := topS 11
abbrev s_differences : Stmt := topS 12
abbrev s_Store_changes : Stmt := inClass (topS 32) 12
abbrev s_l_asked : Stmt := topS 37
abbrev s_l_told : Stmt := topS 38
abbrev s_law : Stmt := topS 41
structure Ad where
  a_l_word_by : Addr
  d_l_word_by : FuncData
  a_l_paths : Addr
  d_l_paths : FuncData
  a_Pile_init : Addr
  d_Pile_init : FuncData
  a_Pile_fresh : Addr
  d_Pile_fresh : FuncData
  a_Pile_need : Addr
  d_Pile_need : FuncData
  a_Pile_hold : Addr
  d_Pile_hold : FuncData
  a_Pile_branch : Addr
  d_Pile_branch : FuncData
  a_Store_init : Addr
  d_Store_init : FuncData
  a_is_name : Addr
  d_is_name : FuncData
  a_checked : Addr
  d_checked : FuncData
  a_Pile_let_go : Addr
  d_Pile_let_go : FuncData
  a_Store_turned : Addr
  d_Store_turned : FuncData
  a_box_of : Addr
  d_box_of : FuncData
  a_Pile_content : Addr
  d_Pile_content : FuncData
  a_rows_in : Addr
  d_rows_in : FuncData
  a_found : Addr
  d_found : FuncData
  a_Store_top : Addr
  d_Store_top : FuncData
  a_Store_kind : Addr
  d_Store_kind : FuncData
  a_without : Addr
  d_without : FuncData
  a_placed : Addr
  d_placed : FuncData
  a_rebuilt : Addr
  d_rebuilt : FuncData
  a_Store_value : Addr
  d_Store_value : FuncData
  a_Pile_leaf : Addr
  d_Pile_leaf : FuncData
  a_Store_put : Addr
  d_Store_put : FuncData
  a_Store_snap : Addr
  d_Store_snap : FuncData
  a_Store_drop : Addr
  d_Store_drop : FuncData
  a_l_due_of_view : Addr
  d_l_due_of_view : FuncData
  a_l_due : Addr
  d_l_due : FuncData
  a_l_cell_at : Addr
  d_l_cell_at : FuncData
  a_Pile_kept : Addr
  d_Pile_kept : FuncData
  a_Store_shot_numbers : Addr
  d_Store_shot_numbers : FuncData
  a_Store_cut : Addr
  d_Store_cut : FuncData
  a_Store_back : Addr
  d_Store_back : FuncData
  a_Store_names : Addr
  d_Store_names : FuncData
  a_number_in : Addr
  d_number_in : FuncData
  a_path_of : Addr
  d_path_of : FuncData
  a_differences : Addr
  d_differences : FuncData
  a_Store_changes : Addr
  d_Store_changes : FuncData
  a_l_asked : Addr
  d_l_asked : FuncData
  a_l_told : Addr
  d_l_told : FuncData
  a_law : Addr
  d_law : FuncData
  c_Pile : Addr
  c_Store : Addr
  x_SnapError : Addr
  x_BadPath : Addr
  x_BadNumber : Addr
  x_Nothing : Addr
  x_LeafThere : Addr
  x_BranchThere : Addr
  x_NoShot : Addr
  x_NoBox : Addr
def namesC (n : Nat) : List Str := match n with
  | 0 => ["boxes", "counts", "made"]
  | 1 => ["pile", "live", "shots", "taken"]
  | _ => []
abbrev gg (K : PySem.W.Frag) (ad : Ad) : Cg where
  K := K
  cls := fun n => match n with
    | 0 => ad.c_Pile
    | 1 => ad.c_Store
    | _ => 0
  names := namesC
  xa := fun n => match n with
    | 0 => ad.x_SnapError
    | 1 => ad.x_BadPath
    | 2 => ad.x_BadNumber
    | 3 => ad.x_Nothing
    | 4 => ad.x_LeafThere
    | 5 => ad.x_BranchThere
    | 6 => ad.x_NoShot
    | 7 => ad.x_NoBox
    | _ => 0
  fns := fun n => match n with
    | 0 => ad.a_path_of
    | _ => 0
structure Txt (K : PySem.W.Frag) (mg : Str → Option Value) (ad : Ad) : Prop where
  F_l_word_by : Fun K "_law_word_by" "_law_word_by" s_l_word_by ad.a_l_word_by ad.d_l_word_by
  b_l_word_by : Binds K ad.d_l_word_by ["_law_cell"] []
  m_l_word_by : mg "_law_word_by" = some (.ref ad.a_l_word_by)
  F_l_paths : Fun K "_law_paths" "_law_paths" s_l_paths ad.a_l_paths ad.d_l_paths
  b_l_paths : Binds K ad.d_l_paths ["_law_word"] []
  m_l_paths : mg "_law_paths" = some (.ref ad.a_l_paths)
  F_Pile_init : Fun K "__init__" "Pile.__init__" s_Pile_init ad.a_Pile_init ad.d_Pile_init
  b_Pile_init : Binds K ad.d_Pile_init ["self"] []
  F_Pile_fresh : Fun K "fresh" "Pile.fresh" s_Pile_fresh ad.a_Pile_fresh ad.d_Pile_fresh
  b_Pile_fresh : Binds K ad.d_Pile_fresh ["self", "content"] []
  me_Pile_fresh : Meth K ((gg K ad).cls 0) "fresh" ad.a_Pile_fresh
  F_Pile_need : Fun K "need" "Pile.need" s_Pile_need ad.a_Pile_need ad.d_Pile_need
  b_Pile_need : Binds K ad.d_Pile_need ["self", "box"] []
  me_Pile_need : Meth K ((gg K ad).cls 0) "need" ad.a_Pile_need
  F_Pile_hold : Fun K "hold" "Pile.hold" s_Pile_hold ad.a_Pile_hold ad.d_Pile_hold
  b_Pile_hold : Binds K ad.d_Pile_hold ["self", "box"] []
  me_Pile_hold : Meth K ((gg K ad).cls 0) "hold" ad.a_Pile_hold
  F_Pile_branch : Fun K "branch" "Pile.branch" s_Pile_branch ad.a_Pile_branch ad.d_Pile_branch
  b_Pile_branch : Binds K ad.d_Pile_branch ["self", "rows"] []
  me_Pile_branch : Meth K ((gg K ad).cls 0) "branch" ad.a_Pile_branch
  F_Store_init : Fun K "__init__" "Store.__init__" s_Store_init ad.a_Store_init ad.d_Store_init
  b_Store_init : Binds K ad.d_Store_init ["self"] []
  F_is_name : Fun K "is_name" "is_name" s_is_name ad.a_is_name ad.d_is_name
  b_is_name : Binds K ad.d_is_name ["thing"] []
  m_is_name : mg "is_name" = some (.ref ad.a_is_name)
  F_checked : Fun K "checked" "checked" s_checked ad.a_checked ad.d_checked
  b_checked : Binds K ad.d_checked ["path"] []
  m_checked : mg "checked" = some (.ref ad.a_checked)
  F_Pile_let_go : Fun K "let_go" "Pile.let_go" s_Pile_let_go ad.a_Pile_let_go ad.d_Pile_let_go
  b_Pile_let_go : Binds K ad.d_Pile_let_go ["self", "box"] []
  me_Pile_let_go : Meth K ((gg K ad).cls 0) "let_go" ad.a_Pile_let_go
  F_Store_turned : Fun K "turned" "Store.turned" s_Store_turned ad.a_Store_turned ad.d_Store_turned
  b_Store_turned : Binds K ad.d_Store_turned ["self", "top"] []
  me_Store_turned : Meth K ((gg K ad).cls 1) "turned" ad.a_Store_turned
  F_box_of : Fun K "box_of" "box_of" s_box_of ad.a_box_of ad.d_box_of
  b_box_of : Binds K ad.d_box_of ["rows", "name"] []
  m_box_of : mg "box_of" = some (.ref ad.a_box_of)
  F_Pile_content : Fun K "content" "Pile.content" s_Pile_content ad.a_Pile_content ad.d_Pile_content
  b_Pile_content : Binds K ad.d_Pile_content ["self", "box"] []
  me_Pile_content : Meth K ((gg K ad).cls 0) "content" ad.a_Pile_content
  F_rows_in : Fun K "rows_in" "rows_in" s_rows_in ad.a_rows_in ad.d_rows_in
  b_rows_in : Binds K ad.d_rows_in ["pile", "box"] []
  m_rows_in : mg "rows_in" = some (.ref ad.a_rows_in)
  F_found : Fun K "found" "found" s_found ad.a_found ad.d_found
  b_found : Binds K ad.d_found ["pile", "top", "path"] []
  m_found : mg "found" = some (.ref ad.a_found)
  F_Store_top : Fun K "top" "Store.top" s_Store_top ad.a_Store_top ad.d_Store_top
  b_Store_top : Binds K ad.d_Store_top ["self", "view"] []
  me_Store_top : Meth K ((gg K ad).cls 1) "top" ad.a_Store_top
  F_Store_kind : Fun K "kind" "Store.kind" s_Store_kind ad.a_Store_kind ad.d_Store_kind
  b_Store_kind : Binds K ad.d_Store_kind ["self", "view", "path"] []
  me_Store_kind : Meth K ((gg K ad).cls 1) "kind" ad.a_Store_kind
  F_without : Fun K "without" "without" s_without ad.a_without ad.d_without
  b_without : Binds K ad.d_without ["rows", "name"] []
  m_without : mg "without" = some (.ref ad.a_without)
  F_placed : Fun K "placed" "placed" s_placed ad.a_placed ad.d_placed
  b_placed : Binds K ad.d_placed ["rows", "name", "box"] []
  m_placed : mg "placed" = some (.ref ad.a_placed)
  F_rebuilt : Fun K "rebuilt" "rebuilt" s_rebuilt ad.a_rebuilt ad.d_rebuilt
  b_rebuilt : Binds K ad.d_rebuilt ["pile", "top", "path", "box"] []
  m_rebuilt : mg "rebuilt" = some (.ref ad.a_rebuilt)
  F_Store_value : Fun K "value" "Store.value" s_Store_value ad.a_Store_value ad.d_Store_value
  b_Store_value : Binds K ad.d_Store_value ["self", "view", "path"] []
  me_Store_value : Meth K ((gg K ad).cls 1) "value" ad.a_Store_value
  F_Pile_leaf : Fun K "leaf" "Pile.leaf" s_Pile_leaf ad.a_Pile_leaf ad.d_Pile_leaf
  b_Pile_leaf : Binds K ad.d_Pile_leaf ["self", "number"] []
  me_Pile_leaf : Meth K ((gg K ad).cls 0) "leaf" ad.a_Pile_leaf
  F_Store_put : Fun K "put" "Store.put" s_Store_put ad.a_Store_put ad.d_Store_put
  b_Store_put : Binds K ad.d_Store_put ["self", "path", "number"] []
  me_Store_put : Meth K ((gg K ad).cls 1) "put" ad.a_Store_put
  F_Store_snap : Fun K "snap" "Store.snap" s_Store_snap ad.a_Store_snap ad.d_Store_snap
  b_Store_snap : Binds K ad.d_Store_snap ["self"] []
  me_Store_snap : Meth K ((gg K ad).cls 1) "snap" ad.a_Store_snap
  F_Store_drop : Fun K "drop" "Store.drop" s_Store_drop ad.a_Store_drop ad.d_Store_drop
  b_Store_drop : Binds K ad.d_Store_drop ["self", "shot"] []
  me_Store_drop : Meth K ((gg K ad).cls 1) "drop" ad.a_Store_drop
  F_l_due_of_view : Fun K "_law_due_of_view" "_law_due_of_view" s_l_due_of_view ad.a_l_due_of_view ad.d_l_due_of_view
  b_l_due_of_view : Binds K ad.d_l_due_of_view ["_law_way", "_law_at", "_law_view"] []
  m_l_due_of_view : mg "_law_due_of_view" = some (.ref ad.a_l_due_of_view)
  F_l_due : Fun K "_law_due" "_law_due" s_l_due ad.a_l_due ad.d_l_due
  b_l_due : Binds K ad.d_l_due ["_law_way", "_law_at", "_law_number", "_law_view"] []
  m_l_due : mg "_law_due" = some (.ref ad.a_l_due)
  F_l_cell_at : Fun K "_law_cell_at" "_law_cell_at" s_l_cell_at ad.a_l_cell_at ad.d_l_cell_at
  b_l_cell_at : Binds K ad.d_l_cell_at ["_law_script", "_law_k"] []
  m_l_cell_at : mg "_law_cell_at" = some (.ref ad.a_l_cell_at)
  F_Pile_kept : Fun K "kept" "Pile.kept" s_Pile_kept ad.a_Pile_kept ad.d_Pile_kept
  b_Pile_kept : Binds K ad.d_Pile_kept ["self"] []
  me_Pile_kept : Meth K ((gg K ad).cls 0) "kept" ad.a_Pile_kept
  F_Store_shot_numbers : Fun K "shot_numbers" "Store.shot_numbers" s_Store_shot_numbers ad.a_Store_shot_numbers ad.d_Store_shot_numbers
  b_Store_shot_numbers : Binds K ad.d_Store_shot_numbers ["self"] []
  me_Store_shot_numbers : Meth K ((gg K ad).cls 1) "shot_numbers" ad.a_Store_shot_numbers
  F_Store_cut : Fun K "cut" "Store.cut" s_Store_cut ad.a_Store_cut ad.d_Store_cut
  b_Store_cut : Binds K ad.d_Store_cut ["self", "path"] []
  me_Store_cut : Meth K ((gg K ad).cls 1) "cut" ad.a_Store_cut
  F_Store_back : Fun K "back" "Store.back" s_Store_back ad.a_Store_back ad.d_Store_back
  b_Store_back : Binds K ad.d_Store_back ["self", "shot"] []
  me_Store_back : Meth K ((gg K ad).cls 1) "back" ad.a_Store_back
  F_Store_names : Fun K "names" "Store.names" s_Store_names ad.a_Store_names ad.d_Store_names
  b_Store_names : Binds K ad.d_Store_names ["self", "view", "path"] []
  me_Store_names : Meth K ((gg K ad).cls 1) "names" ad.a_Store_names
  F_number_in : Fun K "number_in" "number_in" s_number_in ad.a_number_in ad.d_number_in
  b_number_in : Binds K ad.d_number_in ["pile", "box"] []
  m_number_in : mg "number_in" = some (.ref ad.a_number_in)
  F_path_of : Fun K "path_of" "path_of" s_path_of ad.a_path_of ad.d_path_of
  b_path_of : Binds K ad.d_path_of ["row"] []
  m_path_of : mg "path_of" = some (.ref ad.a_path_of)
  F_differences : Fun K "differences" "differences" s_differences ad.a_differences ad.d_differences
  b_differences : Binds K ad.d_differences ["pile", "one", "other"] []
  m_differences : mg "differences" = some (.ref ad.a_differences)
  F_Store_changes : Fun K "changes" "Store.changes" s_Store_changes ad.a_Store_changes ad.d_Store_changes
  b_Store_changes : Binds K ad.d_Store_changes ["self", "one", "other"] []
  me_Store_changes : Meth K ((gg K ad).cls 1) "changes" ad.a_Store_changes
  F_l_asked : Fun K "_law_asked" "_law_asked" s_l_asked ad.a_l_asked ad.d_l_asked
  b_l_asked : Binds K ad.d_l_asked ["_law_store", "_law_way", "_law_path", "_law_number", "_law_view"] []
  m_l_asked : mg "_law_asked" = some (.ref ad.a_l_asked)
  F_l_told : Fun K "_law_told" "_law_told" s_l_told ad.a_l_told ad.d_l_told
  b_l_told : Binds K ad.d_l_told ["_law_store", "_law_way", "_law_path", "_law_number", "_law_view"] []
  m_l_told : mg "_law_told" = some (.ref ad.a_l_told)
  F_law : Fun K "law" "law" s_law ad.a_law ad.d_law
  b_law : Binds K ad.d_law ["_law_script"] []
  m_law : mg "law" = some (.ref ad.a_law)
  m_Pile : mg "Pile" = some (.ref ((gg K ad).cls 0))
  cl_Pile : Cls K ((gg K ad).cls 0)
  mk_Pile : Mk K ((gg K ad).cls 0) ad.a_Pile_init
  na_boxes : NoAttr K ((gg K ad).cls 0) "boxes"
  na_counts : NoAttr K ((gg K ad).cls 0) "counts"
  na_made : NoAttr K ((gg K ad).cls 0) "made"
  m_Store : mg "Store" = some (.ref ((gg K ad).cls 1))
  cl_Store : Cls K ((gg K ad).cls 1)
  mk_Store : Mk K ((gg K ad).cls 1) ad.a_Store_init
  na_pile : NoAttr K ((gg K ad).cls 1) "pile"
  na_live : NoAttr K ((gg K ad).cls 1) "live"
  na_shots : NoAttr K ((gg K ad).cls 1) "shots"
  na_taken : NoAttr K ((gg K ad).cls 1) "taken"
  n_ValueError : mg "ValueError" = none
  n_abs : mg "abs" = none
  n_bool : mg "bool" = none
  n_int : mg "int" = none
  n_isinstance : mg "isinstance" = none
  n_len : mg "len" = none
  n_list : mg "list" = none
  n_max : mg "max" = none
  n_range : mg "range" = none
  n_sorted : mg "sorted" = none
  n_str : mg "str" = none
  n_tuple : mg "tuple" = none
  m_SnapError : mg "SnapError" = some (.ref ad.x_SnapError)
  x_SnapError : PySem.W.excIn K ad.x_SnapError [.type "ValueError", .type "Exception", .type "BaseException", .type "object"] "ValueError.__new__" = true
  k_SnapError : PySem.W.keepIn K (.ref ad.x_SnapError) = true
  bs_SnapError : PySem.W.subIn K (.ref ad.x_SnapError) (.type "BaseException") = some true
  ty_SnapError : PySem.W.typeIn K (.ref ad.x_SnapError) = some (.type "type")
  ic_SnapError : PySem.W.isClsIn K ad.x_SnapError = true
  hd_SnapError : PySem.W.hasDictIn K ad.x_SnapError = true
  ec_SnapError : ExcC K ad.x_SnapError
  vs_SnapError : PySem.W.subIn K (.ref ad.x_SnapError) (.type "ValueError") = some true
  m_BadPath : mg "BadPath" = some (.ref ad.x_BadPath)
  x_BadPath : PySem.W.excIn K ad.x_BadPath [.type "ValueError", .type "Exception", .type "BaseException", .type "object"] "ValueError.__new__" = true
  k_BadPath : PySem.W.keepIn K (.ref ad.x_BadPath) = true
  bs_BadPath : PySem.W.subIn K (.ref ad.x_BadPath) (.type "BaseException") = some true
  ty_BadPath : PySem.W.typeIn K (.ref ad.x_BadPath) = some (.type "type")
  ic_BadPath : PySem.W.isClsIn K ad.x_BadPath = true
  hd_BadPath : PySem.W.hasDictIn K ad.x_BadPath = true
  ec_BadPath : ExcC K ad.x_BadPath
  vs_BadPath : PySem.W.subIn K (.ref ad.x_BadPath) (.type "ValueError") = some true
  m_BadNumber : mg "BadNumber" = some (.ref ad.x_BadNumber)
  x_BadNumber : PySem.W.excIn K ad.x_BadNumber [.type "ValueError", .type "Exception", .type "BaseException", .type "object"] "ValueError.__new__" = true
  k_BadNumber : PySem.W.keepIn K (.ref ad.x_BadNumber) = true
  bs_BadNumber : PySem.W.subIn K (.ref ad.x_BadNumber) (.type "BaseException") = some true
  ty_BadNumber : PySem.W.typeIn K (.ref ad.x_BadNumber) = some (.type "type")
  ic_BadNumber : PySem.W.isClsIn K ad.x_BadNumber = true
  hd_BadNumber : PySem.W.hasDictIn K ad.x_BadNumber = true
  ec_BadNumber : ExcC K ad.x_BadNumber
  vs_BadNumber : PySem.W.subIn K (.ref ad.x_BadNumber) (.type "ValueError") = some true
  m_Nothing : mg "Nothing" = some (.ref ad.x_Nothing)
  x_Nothing : PySem.W.excIn K ad.x_Nothing [.type "ValueError", .type "Exception", .type "BaseException", .type "object"] "ValueError.__new__" = true
  k_Nothing : PySem.W.keepIn K (.ref ad.x_Nothing) = true
  bs_Nothing : PySem.W.subIn K (.ref ad.x_Nothing) (.type "BaseException") = some true
  ty_Nothing : PySem.W.typeIn K (.ref ad.x_Nothing) = some (.type "type")
  ic_Nothing : PySem.W.isClsIn K ad.x_Nothing = true
  hd_Nothing : PySem.W.hasDictIn K ad.x_Nothing = true
  ec_Nothing : ExcC K ad.x_Nothing
  vs_Nothing : PySem.W.subIn K (.ref ad.x_Nothing) (.type "ValueError") = some true
  m_LeafThere : mg "LeafThere" = some (.ref ad.x_LeafThere)
  x_LeafThere : PySem.W.excIn K ad.x_LeafThere [.type "ValueError", .type "Exception", .type "BaseException", .type "object"] "ValueError.__new__" = true
  k_LeafThere : PySem.W.keepIn K (.ref ad.x_LeafThere) = true
  bs_LeafThere : PySem.W.subIn K (.ref ad.x_LeafThere) (.type "BaseException") = some true
  ty_LeafThere : PySem.W.typeIn K (.ref ad.x_LeafThere) = some (.type "type")
  ic_LeafThere : PySem.W.isClsIn K ad.x_LeafThere = true
  hd_LeafThere : PySem.W.hasDictIn K ad.x_LeafThere = true
  ec_LeafThere : ExcC K ad.x_LeafThere
  vs_LeafThere : PySem.W.subIn K (.ref ad.x_LeafThere) (.type "ValueError") = some true
  m_BranchThere : mg "BranchThere" = some (.ref ad.x_BranchThere)
  x_BranchThere : PySem.W.excIn K ad.x_BranchThere [.type "ValueError", .type "Exception", .type "BaseException", .type "object"] "ValueError.__new__" = true
  k_BranchThere : PySem.W.keepIn K (.ref ad.x_BranchThere) = true
  bs_BranchThere : PySem.W.subIn K (.ref ad.x_BranchThere) (.type "BaseException") = some true
  ty_BranchThere : PySem.W.typeIn K (.ref ad.x_BranchThere) = some (.type "type")
  ic_BranchThere : PySem.W.isClsIn K ad.x_BranchThere = true
  hd_BranchThere : PySem.W.hasDictIn K ad.x_BranchThere = true
  ec_BranchThere : ExcC K ad.x_BranchThere
  vs_BranchThere : PySem.W.subIn K (.ref ad.x_BranchThere) (.type "ValueError") = some true
  m_NoShot : mg "NoShot" = some (.ref ad.x_NoShot)
  x_NoShot : PySem.W.excIn K ad.x_NoShot [.type "ValueError", .type "Exception", .type "BaseException", .type "object"] "ValueError.__new__" = true
  k_NoShot : PySem.W.keepIn K (.ref ad.x_NoShot) = true
  bs_NoShot : PySem.W.subIn K (.ref ad.x_NoShot) (.type "BaseException") = some true
  ty_NoShot : PySem.W.typeIn K (.ref ad.x_NoShot) = some (.type "type")
  ic_NoShot : PySem.W.isClsIn K ad.x_NoShot = true
  hd_NoShot : PySem.W.hasDictIn K ad.x_NoShot = true
  ec_NoShot : ExcC K ad.x_NoShot
  vs_NoShot : PySem.W.subIn K (.ref ad.x_NoShot) (.type "ValueError") = some true
  m_NoBox : mg "NoBox" = some (.ref ad.x_NoBox)
  x_NoBox : PySem.W.excIn K ad.x_NoBox [.type "ValueError", .type "Exception", .type "BaseException", .type "object"] "ValueError.__new__" = true
  k_NoBox : PySem.W.keepIn K (.ref ad.x_NoBox) = true
  bs_NoBox : PySem.W.subIn K (.ref ad.x_NoBox) (.type "BaseException") = some true
  ty_NoBox : PySem.W.typeIn K (.ref ad.x_NoBox) = some (.type "type")
  ic_NoBox : PySem.W.isClsIn K ad.x_NoBox = true
  hd_NoBox : PySem.W.hasDictIn K ad.x_NoBox = true
  ec_NoBox : ExcC K ad.x_NoBox
  vs_NoBox : PySem.W.subIn K (.ref ad.x_NoBox) (.type "ValueError") = some true
  su_BadNumber_BadNumber : PySem.W.subIn K (.ref ad.x_BadNumber) (.ref ad.x_BadNumber) = some true
  su_BadNumber_BadPath : PySem.W.subIn K (.ref ad.x_BadNumber) (.ref ad.x_BadPath) = some false
  su_BadNumber_BranchThere : PySem.W.subIn K (.ref ad.x_BadNumber) (.ref ad.x_BranchThere) = some false
  su_BadNumber_LeafThere : PySem.W.subIn K (.ref ad.x_BadNumber) (.ref ad.x_LeafThere) = some false
  su_BadNumber_NoBox : PySem.W.subIn K (.ref ad.x_BadNumber) (.ref ad.x_NoBox) = some false
  su_BadNumber_NoShot : PySem.W.subIn K (.ref ad.x_BadNumber) (.ref ad.x_NoShot) = some false
  su_BadNumber_Nothing : PySem.W.subIn K (.ref ad.x_BadNumber) (.ref ad.x_Nothing) = some false
  su_BadNumber_SnapError : PySem.W.subIn K (.ref ad.x_BadNumber) (.ref ad.x_SnapError) = some true
  su_BadPath_BadNumber : PySem.W.subIn K (.ref ad.x_BadPath) (.ref ad.x_BadNumber) = some false
  su_BadPath_BadPath : PySem.W.subIn K (.ref ad.x_BadPath) (.ref ad.x_BadPath) = some true
  su_BadPath_BranchThere : PySem.W.subIn K (.ref ad.x_BadPath) (.ref ad.x_BranchThere) = some false
  su_BadPath_LeafThere : PySem.W.subIn K (.ref ad.x_BadPath) (.ref ad.x_LeafThere) = some false
  su_BadPath_NoBox : PySem.W.subIn K (.ref ad.x_BadPath) (.ref ad.x_NoBox) = some false
  su_BadPath_NoShot : PySem.W.subIn K (.ref ad.x_BadPath) (.ref ad.x_NoShot) = some false
  su_BadPath_Nothing : PySem.W.subIn K (.ref ad.x_BadPath) (.ref ad.x_Nothing) = some false
  su_BadPath_SnapError : PySem.W.subIn K (.ref ad.x_BadPath) (.ref ad.x_SnapError) = some true
  su_BranchThere_BadNumber : PySem.W.subIn K (.ref ad.x_BranchThere) (.ref ad.x_BadNumber) = some false
  su_BranchThere_BadPath : PySem.W.subIn K (.ref ad.x_BranchThere) (.ref ad.x_BadPath) = some false
  su_BranchThere_BranchThere : PySem.W.subIn K (.ref ad.x_BranchThere) (.ref ad.x_BranchThere) = some true
  su_BranchThere_LeafThere : PySem.W.subIn K (.ref ad.x_BranchThere) (.ref ad.x_LeafThere) = some false
  su_BranchThere_NoBox : PySem.W.subIn K (.ref ad.x_BranchThere) (.ref ad.x_NoBox) = some false
  su_BranchThere_NoShot : PySem.W.subIn K (.ref ad.x_BranchThere) (.ref ad.x_NoShot) = some false
  su_BranchThere_Nothing : PySem.W.subIn K (.ref ad.x_BranchThere) (.ref ad.x_Nothing) = some false
  su_BranchThere_SnapError : PySem.W.subIn K (.ref ad.x_BranchThere) (.ref ad.x_SnapError) = some true
  su_LeafThere_BadNumber : PySem.W.subIn K (.ref ad.x_LeafThere) (.ref ad.x_BadNumber) = some false
  su_LeafThere_BadPath : PySem.W.subIn K (.ref ad.x_LeafThere) (.ref ad.x_BadPath) = some false
  su_LeafThere_BranchThere : PySem.W.subIn K (.ref ad.x_LeafThere) (.ref ad.x_BranchThere) = some false
  su_LeafThere_LeafThere : PySem.W.subIn K (.ref ad.x_LeafThere) (.ref ad.x_LeafThere) = some true
  su_LeafThere_NoBox : PySem.W.subIn K (.ref ad.x_LeafThere) (.ref ad.x_NoBox) = some false
  su_LeafThere_NoShot : PySem.W.subIn K (.ref ad.x_LeafThere) (.ref ad.x_NoShot) = some false
  su_LeafThere_Nothing : PySem.W.subIn K (.ref ad.x_LeafThere) (.ref ad.x_Nothing) = some false
  su_LeafThere_SnapError : PySem.W.subIn K (.ref ad.x_LeafThere) (.ref ad.x_SnapError) = some true
  su_NoBox_BadNumber : PySem.W.subIn K (.ref ad.x_NoBox) (.ref ad.x_BadNumber) = some false
  su_NoBox_BadPath : PySem.W.subIn K (.ref ad.x_NoBox) (.ref ad.x_BadPath) = some false
  su_NoBox_BranchThere : PySem.W.subIn K (.ref ad.x_NoBox) (.ref ad.x_BranchThere) = some false
  su_NoBox_LeafThere : PySem.W.subIn K (.ref ad.x_NoBox) (.ref ad.x_LeafThere) = some false
  su_NoBox_NoBox : PySem.W.subIn K (.ref ad.x_NoBox) (.ref ad.x_NoBox) = some true
  su_NoBox_NoShot : PySem.W.subIn K (.ref ad.x_NoBox) (.ref ad.x_NoShot) = some false
  su_NoBox_Nothing : PySem.W.subIn K (.ref ad.x_NoBox) (.ref ad.x_Nothing) = some false
  su_NoBox_SnapError : PySem.W.subIn K (.ref ad.x_NoBox) (.ref ad.x_SnapError) = some true
  su_NoShot_BadNumber : PySem.W.subIn K (.ref ad.x_NoShot) (.ref ad.x_BadNumber) = some false
  su_NoShot_BadPath : PySem.W.subIn K (.ref ad.x_NoShot) (.ref ad.x_BadPath) = some false
  su_NoShot_BranchThere : PySem.W.subIn K (.ref ad.x_NoShot) (.ref ad.x_BranchThere) = some false
  su_NoShot_LeafThere : PySem.W.subIn K (.ref ad.x_NoShot) (.ref ad.x_LeafThere) = some false
  su_NoShot_NoBox : PySem.W.subIn K (.ref ad.x_NoShot) (.ref ad.x_NoBox) = some false
  su_NoShot_NoShot : PySem.W.subIn K (.ref ad.x_NoShot) (.ref ad.x_NoShot) = some true
  su_NoShot_Nothing : PySem.W.subIn K (.ref ad.x_NoShot) (.ref ad.x_Nothing) = some false
  su_NoShot_SnapError : PySem.W.subIn K (.ref ad.x_NoShot) (.ref ad.x_SnapError) = some true
  su_Nothing_BadNumber : PySem.W.subIn K (.ref ad.x_Nothing) (.ref ad.x_BadNumber) = some false
  su_Nothing_BadPath : PySem.W.subIn K (.ref ad.x_Nothing) (.ref ad.x_BadPath) = some false
  su_Nothing_BranchThere : PySem.W.subIn K (.ref ad.x_Nothing) (.ref ad.x_BranchThere) = some false
  su_Nothing_LeafThere : PySem.W.subIn K (.ref ad.x_Nothing) (.ref ad.x_LeafThere) = some false
  su_Nothing_NoBox : PySem.W.subIn K (.ref ad.x_Nothing) (.ref ad.x_NoBox) = some false
  su_Nothing_NoShot : PySem.W.subIn K (.ref ad.x_Nothing) (.ref ad.x_NoShot) = some false
  su_Nothing_Nothing : PySem.W.subIn K (.ref ad.x_Nothing) (.ref ad.x_Nothing) = some true
  su_Nothing_SnapError : PySem.W.subIn K (.ref ad.x_Nothing) (.ref ad.x_SnapError) = some true
  g_BOUND : ∃ t, mg "BOUND" = some (.int 1000000000000000000000000000000 t)
  g_LETTERS : ∃ t, mg "LETTERS" = some (.str "abcdefghijklmnopqrstuvwxyz" t)
  g_MOST_LETTERS : ∃ t, mg "MOST_LETTERS" = some (.int 8 t)
  g_MOST_NAMES : ∃ t, mg "MOST_NAMES" = some (.int 8 t)
theorem nd_0 : (namesC 0).Nodup := by decide +kernel
theorem ln_0 : (namesC 0).length < 1000 := by decide +kernel
theorem nd_1 : (namesC 1).Nodup := by decide +kernel
theorem ln_1 : (namesC 1).length < 1000 := by decide +kernel
theorem no_need : ("need" : Str) ∉ namesC 0 := by decide +kernel
theorem no_fresh : ("fresh" : Str) ∉ namesC 0 := by decide +kernel
theorem no_leaf : ("leaf" : Str) ∉ namesC 0 := by decide +kernel
theorem no_branch : ("branch" : Str) ∉ namesC 0 := by decide +kernel
theorem no_content : ("content" : Str) ∉ namesC 0 := by decide +kernel
theorem no_hold : ("hold" : Str) ∉ namesC 0 := by decide +kernel
theorem no_holders : ("holders" : Str) ∉ namesC 0 := by decide +kernel
theorem no_kept : ("kept" : Str) ∉ namesC 0 := by decide +kernel
theorem no_let_go : ("let_go" : Str) ∉ namesC 0 := by decide +kernel
theorem no_top : ("top" : Str) ∉ namesC 1 := by decide +kernel
theorem no_turned : ("turned" : Str) ∉ namesC 1 := by decide +kernel
theorem no_put : ("put" : Str) ∉ namesC 1 := by decide +kernel
theorem no_cut : ("cut" : Str) ∉ namesC 1 := by decide +kernel
theorem no_snap : ("snap" : Str) ∉ namesC 1 := by decide +kernel
theorem no_drop : ("drop" : Str) ∉ namesC 1 := by decide +kernel
theorem no_back : ("back" : Str) ∉ namesC 1 := by decide +kernel
theorem no_shot_numbers : ("shot_numbers" : Str) ∉ namesC 1 := by decide +kernel
theorem no_kind : ("kind" : Str) ∉ namesC 1 := by decide +kernel
theorem no_value : ("value" : Str) ∉ namesC 1 := by decide +kernel
theorem no_names : ("names" : Str) ∉ namesC 1 := by decide +kernel
theorem no_changes : ("changes" : Str) ∉ namesC 1 := by decide +kernel
section
variable {P : Program} {w : World} {K : PySem.W.Frag} {mg : Str → Option Value} {base : Heap} {ad : Ad}
theorem sc_l_word_by : FnScope nm_l_word_by ["_law_cell"] (defScope s_l_word_by) := ⟨rfl, rfl, rfl, by decide +kernel, rfl, by decide +kernel, by decide +kernel⟩
theorem ok_l_word_by (T : Txt K mg ad) : FnOk P w K mg base (L2N.CX P w) 1 ad.a_l_word_by ad.d_l_word_by ["_law_cell"] (spM (gg K ad) 1 m_l_word_by) := by
  refine fn_ok (G := gg K ad) (body := bd_l_word_by) T.F_l_word_by sc_l_word_by rfl rfl rfl (fun cdv A outer s H E hr => ?_)
  have nd := sc_l_word_by.nd
  have hu := hu_of hr
  have hu64 := hr.units
  have tk : L2N.Takes (cx P w K mg base nm_l_word_by "_law_word_by" s_l_word_by ad.a_l_word_by cdv A outer s H E) (We E) := L2N.takes_of rfl rfl rfl rfl
  have pas : PassesOwn (model P w) (cx P w K mg base nm_l_word_by "_law_word_by" s_l_word_by ad.a_l_word_by cdv A outer s H E).A (cx P w K mg base nm_l_word_by "_law_word_by" s_l_word_by ad.a_l_word_by cdv A outer s H E).env (cx P w K mg base nm_l_word_by "_law_word_by" s_l_word_by ad.a_l_word_by cdv A outer s H E).xe := passes_of rfl
  unfold bd_l_word_by
  unfold le_l_word_by_1
  exact (mss_cons (ms_set (i := 1) (ps_set nd rfl (Or.inr rfl) me_str))
    (mss_one (ms_ret (me_join rfl me_str (me_lc (j := 2) rfl nd (mi_range1 rfl T.n_range (ma_cons (me_bin modD_s op_mod (me_var (pv 0)) me_int) ma_nil)) (blkOk_by (N := nm_l_word_by) (sc := defScope s_l_word_by) (own := [("_law_k", 2)]) (by decide +kernel)) (fun _ _ _ _ _ => pg_name (i := 2) nd rfl (Or.inl rfl)) (fun _ _ _ _ _ => mts_nil) (fun _ _ _ _ _ => (me_ix rfl (me_var (pv 1)) (me_bin modD_s op_mod (me_bin addD_s op_addX (me_bin fdivD_s op_fdiv (me_var (pv 0)) me_int) (me_bin mulD_s op_mulX' (me_var (pv 2)) (me_bin addD_s op_addX me_int (me_bin modD_s op_mod (me_bin fdivD_s op_fdiv (me_var (pv 0)) me_int) me_int)))) me_int) (fun _ _ => rfl))))))))
theorem sc_l_paths : FnScope nm_l_paths ["_law_word"] (defScope s_l_paths) := ⟨rfl, rfl, rfl, by decide +kernel, rfl, by decide +kernel, by decide +kernel⟩
theorem ok_l_paths (T : Txt K mg ad) : FnOk P w K mg base (L2N.CX P w) 1 ad.a_l_paths ad.d_l_paths ["_law_word"] (spM (gg K ad) 1 m_l_paths) := by
  refine fn_ok (G := gg K ad) (body := bd_l_paths) T.F_l_paths sc_l_paths rfl rfl rfl (fun cdv A outer s H E hr => ?_)
  have nd := sc_l_paths.nd
  have hu := hu_of hr
  have hu64 := hr.units
  have tk : L2N.Takes (cx P w K mg base nm_l_paths "_law_paths" s_l_paths ad.a_l_paths cdv A outer s H E) (We E) := L2N.takes_of rfl rfl rfl rfl
  have pas : PassesOwn (model P w) (cx P w K mg base nm_l_paths "_law_paths" s_l_paths ad.a_l_paths cdv A outer s H E).A (cx P w K mg base nm_l_paths "_law_paths" s_l_paths ad.a_l_paths cdv A outer s H E).env (cx P w K mg base nm_l_paths "_law_paths" s_l_paths ad.a_l_paths cdv A outer s H E).xe := passes_of rfl
  unfold bd_l_paths
  exact (mss_cons (ms_set (i := 1) (ps_set nd rfl (Or.inl rfl) (me_bin addD_s op_addX (me_var (pv 0)) me_str)))
    (mss_cons (ms_set (i := 2) (ps_set nd rfl (Or.inl rfl) (me_bin addD_s op_addX (me_var (pv 0)) me_str)))
    (mss_cons (ms_set (i := 3) (ps_set nd rfl (Or.inl rfl) (me_bin addD_s op_addX (me_var (pv 0)) me_str)))
    (mss_cons (ms_set (i := 4) (ps_set nd rfl (Or.inl rfl) (me_lst (ma_cons (me_lst (ma_cons (me_var (pv 1)) ma_nil)) (ma_cons (me_lst (ma_cons (me_var (pv 1)) (ma_cons (me_var (pv 2)) ma_nil))) (ma_cons (me_lst (ma_cons (me_var (pv 3)) ma_nil)) (ma_cons (me_lst (ma_cons (me_var (pv 3)) (ma_cons (me_var (pv 1)) ma_nil))) (ma_cons (me_lst (ma_cons (me_var (pv 3)) (ma_cons (me_var (pv 2)) (ma_cons (me_var (pv 1)) ma_nil)))) (ma_cons (me_lst (ma_cons (me_var (pv 2)) ma_nil)) (ma_cons (me_lst (ma_cons (me_var (pv 1)) (ma_cons (me_var (pv 3)) ma_nil))) (ma_cons (me_lst (ma_cons (me_var (pv 1)) (ma_cons (me_var (pv 2)) (ma_cons (me_var (pv 2)) ma_nil)))) (ma_cons (me_lst ma_nil) ma_nil))))))))))))
    (mss_cons (ms_set (i := 5) (ps_set nd rfl (Or.inl rfl) (me_lst (ma_cons me_str (ma_cons me_non (ma_cons (me_lst (ma_cons me_str ma_nil)) (ma_cons (me_lst (ma_cons (me_var (pv 1)) (ma_cons me_str ma_nil))) (ma_cons (me_bin mulD_s op_mulX' (me_lst (ma_cons (me_var (pv 1)) ma_nil)) me_int) (ma_cons (me_lst (ma_cons (me_var (pv 1)) (ma_cons me_int ma_nil))) (ma_cons (me_lst (ma_cons (me_bin addD_s op_addX (me_var (pv 0)) (me_sl rfl me_str mo_none (mo_some (me_bin subD_s op_sub me_int (me_callB lenD_s call_len rfl T.n_len b_len (ma_cons (me_var (pv 0)) ma_nil)))))) ma_nil)) ma_nil))))))))))
    (mss_one (ms_ret (me_bin addD_s op_addX (me_bin addD_s op_addX (me_var (pv 4)) (me_var (pv 5))) (me_lst (ma_cons me_newK (ma_cons (me_dispV (me_var (pv 1)) me_bl (fun h => pe_disp h (by rfl) (by rfl) (fun z => by cases z) (by decide))) (ma_cons (me_lst (ma_cons me_non ma_nil)) (ma_cons (me_lst (ma_cons (me_var (pv 1)) (ma_cons (me_lst (ma_cons (me_var (pv 2)) ma_nil)) ma_nil))) (ma_cons (me_lst (ma_cons (me_var (pv 1)) (ma_cons me_newK ma_nil))) ma_nil))))))))))))))
theorem sc_Pile_init : FnScope nm_Pile_init ["self"] (defScope s_Pile_init) := ⟨rfl, rfl, rfl, by decide +kernel, rfl, by decide +kernel, by decide +kernel⟩
theorem ok_Pile_init (T : Txt K mg ad) : FnOk P w K mg base (L2N.CX P w) 1 ad.a_Pile_init ad.d_Pile_init ["self"] (spM (gg K ad) 1 m_Pile_init) := by
  refine fn_ok (G := gg K ad) (body := bd_Pile_init) T.F_Pile_init sc_Pile_init rfl rfl rfl (fun cdv A outer s H E hr => ?_)
  have nd := sc_Pile_init.nd
  have hu := hu_of hr
  have hu64 := hr.units
  have tk : L2N.Takes (cx P w K mg base nm_Pile_init "Pile.__init__" s_Pile_init ad.a_Pile_init cdv A outer s H E) (We E) := L2N.takes_of rfl rfl rfl rfl
  have pas : PassesOwn (model P w) (cx P w K mg base nm_Pile_init "Pile.__init__" s_Pile_init ad.a_Pile_init cdv A outer s H E).A (cx P w K mg base nm_Pile_init "Pile.__init__" s_Pile_init ad.a_Pile_init cdv A outer s H E).env (cx P w K mg base nm_Pile_init "Pile.__init__" s_Pile_init ad.a_Pile_init cdv A outer s H E).xe := passes_of rfl
  unfold bd_Pile_init
  exact (mss_cons (ms_fld (C := 0) (i := 0) T.cl_Pile T.na_boxes nd_0 rfl ln_0 (me_var (pv 0)) me_newK rfl)
    (mss_cons (ms_fld (C := 0) (i := 1) T.cl_Pile T.na_counts nd_0 rfl ln_0 (me_var (pv 0)) me_newK rfl)
    (mss_one (ms_fld (C := 0) (i := 2) T.cl_Pile T.na_made nd_0 rfl ln_0 (me_var (pv 0)) me_int rfl))))
theorem sc_Pile_fresh : FnScope nm_Pile_fresh ["self", "content"] (defScope s_Pile_fresh) := ⟨rfl, rfl, rfl, by decide +kernel, rfl, by decide +kernel, by decide +kernel⟩
theorem ok_Pile_fresh (T : Txt K mg ad) : FnOk P w K mg base (L2N.CX P w) 1 ad.a_Pile_fresh ad.d_Pile_fresh ["self", "content"] (spM (gg K ad) 2 m_Pile_fresh) := by
  refine fn_ok (G := gg K ad) (body := bd_Pile_fresh) T.F_Pile_fresh sc_Pile_fresh rfl rfl rfl (fun cdv A outer s H E hr => ?_)
  have nd := sc_Pile_fresh.nd
  have hu := hu_of hr
  have hu64 := hr.units
  have tk : L2N.Takes (cx P w K mg base nm_Pile_fresh "Pile.fresh" s_Pile_fresh ad.a_Pile_fresh cdv A outer s H E) (We E) := L2N.takes_of rfl rfl rfl rfl
  have pas : PassesOwn (model P w) (cx P w K mg base nm_Pile_fresh "Pile.fresh" s_Pile_fresh ad.a_Pile_fresh cdv A outer s H E).A (cx P w K mg base nm_Pile_fresh "Pile.fresh" s_Pile_fresh ad.a_Pile_fresh cdv A outer s H E).env (cx P w K mg base nm_Pile_fresh "Pile.fresh" s_Pile_fresh ad.a_Pile_fresh cdv A outer s H E).xe := passes_of rfl
  unfold bd_Pile_fresh
  exact (mss_cons (ms_fld (C := 0) (i := 2) T.cl_Pile T.na_made nd_0 rfl ln_0 (me_var (pv 0)) (me_bin addD_s op_addX (me_fld (C := 0) (i := 2) T.cl_Pile T.na_made nd_0 rfl (me_var (pv 0))) me_int) rfl)
    (mss_cons (ms_dput hu (me_fld (C := 0) (i := 0) T.cl_Pile T.na_boxes nd_0 rfl (me_var (pv 0))) (me_fld (C := 0) (i := 2) T.cl_Pile T.na_made nd_0 rfl (me_var (pv 0))) (me_var (pv 1)) rfl)
    (mss_cons (ms_dput hu (me_fld (C := 0) (i := 1) T.cl_Pile T.na_counts nd_0 rfl (me_var (pv 0))) (me_fld (C := 0) (i := 2) T.cl_Pile T.na_made nd_0 rfl (me_var (pv 0))) me_int rfl)
    (mss_one (ms_ret (me_fld (C := 0) (i := 2) T.cl_Pile T.na_made nd_0 rfl (me_var (pv 0))))))))
theorem sc_Pile_need : FnScope nm_Pile_need ["self", "box"] (defScope s_Pile_need) := ⟨rfl, rfl, rfl, by decide +kernel, rfl, by decide +kernel, by decide +kernel⟩
theorem ok_Pile_need (T : Txt K mg ad) : FnOk P w K mg base (L2N.CX P w) 1 ad.a_Pile_need ad.d_Pile_need ["self", "box"] (spM (gg K ad) 2 m_Pile_need) := by
  refine fn_ok (G := gg K ad) (body := bd_Pile_need) T.F_Pile_need sc_Pile_need rfl rfl rfl (fun cdv A outer s H E hr => ?_)
  have nd := sc_Pile_need.nd
  have hu := hu_of hr
  have hu64 := hr.units
  have tk : L2N.Takes (cx P w K mg base nm_Pile_need "Pile.need" s_Pile_need ad.a_Pile_need cdv A outer s H E) (We E) := L2N.takes_of rfl rfl rfl rfl
  have pas : PassesOwn (model P w) (cx P w K mg base nm_Pile_need "Pile.need" s_Pile_need ad.a_Pile_need cdv A outer s H E).A (cx P w K mg base nm_Pile_need "Pile.need" s_Pile_need ad.a_Pile_need cdv A outer s H E).env (cx P w K mg base nm_Pile_need "Pile.need" s_Pile_need ad.a_Pile_need cdv A outer s H E).xe := passes_of rfl
  unfold bd_Pile_need
  exact (mss_cons (ms_if (PW.pt (mw_or (mt_not (mt_val (me_isi (T := .int) rfl rfl T.n_isinstance (me_var (pv 1)) (pe_bltn rfl T.n_int b_int rfl)))) (mw_or (mt_val (me_isi (T := .bool) rfl rfl T.n_isinstance (me_var (pv 1)) (pe_bltn rfl T.n_bool b_bool rfl))) (mw_or1 (mt_dnin hu (me_var (pv 1)) (me_fld (C := 0) (i := 0) T.cl_Pile T.na_boxes nd_0 rfl (me_var (pv 0))))))))
    (mss_one (ms_raise (c := 7) rfl tk (L2N.pmk_own PySem.F.excBase_ValueError T.x_NoBox T.m_NoBox T.k_NoBox (raises_own T.bs_NoBox T.ty_NoBox) rfl)))
    mss_nil)
    (mss_one (ms_ret (me_var (pv 1)))))
theorem sc_Pile_hold : FnScope nm_Pile_hold ["self", "box"] (defScope s_Pile_hold) := ⟨rfl, rfl, rfl, by decide +kernel, rfl, by decide +kernel, by decide +kernel⟩
theorem ok_Pile_hold (T : Txt K mg ad) : FnOk P w K mg base (L2N.CX P w) 2 ad.a_Pile_hold ad.d_Pile_hold ["self", "box"] (spM (gg K ad) 2 m_Pile_hold) := by
  refine fn_ok (G := gg K ad) (body := bd_Pile_hold) T.F_Pile_hold sc_Pile_hold rfl rfl rfl (fun cdv A outer s H E hr => ?_)
  have nd := sc_Pile_hold.nd
  have hu := hu_of hr
  have hu64 := hr.units
  have tk : L2N.Takes (cx P w K mg base nm_Pile_hold "Pile.hold" s_Pile_hold ad.a_Pile_hold cdv A outer s H E) (We E) := L2N.takes_of rfl rfl rfl rfl
  have pas : PassesOwn (model P w) (cx P w K mg base nm_Pile_hold "Pile.hold" s_Pile_hold ad.a_Pile_hold cdv A outer s H E).A (cx P w K mg base nm_Pile_hold "Pile.hold" s_Pile_hold ad.a_Pile_hold cdv A outer s H E).env (cx P w K mg base nm_Pile_hold "Pile.hold" s_Pile_hold ad.a_Pile_hold cdv A outer s H E).xe := passes_of rfl
  unfold bd_Pile_hold
  exact (mss_cons (ms_set (i := 2) (ps_set nd rfl (Or.inl rfl) (me_meth (C := 0) (ok_Pile_need T) tk (hr.mono (by decide)) T.b_Pile_need T.cl_Pile T.me_Pile_need no_need (me_var (pv 0)) (ma_cons (me_var (pv 1)) ma_nil))))
    (mss_one (ms_dput hu (me_fld (C := 0) (i := 1) T.cl_Pile T.na_counts nd_0 rfl (me_var (pv 0))) (me_var (pv 2)) (me_bin addD_s op_addX (me_dget hu (me_fld (C := 0) (i := 1) T.cl_Pile T.na_counts nd_0 rfl (me_var (pv 0))) (me_var (pv 2)) (fun _ _ => rfl)) me_int) rfl)))
theorem sc_Pile_branch : FnScope nm_Pile_branch ["self", "rows"] (defScope s_Pile_branch) := ⟨rfl, rfl, rfl, by decide +kernel, rfl, by decide +kernel, by decide +kernel⟩
theorem ok_Pile_branch (T : Txt K mg ad) : FnOk P w K mg base (L2N.CX P w) 3 ad.a_Pile_branch ad.d_Pile_branch ["self", "rows"] (spM (gg K ad) 2 m_Pile_branch) := by
  refine fn_ok (G := gg K ad) (body := bd_Pile_branch) T.F_Pile_branch sc_Pile_branch rfl rfl rfl (fun cdv A outer s H E hr => ?_)
  have nd := sc_Pile_branch.nd
  have hu := hu_of hr
  have hu64 := hr.units
  have tk : L2N.Takes (cx P w K mg base nm_Pile_branch "Pile.branch" s_Pile_branch ad.a_Pile_branch cdv A outer s H E) (We E) := L2N.takes_of rfl rfl rfl rfl
  have pas : PassesOwn (model P w) (cx P w K mg base nm_Pile_branch "Pile.branch" s_Pile_branch ad.a_Pile_branch cdv A outer s H E).A (cx P w K mg base nm_Pile_branch "Pile.branch" s_Pile_branch ad.a_Pile_branch cdv A outer s H E).env (cx P w K mg base nm_Pile_branch "Pile.branch" s_Pile_branch ad.a_Pile_branch cdv A outer s H E).xe := passes_of rfl
  unfold bd_Pile_branch
  unfold lf_Pile_branch_2
  unfold lf_Pile_branch_1
  exact (mss_cons (ms_for pas rfl (mi_seq rfl (me_var (pv 1))) (mg_2 (i := 2) (j := 3) rfl rfl (pg_name nd rfl (Or.inl rfl)) (pg_name nd rfl (Or.inl rfl))) (tg2_s 2 3)
    (mss_one (ms_expr (me_meth (C := 0) (ok_Pile_need T) tk (hr.mono (by decide)) T.b_Pile_need T.cl_Pile T.me_Pile_need no_need (me_var (pv 0)) (ma_cons (me_var (pv 3)) ma_nil)))))
    (mss_cons (ms_for pas rfl (mi_seq rfl (me_var (pv 1))) (mg_2 (i := 2) (j := 3) rfl rfl (pg_name nd rfl (Or.inl rfl)) (pg_name nd rfl (Or.inl rfl))) (tg2_s 2 3)
    (mss_one (ms_expr (me_meth (C := 0) (ok_Pile_hold T) tk (hr.mono (by decide)) T.b_Pile_hold T.cl_Pile T.me_Pile_hold no_hold (me_var (pv 0)) (ma_cons (me_var (pv 3)) ma_nil)))))
    (mss_one (ms_ret (me_meth (C := 0) (ok_Pile_fresh T) tk (hr.mono (by decide)) T.b_Pile_fresh T.cl_Pile T.me_Pile_fresh no_fresh (me_var (pv 0)) (ma_cons (me_tup (ma_cons me_str (ma_cons (me_callTy listD_s call_list_of rfl T.n_list b_list (ma_cons (me_var (pv 1)) ma_nil)) ma_nil))) ma_nil))))))
theorem sc_Store_init : FnScope nm_Store_init ["self"] (defScope s_Store_init) := ⟨rfl, rfl, rfl, by decide +kernel, rfl, by decide +kernel, by decide +kernel⟩
theorem ok_Store_init (T : Txt K mg ad) : FnOk P w K mg base (L2N.CX P w) 4 ad.a_Store_init ad.d_Store_init ["self"] (spM (gg K ad) 1 m_Store_init) := by
  refine fn_ok (G := gg K ad) (body := bd_Store_init) T.F_Store_init sc_Store_init rfl rfl rfl (fun cdv A outer s H E hr => ?_)
  have nd := sc_Store_init.nd
  have hu := hu_of hr
  have hu64 := hr.units
  have tk : L2N.Takes (cx P w K mg base nm_Store_init "Store.__init__" s_Store_init ad.a_Store_init cdv A outer s H E) (We E) := L2N.takes_of rfl rfl rfl rfl
  have pas : PassesOwn (model P w) (cx P w K mg base nm_Store_init "Store.__init__" s_Store_init ad.a_Store_init cdv A outer s H E).A (cx P w K mg base nm_Store_init "Store.__init__" s_Store_init ad.a_Store_init cdv A outer s H E).env (cx P w K mg base nm_Store_init "Store.__init__" s_Store_init ad.a_Store_init cdv A outer s H E).xe := passes_of rfl
  unfold bd_Store_init
  exact (mss_cons (ms_fld (C := 1) (i := 0) T.cl_Store T.na_pile nd_1 rfl ln_1 (me_var (pv 0)) (me_make0 (C := 0) T.mk_Pile (ok_Pile_init T) (hr.mono (by decide)) rfl T.m_Pile T.b_Pile_init) rfl)
    (mss_cons (ms_fld (C := 1) (i := 1) T.cl_Store T.na_live nd_1 rfl ln_1 (me_var (pv 0)) (me_meth (C := 0) (ok_Pile_branch T) tk (hr.mono (by decide)) T.b_Pile_branch T.cl_Pile T.me_Pile_branch no_branch (me_fld (C := 1) (i := 0) T.cl_Store T.na_pile nd_1 rfl (me_var (pv 0))) (ma_cons (me_lst ma_nil) ma_nil)) rfl)
    (mss_cons (ms_expr (me_meth (C := 0) (ok_Pile_hold T) tk (hr.mono (by decide)) T.b_Pile_hold T.cl_Pile T.me_Pile_hold no_hold (me_fld (C := 1) (i := 0) T.cl_Store T.na_pile nd_1 rfl (me_var (pv 0))) (ma_cons (me_fld (C := 1) (i := 1) T.cl_Store T.na_live nd_1 rfl (me_var (pv 0))) ma_nil)))
    (mss_cons (ms_fld (C := 1) (i := 2) T.cl_Store T.na_shots nd_1 rfl ln_1 (me_var (pv 0)) me_newK rfl)
    (mss_one (ms_fld (C := 1) (i := 3) T.cl_Store T.na_taken nd_1 rfl ln_1 (me_var (pv 0)) me_int rfl))))))
theorem sc_is_name : FnScope nm_is_name ["thing"] (defScope s_is_name) := ⟨rfl, rfl, rfl, by decide +kernel, rfl, by decide +kernel, by decide +kernel⟩
theorem ok_is_name (T : Txt K mg ad) : FnOk P w K mg base (L2N.CX P w) 1 ad.a_is_name ad.d_is_name ["thing"] (spM (gg K ad) 1 m_is_name) := by
  refine fn_ok (G := gg K ad) (body := bd_is_name) T.F_is_name sc_is_name rfl rfl rfl (fun cdv A outer s H E hr => ?_)
  have nd := sc_is_name.nd
  have hu := hu_of hr
  have hu64 := hr.units
  have tk : L2N.Takes (cx P w K mg base nm_is_name "is_name" s_is_name ad.a_is_name cdv A outer s H E) (We E) := L2N.takes_of rfl rfl rfl rfl
  have pas : PassesOwn (model P w) (cx P w K mg base nm_is_name "is_name" s_is_name ad.a_is_name cdv A outer s H E).A (cx P w K mg base nm_is_name "is_name" s_is_name ad.a_is_name cdv A outer s H E).env (cx P w K mg base nm_is_name "is_name" s_is_name ad.a_is_name cdv A outer s H E).xe := passes_of rfl
  unfold bd_is_name
  unfold lf_is_name_1
  exact (mss_cons (ms_if (PW.pt (mw_or (mt_not (mt_val (me_isi (T := .str) rfl rfl T.n_isinstance (me_var (pv 0)) (pe_bltn rfl T.n_str b_str rfl)))) (mw_or (mt_cmp eqD_s (op_eqX hu64) (me_var (pv 0)) me_str (nomark _)) (mw_or1 (mt_cmp gtD_s op_gt (me_callB lenD_s call_len rfl T.n_len b_len (ma_cons (me_var (pv 0)) ma_nil)) (me_gint rfl T.g_MOST_LETTERS) (nomark _))))))
    (mss_one (ms_ret me_bl))
    mss_nil)
    (mss_cons (ms_for pas rfl (mi_str (me_var (pv 0))) (pg_name (i := 1) nd rfl (Or.inl rfl)) (tgN_s 1)
    (mss_one (ms_if (mt_cmp ninD_s op_notInX (me_var (pv 1)) (me_gstr rfl T.g_LETTERS) rfl)
    (mss_one (ms_ret me_bl))
    mss_nil)))
    (mss_one (ms_ret me_bl))))
theorem sc_checked : FnScope nm_checked ["path"] (defScope s_checked) := ⟨rfl, rfl, rfl, by decide +kernel, rfl, by decide +kernel, by decide +kernel⟩
theorem ok_checked (T : Txt K mg ad) : FnOk P w K mg base (L2N.CX P w) 2 ad.a_checked ad.d_checked ["path"] (spM (gg K ad) 1 m_checked) := by
  refine fn_ok (G := gg K ad) (body := bd_checked) T.F_checked sc_checked rfl rfl rfl (fun cdv A outer s H E hr => ?_)
  have nd := sc_checked.nd
  have hu := hu_of hr
  have hu64 := hr.units
  have tk : L2N.Takes (cx P w K mg base nm_checked "checked" s_checked ad.a_checked cdv A outer s H E) (We E) := L2N.takes_of rfl rfl rfl rfl
  have pas : PassesOwn (model P w) (cx P w K mg base nm_checked "checked" s_checked ad.a_checked cdv A outer s H E).A (cx P w K mg base nm_checked "checked" s_checked ad.a_checked cdv A outer s H E).env (cx P w K mg base nm_checked "checked" s_checked ad.a_checked cdv A outer s H E).xe := passes_of rfl
  unfold bd_checked
  unfold lf_checked_1
  exact (mss_cons (ms_if (PW.pt (mw_or (mt_not (mt_val (me_isi2 (T := .list) (U := .tuple) rfl rfl T.n_isinstance (me_var (pv 0)) (pe_bltn rfl T.n_list b_list rfl) (pe_bltn rfl T.n_tuple b_tuple rfl)))) (mw_or1 (mt_cmp gtD_s op_gt (me_callB lenD_s call_len rfl T.n_len b_len (ma_cons (me_var (pv 0)) ma_nil)) (me_gint rfl T.g_MOST_NAMES) (nomark _)))))
    (mss_one (ms_raise (c := 1) rfl tk (L2N.pmk_own PySem.F.excBase_ValueError T.x_BadPath T.m_BadPath T.k_BadPath (raises_own T.bs_BadPath T.ty_BadPath) rfl)))
    mss_nil)
    (mss_cons (ms_for pas rfl (mi_seq rfl (me_var (pv 0))) (pg_name (i := 1) nd rfl (Or.inl rfl)) (tgN_s 1)
    (mss_one (ms_if (mt_not (mt_val (me_call (ok_is_name T) tk (hr.mono (by decide)) rfl T.m_is_name T.F_is_name.kp T.b_is_name (ma_cons (me_var (pv 1)) ma_nil))))
    (mss_one (ms_raise (c := 1) rfl tk (L2N.pmk_own PySem.F.excBase_ValueError T.x_BadPath T.m_BadPath T.k_BadPath (raises_own T.bs_BadPath T.ty_BadPath) rfl)))
    mss_nil)))
    (mss_one (ms_ret (me_callTy listD_s call_list_of rfl T.n_list b_list (ma_cons (me_var (pv 0)) ma_nil))))))
theorem sc_Pile_let_go : FnScope nm_Pile_let_go ["self", "box"] (defScope s_Pile_let_go) := ⟨rfl, rfl, rfl, by decide +kernel, rfl, by decide +kernel, by decide +kernel⟩
theorem ok_Pile_let_go (T : Txt K mg ad) : FnOk P w K mg base (L2N.CX P w) 2 ad.a_Pile_let_go ad.d_Pile_let_go ["self", "box"] (spM (gg K ad) 2 m_Pile_let_go) := by
  refine fn_ok (G := gg K ad) (body := bd_Pile_let_go) T.F_Pile_let_go sc_Pile_let_go rfl rfl rfl (fun cdv A outer s H E hr => ?_)
  have nd := sc_Pile_let_go.nd
  have hu := hu_of hr
  have hu64 := hr.units
  have tk : L2N.Takes (cx P w K mg base nm_Pile_let_go "Pile.let_go" s_Pile_let_go ad.a_Pile_let_go cdv A outer s H E) (We E) := L2N.takes_of rfl rfl rfl rfl
  have pas : PassesOwn (model P w) (cx P w K mg base nm_Pile_let_go "Pile.let_go" s_Pile_let_go ad.a_Pile_let_go cdv A outer s H E).A (cx P w K mg base nm_Pile_let_go "Pile.let_go" s_Pile_let_go ad.a_Pile_let_go cdv A outer s H E).env (cx P w K mg base nm_Pile_let_go "Pile.let_go" s_Pile_let_go ad.a_Pile_let_go cdv A outer s H E).xe := passes_of rfl
  unfold bd_Pile_let_go
  unfold lw_Pile_let_go_2
  unfold lf_Pile_let_go_1
  exact (mss_cons (ms_set (i := 2) (ps_set nd rfl (Or.inl rfl) (me_lstN (ma_cons (me_meth (C := 0) (ok_Pile_need T) tk (hr.mono (by decide)) T.b_Pile_need T.cl_Pile T.me_Pile_need no_need (me_var (pv 0)) (ma_cons (me_var (pv 1)) ma_nil)) ma_nil))))
    (mss_cons (ms_set (i := 3) (ps_set nd rfl (Or.inl rfl) me_int))
    (mss_cons (ms_while (n := fuelN) pas (mt_truth rfl (me_var (pv 2)))
    (mss_cons (ms_set (i := 4) (ps_set nd rfl (Or.inl rfl) (me_pop rfl (pe_bm0 PySem.F.plainAttrs_list PySem.F.slot_list_pop PySem.F.type_list_pop mt_pop (me_var (pv 2))))))
    (mss_cons (ms_set (i := 5) (ps_set nd rfl (Or.inl rfl) (me_callB maxD_s (call_max2 rfl) rfl T.n_max b_max (ma_cons me_int (ma_cons (me_bin subD_s op_sub (me_dget2 hu (me_fld (C := 0) (i := 1) T.cl_Pile T.na_counts nd_0 rfl (me_var (pv 0))) (me_var (pv 4)) me_int ⟨rfl, rfl, rfl, rfl⟩) me_int) ma_nil)))))
    (mss_one (ms_if (mt_cmp gtD_s op_gt (me_var (pv 5)) me_int (nomark _))
    (mss_one (ms_dput hu (me_fld (C := 0) (i := 1) T.cl_Pile T.na_counts nd_0 rfl (me_var (pv 0))) (me_var (pv 4)) (me_var (pv 5)) rfl))
    (mss_one (ms_if (mt_din hu (me_var (pv 4)) (me_fld (C := 0) (i := 0) T.cl_Pile T.na_boxes nd_0 rfl (me_var (pv 0))))
    (mss_cons (ms_set (i := 6) (ps_set nd rfl (Or.inl rfl) (me_dpop (me_fld (C := 0) (i := 0) T.cl_Pile T.na_boxes nd_0 rfl (me_var (pv 0))) (me_var (pv 4)) ⟨rfl, rfl, rfl, rfl⟩)))
    (mss_cons (ms_expr (me_dpop (me_fld (C := 0) (i := 1) T.cl_Pile T.na_counts nd_0 rfl (me_var (pv 0))) (me_var (pv 4)) ⟨rfl, rfl, rfl, rfl⟩))
    (mss_cons (ms_set (i := 3) (ps_set nd rfl (Or.inl rfl) (me_bin addD_s op_addX (me_var (pv 3)) me_int)))
    (mss_one (ms_if (mt_cmp eqD_s (op_eqX hu64) (me_ix rfl (me_var (pv 6)) me_int (fun _ _ => rfl)) me_str (nomark _))
    (mss_one (ms_for pas rfl (mi_seq rfl (me_ix rfl (me_var (pv 6)) me_int (fun _ _ => rfl))) (mg_2 (i := 7) (j := 8) rfl rfl (pg_name nd rfl (Or.inl rfl)) (pg_name nd rfl (Or.inl rfl))) (tg2_s 7 8)
    (mss_one (ms_expr (me_app rfl (me_var (pv 2)) (me_var (pv 8)) rfl (fun h => pe_bm PySem.F.plainAttrs_list PySem.F.slot_list_append PySem.F.type_list_append mt_append (me_var (pv 2)) h))))))
    mss_nil)))))
    mss_nil)))))))
    (mss_one (ms_ret (me_var (pv 3)))))))
theorem sc_Store_turned : FnScope nm_Store_turned ["self", "top"] (defScope s_Store_turned) := ⟨rfl, rfl, rfl, by decide +kernel, rfl, by decide +kernel, by decide +kernel⟩
theorem ok_Store_turned (T : Txt K mg ad) : FnOk P w K mg base (L2N.CX P w) 3 ad.a_Store_turned ad.d_Store_turned ["self", "top"] (spM (gg K ad) 2 m_Store_turned) := by
  refine fn_ok (G := gg K ad) (body := bd_Store_turned) T.F_Store_turned sc_Store_turned rfl rfl rfl (fun cdv A outer s H E hr => ?_)
  have nd := sc_Store_turned.nd
  have hu := hu_of hr
  have hu64 := hr.units
  have tk : L2N.Takes (cx P w K mg base nm_Store_turned "Store.turned" s_Store_turned ad.a_Store_turned cdv A outer s H E) (We E) := L2N.takes_of rfl rfl rfl rfl
  have pas : PassesOwn (model P w) (cx P w K mg base nm_Store_turned "Store.turned" s_Store_turned ad.a_Store_turned cdv A outer s H E).A (cx P w K mg base nm_Store_turned "Store.turned" s_Store_turned ad.a_Store_turned cdv A outer s H E).env (cx P w K mg base nm_Store_turned "Store.turned" s_Store_turned ad.a_Store_turned cdv A outer s H E).xe := passes_of rfl
  unfold bd_Store_turned
  exact (mss_cons (ms_expr (me_meth (C := 0) (ok_Pile_hold T) tk (hr.mono (by decide)) T.b_Pile_hold T.cl_Pile T.me_Pile_hold no_hold (me_fld (C := 1) (i := 0) T.cl_Store T.na_pile nd_1 rfl (me_var (pv 0))) (ma_cons (me_var (pv 1)) ma_nil)))
    (mss_cons (ms_set (i := 2) (ps_set nd rfl (Or.inl rfl) (me_fld (C := 1) (i := 1) T.cl_Store T.na_live nd_1 rfl (me_var (pv 0)))))
    (mss_cons (ms_fld (C := 1) (i := 1) T.cl_Store T.na_live nd_1 rfl ln_1 (me_var (pv 0)) (me_var (pv 1)) rfl)
    (mss_one (ms_ret (me_meth (C := 0) (ok_Pile_let_go T) tk (hr.mono (by decide)) T.b_Pile_let_go T.cl_Pile T.me_Pile_let_go no_let_go (me_fld (C := 1) (i := 0) T.cl_Store T.na_pile nd_1 rfl (me_var (pv 0))) (ma_cons (me_var (pv 2)) ma_nil)))))))
theorem sc_box_of : FnScope nm_box_of ["rows", "name"] (defScope s_box_of) := ⟨rfl, rfl, rfl, by decide +kernel, rfl, by decide +kernel, by decide +kernel⟩
theorem ok_box_of (T : Txt K mg ad) : FnOk P w K mg base (L2N.CX P w) 1 ad.a_box_of ad.d_box_of ["rows", "name"] (spM (gg K ad) 2 m_box_of) := by
  refine fn_ok (G := gg K ad) (body := bd_box_of) T.F_box_of sc_box_of rfl rfl rfl (fun cdv A outer s H E hr => ?_)
  have nd := sc_box_of.nd
  have hu := hu_of hr
  have hu64 := hr.units
  have tk : L2N.Takes (cx P w K mg base nm_box_of "box_of" s_box_of ad.a_box_of cdv A outer s H E) (We E) := L2N.takes_of rfl rfl rfl rfl
  have pas : PassesOwn (model P w) (cx P w K mg base nm_box_of "box_of" s_box_of ad.a_box_of cdv A outer s H E).A (cx P w K mg base nm_box_of "box_of" s_box_of ad.a_box_of cdv A outer s H E).env (cx P w K mg base nm_box_of "box_of" s_box_of ad.a_box_of cdv A outer s H E).xe := passes_of rfl
  unfold bd_box_of
  unfold lf_box_of_1
  exact (mss_cons (ms_for pas rfl (mi_seq rfl (me_var (pv 0))) (mg_2 (i := 2) (j := 3) rfl rfl (pg_name nd rfl (Or.inl rfl)) (pg_name nd rfl (Or.inl rfl))) (tg2_s 2 3)
    (mss_one (ms_if (mt_cmp eqD_s (op_eqX hu64) (me_var (pv 2)) (me_var (pv 1)) (nomark _))
    (mss_one (ms_ret (me_var (pv 3))))
    mss_nil)))
    (mss_one (ms_ret me_non)))
theorem sc_Pile_content : FnScope nm_Pile_content ["self", "box"] (defScope s_Pile_content) := ⟨rfl, rfl, rfl, by decide +kernel, rfl, by decide +kernel, by decide +kernel⟩
theorem ok_Pile_content (T : Txt K mg ad) : FnOk P w K mg base (L2N.CX P w) 2 ad.a_Pile_content ad.d_Pile_content ["self", "box"] (spM (gg K ad) 2 m_Pile_content) := by
  refine fn_ok (G := gg K ad) (body := bd_Pile_content) T.F_Pile_content sc_Pile_content rfl rfl rfl (fun cdv A outer s H E hr => ?_)
  have nd := sc_Pile_content.nd
  have hu := hu_of hr
  have hu64 := hr.units
  have tk : L2N.Takes (cx P w K mg base nm_Pile_content "Pile.content" s_Pile_content ad.a_Pile_content cdv A outer s H E) (We E) := L2N.takes_of rfl rfl rfl rfl
  have pas : PassesOwn (model P w) (cx P w K mg base nm_Pile_content "Pile.content" s_Pile_content ad.a_Pile_content cdv A outer s H E).A (cx P w K mg base nm_Pile_content "Pile.content" s_Pile_content ad.a_Pile_content cdv A outer s H E).env (cx P w K mg base nm_Pile_content "Pile.content" s_Pile_content ad.a_Pile_content cdv A outer s H E).xe := passes_of rfl
  unfold bd_Pile_content
  exact (mss_cons (ms_set (i := 2) (ps_set nd rfl (Or.inl rfl) (me_dget hu (me_fld (C := 0) (i := 0) T.cl_Pile T.na_boxes nd_0 rfl (me_var (pv 0))) (me_meth (C := 0) (ok_Pile_need T) tk (hr.mono (by decide)) T.b_Pile_need T.cl_Pile T.me_Pile_need no_need (me_var (pv 0)) (ma_cons (me_var (pv 1)) ma_nil)) (fun _ _ => rfl))))
    (mss_cons (ms_if (mt_cmp eqD_s (op_eqX hu64) (me_ix rfl (me_var (pv 2)) me_int (fun _ _ => rfl)) me_str (nomark _))
    (mss_one (ms_ret (me_var (pv 2))))
    mss_nil)
    (mss_one (ms_ret (me_tup (ma_cons me_str (ma_cons (me_callTy listD_s call_list_of rfl T.n_list b_list (ma_cons (me_ix rfl (me_var (pv 2)) me_int (fun _ _ => rfl)) ma_nil)) ma_nil)))))))
theorem sc_rows_in : FnScope nm_rows_in ["pile", "box"] (defScope s_rows_in) := ⟨rfl, rfl, rfl, by decide +kernel, rfl, by decide +kernel, by decide +kernel⟩
theorem ok_rows_in (T : Txt K mg ad) : FnOk P w K mg base (L2N.CX P w) 3 ad.a_rows_in ad.d_rows_in ["pile", "box"] (spM (gg K ad) 2 m_rows_in) := by
  refine fn_ok (G := gg K ad) (body := bd_rows_in) T.F_rows_in sc_rows_in rfl rfl rfl (fun cdv A outer s H E hr => ?_)
  have nd := sc_rows_in.nd
  have hu := hu_of hr
  have hu64 := hr.units
  have tk : L2N.Takes (cx P w K mg base nm_rows_in "rows_in" s_rows_in ad.a_rows_in cdv A outer s H E) (We E) := L2N.takes_of rfl rfl rfl rfl
  have pas : PassesOwn (model P w) (cx P w K mg base nm_rows_in "rows_in" s_rows_in ad.a_rows_in cdv A outer s H E).A (cx P w K mg base nm_rows_in "rows_in" s_rows_in ad.a_rows_in cdv A outer s H E).env (cx P w K mg base nm_rows_in "rows_in" s_rows_in ad.a_rows_in cdv A outer s H E).xe := passes_of rfl
  unfold bd_rows_in
  exact (mss_cons (ms_if (mt_cmp isD_s op_isN (me_var (pv 1)) me_non (nomark _))
    (mss_one (ms_ret (me_lst ma_nil)))
    mss_nil)
    (mss_cons (ms_set (i := 2) (ps_set nd rfl (Or.inl rfl) (me_meth (C := 0) (ok_Pile_content T) tk (hr.mono (by decide)) T.b_Pile_content T.cl_Pile T.me_Pile_content no_content (me_var (pv 0)) (ma_cons (me_var (pv 1)) ma_nil))))
    (mss_cons (ms_if (mt_cmp eqD_s (op_eqX hu64) (me_ix rfl (me_var (pv 2)) me_int (fun _ _ => rfl)) me_str (nomark _))
    (mss_one (ms_ret (me_ix rfl (me_var (pv 2)) me_int (fun _ _ => rfl))))
    mss_nil)
    (mss_one (ms_ret (me_lst ma_nil))))))
theorem sc_found : FnScope nm_found ["pile", "top", "path"] (defScope s_found) := ⟨rfl, rfl, rfl, by decide +kernel, rfl, by decide +kernel, by decide +kernel⟩
theorem ok_found (T : Txt K mg ad) : FnOk P w K mg base (L2N.CX P w) 4 ad.a_found ad.d_found ["pile", "top", "path"] (spM (gg K ad) 3 m_found) := by
  refine fn_ok (G := gg K ad) (body := bd_found) T.F_found sc_found rfl rfl rfl (fun cdv A outer s H E hr => ?_)
  have nd := sc_found.nd
  have hu := hu_of hr
  have hu64 := hr.units
  have tk : L2N.Takes (cx P w K mg base nm_found "found" s_found ad.a_found cdv A outer s H E) (We E) := L2N.takes_of rfl rfl rfl rfl
  have pas : PassesOwn (model P w) (cx P w K mg base nm_found "found" s_found ad.a_found cdv A outer s H E).A (cx P w K mg base nm_found "found" s_found ad.a_found cdv A outer s H E).env (cx P w K mg base nm_found "found" s_found ad.a_found cdv A outer s H E).xe := passes_of rfl
  unfold bd_found
  unfold lf_found_1
  exact (mss_cons (ms_set (i := 3) (ps_set nd rfl (Or.inl rfl) (me_var (pv 1))))
    (mss_cons (ms_for pas rfl (mi_seq rfl (me_var (pv 2))) (pg_name (i := 4) nd rfl (Or.inl rfl)) (tgN_s 4)
    (mss_one (ms_set (i := 3) (ps_set nd rfl (Or.inl rfl) (me_call (ok_box_of T) tk (hr.mono (by decide)) rfl T.m_box_of T.F_box_of.kp T.b_box_of (ma_cons (me_call (ok_rows_in T) tk (hr.mono (by decide)) rfl T.m_rows_in T.F_rows_in.kp T.b_rows_in (ma_cons (me_var (pv 0)) (ma_cons (me_var (pv 3)) ma_nil))) (ma_cons (me_var (pv 4)) ma_nil)))))))
    (mss_one (ms_ret (me_var (pv 3))))))
theorem sc_Store_top : FnScope nm_Store_top ["self", "view"] (defScope s_Store_top) := ⟨rfl, rfl, rfl, by decide +kernel, rfl, by decide +kernel, by decide +kernel⟩
theorem ok_Store_top (T : Txt K mg ad) : FnOk P w K mg base (L2N.CX P w) 1 ad.a_Store_top ad.d_Store_top ["self", "view"] (spM (gg K ad) 2 m_Store_top) := by
  refine fn_ok (G := gg K ad) (body := bd_Store_top) T.F_Store_top sc_Store_top rfl rfl rfl (fun cdv A outer s H E hr => ?_)
  have nd := sc_Store_top.nd
  have hu := hu_of hr
  have hu64 := hr.units
  have tk : L2N.Takes (cx P w K mg base nm_Store_top "Store.top" s_Store_top ad.a_Store_top cdv A outer s H E) (We E) := L2N.takes_of rfl rfl rfl rfl
  have pas : PassesOwn (model P w) (cx P w K mg base nm_Store_top "Store.top" s_Store_top ad.a_Store_top cdv A outer s H E).A (cx P w K mg base nm_Store_top "Store.top" s_Store_top ad.a_Store_top cdv A outer s H E).env (cx P w K mg base nm_Store_top "Store.top" s_Store_top ad.a_Store_top cdv A outer s H E).xe := passes_of rfl
  unfold bd_Store_top
  exact (mss_cons (ms_if (mt_cmp isD_s op_isN (me_var (pv 1)) me_non (nomark _))
    (mss_one (ms_ret (me_fld (C := 1) (i := 1) T.cl_Store T.na_live nd_1 rfl (me_var (pv 0)))))
    mss_nil)
    (mss_cons (ms_if (PW.pt (mw_or (mt_not (mt_val (me_isi (T := .int) rfl rfl T.n_isinstance (me_var (pv 1)) (pe_bltn rfl T.n_int b_int rfl)))) (mw_or (mt_val (me_isi (T := .bool) rfl rfl T.n_isinstance (me_var (pv 1)) (pe_bltn rfl T.n_bool b_bool rfl))) (mw_or1 (mt_dnin hu (me_var (pv 1)) (me_fld (C := 1) (i := 2) T.cl_Store T.na_shots nd_1 rfl (me_var (pv 0))))))))
    (mss_one (ms_raise (c := 6) rfl tk (L2N.pmk_own PySem.F.excBase_ValueError T.x_NoShot T.m_NoShot T.k_NoShot (raises_own T.bs_NoShot T.ty_NoShot) rfl)))
    mss_nil)
    (mss_one (ms_ret (me_dget hu (me_fld (C := 1) (i := 2) T.cl_Store T.na_shots nd_1 rfl (me_var (pv 0))) (me_var (pv 1)) (fun _ _ => rfl))))))
theorem sc_Store_kind : FnScope nm_Store_kind ["self", "view", "path"] (defScope s_Store_kind) := ⟨rfl, rfl, rfl, by decide +kernel, rfl, by decide +kernel, by decide +kernel⟩
theorem ok_Store_kind (T : Txt K mg ad) : FnOk P w K mg base (L2N.CX P w) 5 ad.a_Store_kind ad.d_Store_kind ["self", "view", "path"] (spM (gg K ad) 3 m_Store_kind) := by
  refine fn_ok (G := gg K ad) (body := bd_Store_kind) T.F_Store_kind sc_Store_kind rfl rfl rfl (fun cdv A outer s H E hr => ?_)
  have nd := sc_Store_kind.nd
  have hu := hu_of hr
  have hu64 := hr.units
  have tk : L2N.Takes (cx P w K mg base nm_Store_kind "Store.kind" s_Store_kind ad.a_Store_kind cdv A outer s H E) (We E) := L2N.takes_of rfl rfl rfl rfl
  have pas : PassesOwn (model P w) (cx P w K mg base nm_Store_kind "Store.kind" s_Store_kind ad.a_Store_kind cdv A outer s H E).A (cx P w K mg base nm_Store_kind "Store.kind" s_Store_kind ad.a_Store_kind cdv A outer s H E).env (cx P w K mg base nm_Store_kind "Store.kind" s_Store_kind ad.a_Store_kind cdv A outer s H E).xe := passes_of rfl
  unfold bd_Store_kind
  exact (mss_cons (ms_set (i := 3) (ps_set nd rfl (Or.inl rfl) (me_call (ok_found T) tk (hr.mono (by decide)) rfl T.m_found T.F_found.kp T.b_found (ma_cons (me_fld (C := 1) (i := 0) T.cl_Store T.na_pile nd_1 rfl (me_var (pv 0))) (ma_cons (me_meth (C := 1) (ok_Store_top T) tk (hr.mono (by decide)) T.b_Store_top T.cl_Store T.me_Store_top no_top (me_var (pv 0)) (ma_cons (me_var (pv 1)) ma_nil)) (ma_cons (me_call (ok_checked T) tk (hr.mono (by decide)) rfl T.m_checked T.F_checked.kp T.b_checked (ma_cons (me_var (pv 2)) ma_nil)) ma_nil))))))
    (mss_cons (ms_if (mt_cmp isD_s op_isN (me_var (pv 3)) me_non (nomark _))
    (mss_one (ms_ret me_non))
    mss_nil)
    (mss_one (ms_ret (me_ix rfl (me_meth (C := 0) (ok_Pile_content T) tk (hr.mono (by decide)) T.b_Pile_content T.cl_Pile T.me_Pile_content no_content (me_fld (C := 1) (i := 0) T.cl_Store T.na_pile nd_1 rfl (me_var (pv 0))) (ma_cons (me_var (pv 3)) ma_nil)) me_int (fun _ _ => rfl))))))
theorem sc_without : FnScope nm_without ["rows", "name"] (defScope s_without) := ⟨rfl, rfl, rfl, by decide +kernel, rfl, by decide +kernel, by decide +kernel⟩
theorem ok_without (T : Txt K mg ad) : FnOk P w K mg base (L2N.CX P w) 1 ad.a_without ad.d_without ["rows", "name"] (spM (gg K ad) 2 m_without) := by
  refine fn_ok (G := gg K ad) (body := bd_without) T.F_without sc_without rfl rfl rfl (fun cdv A outer s H E hr => ?_)
  have nd := sc_without.nd
  have hu := hu_of hr
  have hu64 := hr.units
  have tk : L2N.Takes (cx P w K mg base nm_without "without" s_without ad.a_without cdv A outer s H E) (We E) := L2N.takes_of rfl rfl rfl rfl
  have pas : PassesOwn (model P w) (cx P w K mg base nm_without "without" s_without ad.a_without cdv A outer s H E).A (cx P w K mg base nm_without "without" s_without ad.a_without cdv A outer s H E).env (cx P w K mg base nm_without "without" s_without ad.a_without cdv A outer s H E).xe := passes_of rfl
  unfold bd_without
  unfold lt_without_2
  unfold le_without_1
  exact (mss_one (ms_ret (me_lc (j := 2) rfl nd (mi_seq rfl (me_var (pv 0))) (blkOk_by (N := nm_without) (sc := defScope s_without) (own := [("pair", 2)]) (by decide +kernel)) (fun _ _ _ _ _ => pg_name (i := 2) nd rfl (Or.inl rfl)) (fun _ _ _ _ _ => (mts_one (mt_cmp neD_s (op_neX hu64) (me_ix rfl (me_var (pv 2)) me_int (fun _ _ => rfl)) (me_var (pv 1)) (nomark _)))) (fun _ _ _ _ _ => (me_var (pv 2))))))
theorem sc_placed : FnScope nm_placed ["rows", "name", "box"] (defScope s_placed) := ⟨rfl, rfl, rfl, by decide +kernel, rfl, by decide +kernel, by decide +kernel⟩
theorem ok_placedF (T : Txt K mg ad) : FnOk P w K mg base (L2N.CX P w) 1 ad.a_placed ad.d_placed ["rows", "name", "box"] (spM (gg K ad) 3 m_placedF) := by
  refine fn_okF (G := gg K ad) (body := bd_placedF) T.F_placed sc_placed rfl rfl rfl (fun cdv A outer s H E hr => ?_)
  have nd := sc_placed.nd
  have hu := hu_of hr
  have hu64 := hr.units
  have tk : L2N.Takes (cx P w K mg base nm_placed "placed" s_placed ad.a_placed cdv A outer s H E) (We E) := L2N.takes_of rfl rfl rfl rfl
  have pas : PassesOwn (model P w) (cx P w K mg base nm_placed "placed" s_placed ad.a_placed cdv A outer s H E).A (cx P w K mg base nm_placed "placed" s_placed ad.a_placed cdv A outer s H E).env (cx P w K mg base nm_placed "placed" s_placed ad.a_placed cdv A outer s H E).xe := passes_of rfl
  unfold bd_placedF
  unfold lf_placedF_1
  exact (mss_cons (ms_set (i := 3) (ps_set nd rfl (Or.inl rfl) (me_lstN ma_nil)))
    (mss_cons (ms_set (i := 4) (ps_set nd rfl (Or.inl rfl) me_bl))
    (mss_cons (ms_for pas rfl (mi_seq rfl (me_var (pv 0))) (mg_2 (i := 5) (j := 6) rfl rfl (pg_name nd rfl (Or.inl rfl)) (pg_name nd rfl (Or.inl rfl))) (tg2_s 5 6)
    (mss_cons (ms_if (PW.pt (mw_and (mt_not (mt_val (me_var (pv 4)))) (mw_and1 (mt_cmp leD_s op_leX (me_var (pv 1)) (me_var (pv 5)) (nomark _)))))
    (mss_cons (ms_expr (me_app rfl (me_var (pv 3)) (me_tup (ma_cons (me_var (pv 1)) (ma_cons (me_var (pv 2)) ma_nil))) rfl (fun h => pe_bm PySem.F.plainAttrs_list PySem.F.slot_list_append PySem.F.type_list_append mt_append (me_var (pv 3)) h)))
    (mss_one (ms_set (i := 4) (ps_set nd rfl (Or.inl rfl) me_bl))))
    mss_nil)
    (mss_one (ms_if (mt_cmp neD_s (op_neX hu64) (me_var (pv 5)) (me_var (pv 1)) (nomark _))
    (mss_one (ms_expr (me_app rfl (me_var (pv 3)) (me_tup (ma_cons (me_var (pv 5)) (ma_cons (me_var (pv 6)) ma_nil))) rfl (fun h => pe_bm PySem.F.plainAttrs_list PySem.F.slot_list_append PySem.F.type_list_append mt_append (me_var (pv 3)) h))))
    mss_nil))))
    (mss_cons (ms_if (mt_not (mt_val (me_var (pv 4))))
    (mss_one (ms_expr (me_app rfl (me_var (pv 3)) (me_tup (ma_cons (me_var (pv 1)) (ma_cons (me_var (pv 2)) ma_nil))) rfl (fun h => pe_bm PySem.F.plainAttrs_list PySem.F.slot_list_append PySem.F.type_list_append mt_append (me_var (pv 3)) h))))
    mss_nil)
    (mss_one (ms_ret (me_var (pv 3))))))))
theorem sc_rebuilt : FnScope nm_rebuilt ["pile", "top", "path", "box"] (defScope s_rebuilt) := ⟨rfl, rfl, rfl, by decide +kernel, rfl, by decide +kernel, by decide +kernel⟩
theorem ok_rebuilt (T : Txt K mg ad) : FnOk P w K mg base (L2N.CX P w) 5 ad.a_rebuilt ad.d_rebuilt ["pile", "top", "path", "box"] (spM (gg K ad) 4 m_rebuilt) := by
  refine fn_ok (G := gg K ad) (body := bd_rebuilt) T.F_rebuilt sc_rebuilt rfl rfl rfl (fun cdv A outer s H E hr => ?_)
  have nd := sc_rebuilt.nd
  have hu := hu_of hr
  have hu64 := hr.units
  have tk : L2N.Takes (cx P w K mg base nm_rebuilt "rebuilt" s_rebuilt ad.a_rebuilt cdv A outer s H E) (We E) := L2N.takes_of rfl rfl rfl rfl
  have pas : PassesOwn (model P w) (cx P w K mg base nm_rebuilt "rebuilt" s_rebuilt ad.a_rebuilt cdv A outer s H E).A (cx P w K mg base nm_rebuilt "rebuilt" s_rebuilt ad.a_rebuilt cdv A outer s H E).env (cx P w K mg base nm_rebuilt "rebuilt" s_rebuilt ad.a_rebuilt cdv A outer s H E).xe := passes_of rfl
  unfold bd_rebuilt
  unfold lw_rebuilt_2
  unfold le_rebuilt_1
  exact (mss_cons (ms_setLc (i := 4) (j := 6) rfl nd rfl rfl (sw_true rfl rfl rfl (by decide +kernel)) (mi_range1 rfl T.n_range (ma_cons (me_callB lenD_s call_len rfl T.n_len b_len (ma_cons (me_var (pv 2)) ma_nil)) ma_nil)) (blkOk_by (N := nm_rebuilt) (sc := defScope s_rebuilt) (own := [("k", 6)]) (by decide +kernel)) (fun _ _ _ _ _ => pg_name (i := 6) nd rfl (Or.inl rfl)) (fun _ _ _ _ _ => mts_nil) (fun _ _ _ _ _ => (me_call (ok_found T) takes0N (hr.mono (by decide)) rfl T.m_found T.F_found.kp T.b_found (ma_cons (me_var (pv 0)) (ma_cons (me_var (pv 1)) (ma_cons (me_sl rfl (me_var (pv 2)) mo_none (mo_some (me_var (pv 6)))) ma_nil))))))
    (mss_cons (ms_set (i := 5) (ps_set nd rfl (Or.inl rfl) (me_var (pv 3))))
    (mss_cons (ms_set (i := 6) (ps_set nd rfl (Or.inl rfl) (me_callB lenD_s call_len rfl T.n_len b_len (ma_cons (me_var (pv 2)) ma_nil))))
    (mss_cons (ms_while (n := fuelN) pas (mt_cmp gtD_s op_gt (me_var (pv 6)) me_int (nomark _))
    (mss_cons (ms_set (i := 6) (ps_set nd rfl (Or.inl rfl) (me_bin subD_s op_sub (me_var (pv 6)) me_int)))
    (mss_cons (ms_set (i := 7) (ps_set nd rfl (Or.inl rfl) (me_call (ok_rows_in T) tk (hr.mono (by decide)) rfl T.m_rows_in T.F_rows_in.kp T.b_rows_in (ma_cons (me_var (pv 0)) (ma_cons (me_ix rfl (me_var (pv 4)) (me_var (pv 6)) (fun _ _ => rfl)) ma_nil)))))
    (mss_cons (ms_if (mt_cmp isD_s op_isN (me_var (pv 5)) me_non (nomark _))
    (mss_one (ms_set (i := 7) (ps_set nd rfl (Or.inl rfl) (me_call (ok_without T) tk (hr.mono (by decide)) rfl T.m_without T.F_without.kp T.b_without (ma_cons (me_var (pv 7)) (ma_cons (me_ix rfl (me_var (pv 2)) (me_var (pv 6)) (fun _ _ => rfl)) ma_nil))))))
    (mss_one (ms_set (i := 7) (ps_set nd rfl (Or.inl rfl) (me_call (ok_placedF T) tk (hr.mono (by decide)) rfl T.m_placed T.F_placed.kp T.b_placed (ma_cons (me_var (pv 7)) (ma_cons (me_ix rfl (me_var (pv 2)) (me_var (pv 6)) (fun _ _ => rfl)) (ma_cons (me_var (pv 5)) ma_nil))))))))
    (mss_one (ms_set (i := 5) (ps_set nd rfl (Or.inl rfl) (me_meth (C := 0) (ok_Pile_branch T) tk (hr.mono (by decide)) T.b_Pile_branch T.cl_Pile T.me_Pile_branch no_branch (me_var (pv 0)) (ma_cons (me_var (pv 7)) ma_nil)))))))))
    (mss_one (ms_ret (me_var (pv 5))))))))
theorem sc_Store_value : FnScope nm_Store_value ["self", "view", "path"] (defScope s_Store_value) := ⟨rfl, rfl, rfl, by decide +kernel, rfl, by decide +kernel, by decide +kernel⟩
theorem ok_Store_value (T : Txt K mg ad) : FnOk P w K mg base (L2N.CX P w) 6 ad.a_Store_value ad.d_Store_value ["self", "view", "path"] (spM (gg K ad) 3 m_Store_value) := by
  refine fn_ok (G := gg K ad) (body := bd_Store_value) T.F_Store_value sc_Store_value rfl rfl rfl (fun cdv A outer s H E hr => ?_)
  have nd := sc_Store_value.nd
  have hu := hu_of hr
  have hu64 := hr.units
  have tk : L2N.Takes (cx P w K mg base nm_Store_value "Store.value" s_Store_value ad.a_Store_value cdv A outer s H E) (We E) := L2N.takes_of rfl rfl rfl rfl
  have pas : PassesOwn (model P w) (cx P w K mg base nm_Store_value "Store.value" s_Store_value ad.a_Store_value cdv A outer s H E).A (cx P w K mg base nm_Store_value "Store.value" s_Store_value ad.a_Store_value cdv A outer s H E).env (cx P w K mg base nm_Store_value "Store.value" s_Store_value ad.a_Store_value cdv A outer s H E).xe := passes_of rfl
  unfold bd_Store_value
  exact (mss_cons (ms_set (i := 3) (ps_set nd rfl (Or.inl rfl) (me_meth (C := 1) (ok_Store_kind T) tk (hr.mono (by decide)) T.b_Store_kind T.cl_Store T.me_Store_kind no_kind (me_var (pv 0)) (ma_cons (me_var (pv 1)) (ma_cons (me_var (pv 2)) ma_nil)))))
    (mss_cons (ms_if (mt_cmp isD_s op_isN (me_var (pv 3)) me_non (nomark _))
    (mss_one (ms_raise (c := 3) rfl tk (L2N.pmk_own PySem.F.excBase_ValueError T.x_Nothing T.m_Nothing T.k_Nothing (raises_own T.bs_Nothing T.ty_Nothing) rfl)))
    mss_nil)
    (mss_cons (ms_if (mt_cmp eqD_s (op_eqX hu64) (me_var (pv 3)) me_str (nomark _))
    (mss_one (ms_raise (c := 5) rfl tk (L2N.pmk_own PySem.F.excBase_ValueError T.x_BranchThere T.m_BranchThere T.k_BranchThere (raises_own T.bs_BranchThere T.ty_BranchThere) rfl)))
    mss_nil)
    (mss_one (ms_ret (me_ix rfl (me_meth (C := 0) (ok_Pile_content T) tk (hr.mono (by decide)) T.b_Pile_content T.cl_Pile T.me_Pile_content no_content (me_fld (C := 1) (i := 0) T.cl_Store T.na_pile nd_1 rfl (me_var (pv 0))) (ma_cons (me_call (ok_found T) tk (hr.mono (by decide)) rfl T.m_found T.F_found.kp T.b_found (ma_cons (me_fld (C := 1) (i := 0) T.cl_Store T.na_pile nd_1 rfl (me_var (pv 0))) (ma_cons (me_meth (C := 1) (ok_Store_top T) tk (hr.mono (by decide)) T.b_Store_top T.cl_Store T.me_Store_top no_top (me_var (pv 0)) (ma_cons (me_var (pv 1)) ma_nil)) (ma_cons (me_var (pv 2)) ma_nil)))) ma_nil)) me_int (fun _ _ => rfl)))))))
theorem sc_Pile_leaf : FnScope nm_Pile_leaf ["self", "number"] (defScope s_Pile_leaf) := ⟨rfl, rfl, rfl, by decide +kernel, rfl, by decide +kernel, by decide +kernel⟩
theorem ok_Pile_leaf (T : Txt K mg ad) : FnOk P w K mg base (L2N.CX P w) 2 ad.a_Pile_leaf ad.d_Pile_leaf ["self", "number"] (spM (gg K ad) 2 m_Pile_leaf) := by
  refine fn_ok (G := gg K ad) (body := bd_Pile_leaf) T.F_Pile_leaf sc_Pile_leaf rfl rfl rfl (fun cdv A outer s H E hr => ?_)
  have nd := sc_Pile_leaf.nd
  have hu := hu_of hr
  have hu64 := hr.units
  have tk : L2N.Takes (cx P w K mg base nm_Pile_leaf "Pile.leaf" s_Pile_leaf ad.a_Pile_leaf cdv A outer s H E) (We E) := L2N.takes_of rfl rfl rfl rfl
  have pas : PassesOwn (model P w) (cx P w K mg base nm_Pile_leaf "Pile.leaf" s_Pile_leaf ad.a_Pile_leaf cdv A outer s H E).A (cx P w K mg base nm_Pile_leaf "Pile.leaf" s_Pile_leaf ad.a_Pile_leaf cdv A outer s H E).env (cx P w K mg base nm_Pile_leaf "Pile.leaf" s_Pile_leaf ad.a_Pile_leaf cdv A outer s H E).xe := passes_of rfl
  unfold bd_Pile_leaf
  exact (mss_one (ms_ret (me_meth (C := 0) (ok_Pile_fresh T) tk (hr.mono (by decide)) T.b_Pile_fresh T.cl_Pile T.me_Pile_fresh no_fresh (me_var (pv 0)) (ma_cons (me_tup (ma_cons me_str (ma_cons (me_var (pv 1)) ma_nil))) ma_nil))))
theorem sc_Store_put : FnScope nm_Store_put ["self", "path", "number"] (defScope s_Store_put) := ⟨rfl, rfl, rfl, by decide +kernel, rfl, by decide +kernel, by decide +kernel⟩
theorem ok_Store_put (T : Txt K mg ad) : FnOk P w K mg base (L2N.CX P w) 7 ad.a_Store_put ad.d_Store_put ["self", "path", "number"] (spM (gg K ad) 3 m_Store_put) := by
  refine fn_ok (G := gg K ad) (body := bd_Store_put) T.F_Store_put sc_Store_put rfl rfl rfl (fun cdv A outer s H E hr => ?_)
  have nd := sc_Store_put.nd
  have hu := hu_of hr
  have hu64 := hr.units
  have tk : L2N.Takes (cx P w K mg base nm_Store_put "Store.put" s_Store_put ad.a_Store_put cdv A outer s H E) (We E) := L2N.takes_of rfl rfl rfl rfl
  have pas : PassesOwn (model P w) (cx P w K mg base nm_Store_put "Store.put" s_Store_put ad.a_Store_put cdv A outer s H E).A (cx P w K mg base nm_Store_put "Store.put" s_Store_put ad.a_Store_put cdv A outer s H E).env (cx P w K mg base nm_Store_put "Store.put" s_Store_put ad.a_Store_put cdv A outer s H E).xe := passes_of rfl
  unfold bd_Store_put
  unfold lf_Store_put_1
  exact (mss_cons (ms_set (i := 3) (ps_set nd rfl (Or.inl rfl) (me_call (ok_checked T) tk (hr.mono (by decide)) rfl T.m_checked T.F_checked.kp T.b_checked (ma_cons (me_var (pv 1)) ma_nil))))
    (mss_cons (ms_if (mt_cmp eqD_s (op_eqX hu64) (me_var (pv 3)) (me_lst ma_nil) (nomark _))
    (mss_one (ms_raise (c := 1) rfl tk (L2N.pmk_own PySem.F.excBase_ValueError T.x_BadPath T.m_BadPath T.k_BadPath (raises_own T.bs_BadPath T.ty_BadPath) rfl)))
    mss_nil)
    (mss_cons (ms_if (PW.pt (mw_or (mt_not (mt_val (me_isi (T := .int) rfl rfl T.n_isinstance (me_var (pv 2)) (pe_bltn rfl T.n_int b_int rfl)))) (mw_or (mt_val (me_isi (T := .bool) rfl rfl T.n_isinstance (me_var (pv 2)) (pe_bltn rfl T.n_bool b_bool rfl))) (mw_or1 (mt_cmp geD_s op_ge (me_callB absD_s call_abs rfl T.n_abs b_abs (ma_cons (me_var (pv 2)) ma_nil)) (me_gint rfl T.g_BOUND) (nomark _))))))
    (mss_one (ms_raise (c := 2) rfl tk (L2N.pmk_own PySem.F.excBase_ValueError T.x_BadNumber T.m_BadNumber T.k_BadNumber (raises_own T.bs_BadNumber T.ty_BadNumber) rfl)))
    mss_nil)
    (mss_cons (ms_for pas rfl (mi_range1 rfl T.n_range (ma_cons (me_callB lenD_s call_len rfl T.n_len b_len (ma_cons (me_var (pv 3)) ma_nil)) ma_nil)) (pg_name (i := 4) nd rfl (Or.inl rfl)) (tgN_s 4)
    (mss_one (ms_if (mt_cmp eqD_s (op_eqX hu64) (me_meth (C := 1) (ok_Store_kind T) tk (hr.mono (by decide)) T.b_Store_kind T.cl_Store T.me_Store_kind no_kind (me_var (pv 0)) (ma_cons me_non (ma_cons (me_sl rfl (me_var (pv 3)) mo_none (mo_some (me_var (pv 4)))) ma_nil))) me_str (nomark _))
    (mss_one (ms_raise (c := 4) rfl tk (L2N.pmk_own PySem.F.excBase_ValueError T.x_LeafThere T.m_LeafThere T.k_LeafThere (raises_own T.bs_LeafThere T.ty_LeafThere) rfl)))
    mss_nil)))
    (mss_cons (ms_if (mt_cmp eqD_s (op_eqX hu64) (me_meth (C := 1) (ok_Store_kind T) tk (hr.mono (by decide)) T.b_Store_kind T.cl_Store T.me_Store_kind no_kind (me_var (pv 0)) (ma_cons me_non (ma_cons (me_var (pv 3)) ma_nil))) me_str (nomark _))
    (mss_one (ms_raise (c := 5) rfl tk (L2N.pmk_own PySem.F.excBase_ValueError T.x_BranchThere T.m_BranchThere T.k_BranchThere (raises_own T.bs_BranchThere T.ty_BranchThere) rfl)))
    mss_nil)
    (mss_cons (ms_if (PW.pt (mw_and (mt_cmp eqD_s (op_eqX hu64) (me_meth (C := 1) (ok_Store_kind T) tk (hr.mono (by decide)) T.b_Store_kind T.cl_Store T.me_Store_kind no_kind (me_var (pv 0)) (ma_cons me_non (ma_cons (me_var (pv 3)) ma_nil))) me_str (nomark _)) (mw_and1 (mt_cmp eqD_s (op_eqX hu64) (me_meth (C := 1) (ok_Store_value T) tk (hr.mono (by decide)) T.b_Store_value T.cl_Store T.me_Store_value no_value (me_var (pv 0)) (ma_cons me_non (ma_cons (me_var (pv 3)) ma_nil))) (me_var (pv 2)) (nomark _)))))
    (mss_one (ms_ret me_int))
    mss_nil)
    (mss_one (ms_ret (me_meth (C := 1) (ok_Store_turned T) tk (hr.mono (by decide)) T.b_Store_turned T.cl_Store T.me_Store_turned no_turned (me_var (pv 0)) (ma_cons (me_call (ok_rebuilt T) tk (hr.mono (by decide)) rfl T.m_rebuilt T.F_rebuilt.kp T.b_rebuilt (ma_cons (me_fld (C := 1) (i := 0) T.cl_Store T.na_pile nd_1 rfl (me_var (pv 0))) (ma_cons (me_fld (C := 1) (i := 1) T.cl_Store T.na_live nd_1 rfl (me_var (pv 0))) (ma_cons (me_var (pv 3)) (ma_cons (me_meth (C := 0) (ok_Pile_leaf T) tk (hr.mono (by decide)) T.b_Pile_leaf T.cl_Pile T.me_Pile_leaf no_leaf (me_fld (C := 1) (i := 0) T.cl_Store T.na_pile nd_1 rfl (me_var (pv 0))) (ma_cons (me_var (pv 2)) ma_nil)) ma_nil))))) ma_nil))))))))))
theorem sc_Store_snap : FnScope nm_Store_snap ["self"] (defScope s_Store_snap) := ⟨rfl, rfl, rfl, by decide +kernel, rfl, by decide +kernel, by decide +kernel⟩
theorem ok_Store_snap (T : Txt K mg ad) : FnOk P w K mg base (L2N.CX P w) 3 ad.a_Store_snap ad.d_Store_snap ["self"] (spM (gg K ad) 1 m_Store_snap) := by
  refine fn_ok (G := gg K ad) (body := bd_Store_snap) T.F_Store_snap sc_Store_snap rfl rfl rfl (fun cdv A outer s H E hr => ?_)
  have nd := sc_Store_snap.nd
  have hu := hu_of hr
  have hu64 := hr.units
  have tk : L2N.Takes (cx P w K mg base nm_Store_snap "Store.snap" s_Store_snap ad.a_Store_snap cdv A outer s H E) (We E) := L2N.takes_of rfl rfl rfl rfl
  have pas : PassesOwn (model P w) (cx P w K mg base nm_Store_snap "Store.snap" s_Store_snap ad.a_Store_snap cdv A outer s H E).A (cx P w K mg base nm_Store_snap "Store.snap" s_Store_snap ad.a_Store_snap cdv A outer s H E).env (cx P w K mg base nm_Store_snap "Store.snap" s_Store_snap ad.a_Store_snap cdv A outer s H E).xe := passes_of rfl
  unfold bd_Store_snap
  exact (mss_cons (ms_fld (C := 1) (i := 3) T.cl_Store T.na_taken nd_1 rfl ln_1 (me_var (pv 0)) (me_bin addD_s op_addX (me_fld (C := 1) (i := 3) T.cl_Store T.na_taken nd_1 rfl (me_var (pv 0))) me_int) rfl)
    (mss_cons (ms_dput hu (me_fld (C := 1) (i := 2) T.cl_Store T.na_shots nd_1 rfl (me_var (pv 0))) (me_fld (C := 1) (i := 3) T.cl_Store T.na_taken nd_1 rfl (me_var (pv 0))) (me_fld (C := 1) (i := 1) T.cl_Store T.na_live nd_1 rfl (me_var (pv 0))) rfl)
    (mss_cons (ms_expr (me_meth (C := 0) (ok_Pile_hold T) tk (hr.mono (by decide)) T.b_Pile_hold T.cl_Pile T.me_Pile_hold no_hold (me_fld (C := 1) (i := 0) T.cl_Store T.na_pile nd_1 rfl (me_var (pv 0))) (ma_cons (me_fld (C := 1) (i := 1) T.cl_Store T.na_live nd_1 rfl (me_var (pv 0))) ma_nil)))
    (mss_one (ms_ret (me_fld (C := 1) (i := 3) T.cl_Store T.na_taken nd_1 rfl (me_var (pv 0))))))))
theorem sc_Store_drop : FnScope nm_Store_drop ["self", "shot"] (defScope s_Store_drop) := ⟨rfl, rfl, rfl, by decide +kernel, rfl, by decide +kernel, by decide +kernel⟩
theorem ok_Store_drop (T : Txt K mg ad) : FnOk P w K mg base (L2N.CX P w) 3 ad.a_Store_drop ad.d_Store_drop ["self", "shot"] (spM (gg K ad) 2 m_Store_drop) := by
  refine fn_ok (G := gg K ad) (body := bd_Store_drop) T.F_Store_drop sc_Store_drop rfl rfl rfl (fun cdv A outer s H E hr => ?_)
  have nd := sc_Store_drop.nd
  have hu := hu_of hr
  have hu64 := hr.units
  have tk : L2N.Takes (cx P w K mg base nm_Store_drop "Store.drop" s_Store_drop ad.a_Store_drop cdv A outer s H E) (We E) := L2N.takes_of rfl rfl rfl rfl
  have pas : PassesOwn (model P w) (cx P w K mg base nm_Store_drop "Store.drop" s_Store_drop ad.a_Store_drop cdv A outer s H E).A (cx P w K mg base nm_Store_drop "Store.drop" s_Store_drop ad.a_Store_drop cdv A outer s H E).env (cx P w K mg base nm_Store_drop "Store.drop" s_Store_drop ad.a_Store_drop cdv A outer s H E).xe := passes_of rfl
  unfold bd_Store_drop
  exact (mss_cons (ms_if (mt_cmp isD_s op_isN (me_var (pv 1)) me_non (nomark _))
    (mss_one (ms_raise (c := 6) rfl tk (L2N.pmk_own PySem.F.excBase_ValueError T.x_NoShot T.m_NoShot T.k_NoShot (raises_own T.bs_NoShot T.ty_NoShot) rfl)))
    mss_nil)
    (mss_cons (ms_set (i := 2) (ps_set nd rfl (Or.inl rfl) (me_meth (C := 1) (ok_Store_top T) tk (hr.mono (by decide)) T.b_Store_top T.cl_Store T.me_Store_top no_top (me_var (pv 0)) (ma_cons (me_var (pv 1)) ma_nil))))
    (mss_cons (ms_expr (me_dpop (me_fld (C := 1) (i := 2) T.cl_Store T.na_shots nd_1 rfl (me_var (pv 0))) (me_var (pv 1)) ⟨rfl, rfl, rfl, rfl⟩))
    (mss_one (ms_ret (me_meth (C := 0) (ok_Pile_let_go T) tk (hr.mono (by decide)) T.b_Pile_let_go T.cl_Pile T.me_Pile_let_go no_let_go (me_fld (C := 1) (i := 0) T.cl_Store T.na_pile nd_1 rfl (me_var (pv 0))) (ma_cons (me_var (pv 2)) ma_nil)))))))
theorem sc_l_due_of_view : FnScope nm_l_due_of_view ["_law_way", "_law_at", "_law_view"] (defScope s_l_due_of_view) := ⟨rfl, rfl, rfl, by decide +kernel, rfl, by decide +kernel, by decide +kernel⟩
theorem ok_l_due_of_view (T : Txt K mg ad) : FnOk P w K mg base (L2N.CX P w) 1 ad.a_l_due_of_view ad.d_l_due_of_view ["_law_way", "_law_at", "_law_view"] (spM (gg K ad) 3 m_l_due_of_view) := by
  refine fn_ok (G := gg K ad) (body := bd_l_due_of_view) T.F_l_due_of_view sc_l_due_of_view rfl rfl rfl (fun cdv A outer s H E hr => ?_)
  have nd := sc_l_due_of_view.nd
  have hu := hu_of hr
  have hu64 := hr.units
  have tk : L2N.Takes (cx P w K mg base nm_l_due_of_view "_law_due_of_view" s_l_due_of_view ad.a_l_due_of_view cdv A outer s H E) (We E) := L2N.takes_of rfl rfl rfl rfl
  have pas : PassesOwn (model P w) (cx P w K mg base nm_l_due_of_view "_law_due_of_view" s_l_due_of_view ad.a_l_due_of_view cdv A outer s H E).A (cx P w K mg base nm_l_due_of_view "_law_due_of_view" s_l_due_of_view ad.a_l_due_of_view cdv A outer s H E).env (cx P w K mg base nm_l_due_of_view "_law_due_of_view" s_l_due_of_view ad.a_l_due_of_view cdv A outer s H E).xe := passes_of rfl
  unfold bd_l_due_of_view
  exact (mss_cons (ms_if (PW.pt (mw_or (mt_cmp ltD_s op_lt (me_var (pv 2)) me_int (nomark _)) (mw_or1 (PW.pt (mw_and (mt_cmp eqD_s (op_eqX hu64) (me_var (pv 2)) me_int (nomark _)) (mw_and1 (mt_cmp ltD_s op_lt (me_var (pv 0)) me_int (nomark _))))))))
    (mss_one (ms_ret me_str))
    mss_nil)
    (mss_cons (ms_if (PW.pt (mw_or (mt_cmp eqD_s (op_eqX hu64) (me_var (pv 0)) me_int (nomark _)) (mw_or (mt_cmp eqD_s (op_eqX hu64) (me_var (pv 0)) me_int (nomark _)) (mw_or1 (mt_cmp gtD_s op_gt (me_var (pv 0)) me_int (nomark _))))))
    (mss_one (ms_ret me_str))
    mss_nil)
    (mss_cons (ms_if (mt_cmp gtD_s op_gt (me_var (pv 1)) me_int (nomark _))
    (mss_one (ms_ret me_str))
    mss_nil)
    (mss_cons (ms_if (mt_cmp eqD_s (op_eqX hu64) (me_var (pv 0)) me_int (nomark _))
    (mss_one (ms_ret me_str))
    mss_nil)
    (mss_cons (ms_if (mt_cmp inD_s op_inX (me_var (pv 1)) (me_lst (ma_cons me_int (ma_cons me_int (ma_cons me_int (ma_cons me_int (ma_cons me_int ma_nil)))))) rfl)
    (mss_one (ms_ret me_str))
    mss_nil)
    (mss_cons (ms_if (PW.pt (mw_and (mt_cmp eqD_s (op_eqX hu64) (me_var (pv 0)) me_int (nomark _)) (mw_and1 (mt_cmp inD_s op_inX (me_var (pv 1)) (me_lst (ma_cons me_int (ma_cons me_int ma_nil))) rfl))))
    (mss_one (ms_ret me_str))
    mss_nil)
    (mss_cons (ms_if (PW.pt (mw_and (mt_cmp eqD_s (op_eqX hu64) (me_var (pv 0)) me_int (nomark _)) (mw_and1 (mt_cmp inD_s op_inX (me_var (pv 1)) (me_lst (ma_cons me_int (ma_cons me_int ma_nil))) rfl))))
    (mss_one (ms_ret me_str))
    mss_nil)
    (mss_one (ms_ret me_str)))))))))
theorem sc_l_due : FnScope nm_l_due ["_law_way", "_law_at", "_law_number", "_law_view"] (defScope s_l_due) := ⟨rfl, rfl, rfl, by decide +kernel, rfl, by decide +kernel, by decide +kernel⟩
theorem ok_l_due (T : Txt K mg ad) : FnOk P w K mg base (L2N.CX P w) 2 ad.a_l_due ad.d_l_due ["_law_way", "_law_at", "_law_number", "_law_view"] (spM (gg K ad) 4 m_l_due) := by
  refine fn_ok (G := gg K ad) (body := bd_l_due) T.F_l_due sc_l_due rfl rfl rfl (fun cdv A outer s H E hr => ?_)
  have nd := sc_l_due.nd
  have hu := hu_of hr
  have hu64 := hr.units
  have tk : L2N.Takes (cx P w K mg base nm_l_due "_law_due" s_l_due ad.a_l_due cdv A outer s H E) (We E) := L2N.takes_of rfl rfl rfl rfl
  have pas : PassesOwn (model P w) (cx P w K mg base nm_l_due "_law_due" s_l_due ad.a_l_due cdv A outer s H E).A (cx P w K mg base nm_l_due "_law_due" s_l_due ad.a_l_due cdv A outer s H E).env (cx P w K mg base nm_l_due "_law_due" s_l_due ad.a_l_due cdv A outer s H E).xe := passes_of rfl
  unfold bd_l_due
  exact (mss_cons (ms_if (mt_cmp gtD_s op_gt (me_var (pv 0)) me_int (nomark _))
    (mss_one (ms_ret (me_call (ok_l_due_of_view T) tk (hr.mono (by decide)) rfl T.m_l_due_of_view T.F_l_due_of_view.kp T.b_l_due_of_view (ma_cons (me_var (pv 0)) (ma_cons (me_var (pv 1)) (ma_cons (me_var (pv 3)) ma_nil))))))
    mss_nil)
    (mss_cons (ms_if (mt_cmp geD_s op_ge (me_var (pv 1)) me_int (nomark _))
    (mss_one (ms_ret me_str))
    mss_nil)
    (mss_cons (ms_if (mt_cmp eqD_s (op_eqX hu64) (me_var (pv 0)) me_int (nomark _))
    (mss_one (ms_ret (me_ix rfl (me_lst (ma_cons me_str (ma_cons me_str ma_nil))) (me_callTy intD_s call_int1 rfl T.n_int b_int (ma_cons (me_cmp gtD_s op_gt (me_var (pv 1)) me_int (nomark _)) ma_nil)) (fun _ _ => rfl))))
    mss_nil)
    (mss_cons (ms_if (mt_cmp gtD_s op_gt (me_var (pv 2)) me_int (nomark _))
    (mss_one (ms_ret me_str))
    mss_nil)
    (mss_cons (ms_if (mt_cmp inD_s op_inX (me_var (pv 1)) (me_lst (ma_cons me_int (ma_cons me_int (ma_cons me_int ma_nil)))) rfl)
    (mss_one (ms_ret me_str))
    mss_nil)
    (mss_one (ms_ret (me_ix rfl (me_lst (ma_cons me_str (ma_cons me_str ma_nil))) (me_callTy intD_s call_int1 rfl T.n_int b_int (ma_cons (me_cmp eqD_s (op_eqX hu64) (me_var (pv 1)) me_int (nomark _)) ma_nil)) (fun _ _ => rfl)))))))))
theorem sc_l_cell_at : FnScope nm_l_cell_at ["_law_script", "_law_k"] (defScope s_l_cell_at) := ⟨rfl, rfl, rfl, by decide +kernel, rfl, by decide +kernel, by decide +kernel⟩
theorem ok_l_cell_at (T : Txt K mg ad) : FnOk P w K mg base (L2N.CX P w) 1 ad.a_l_cell_at ad.d_l_cell_at ["_law_script", "_law_k"] (spM (gg K ad) 2 m_l_cell_at) := by
  refine fn_ok (G := gg K ad) (body := bd_l_cell_at) T.F_l_cell_at sc_l_cell_at rfl rfl rfl (fun cdv A outer s H E hr => ?_)
  have nd := sc_l_cell_at.nd
  have hu := hu_of hr
  have hu64 := hr.units
  have tk : L2N.Takes (cx P w K mg base nm_l_cell_at "_law_cell_at" s_l_cell_at ad.a_l_cell_at cdv A outer s H E) (We E) := L2N.takes_of rfl rfl rfl rfl
  have pas : PassesOwn (model P w) (cx P w K mg base nm_l_cell_at "_law_cell_at" s_l_cell_at ad.a_l_cell_at cdv A outer s H E).A (cx P w K mg base nm_l_cell_at "_law_cell_at" s_l_cell_at ad.a_l_cell_at cdv A outer s H E).env (cx P w K mg base nm_l_cell_at "_law_cell_at" s_l_cell_at ad.a_l_cell_at cdv A outer s H E).xe := passes_of rfl
  unfold bd_l_cell_at
  exact (mss_cons (ms_if (mt_cmp ltD_s op_lt (me_var (pv 1)) (me_callB lenD_s call_len rfl T.n_len b_len (ma_cons (me_var (pv 0)) ma_nil)) (nomark _))
    (mss_one (ms_ret (me_ix rfl (me_var (pv 0)) (me_var (pv 1)) (fun _ _ => rfl))))
    mss_nil)
    (mss_one (ms_ret me_int)))
theorem sc_Pile_kept : FnScope nm_Pile_kept ["self"] (defScope s_Pile_kept) := ⟨rfl, rfl, rfl, by decide +kernel, rfl, by decide +kernel, by decide +kernel⟩
theorem ok_Pile_kept (T : Txt K mg ad) : FnOk P w K mg base (L2N.CX P w) 1 ad.a_Pile_kept ad.d_Pile_kept ["self"] (spM (gg K ad) 1 m_Pile_kept) := by
  refine fn_ok (G := gg K ad) (body := bd_Pile_kept) T.F_Pile_kept sc_Pile_kept rfl rfl rfl (fun cdv A outer s H E hr => ?_)
  have nd := sc_Pile_kept.nd
  have hu := hu_of hr
  have hu64 := hr.units
  have tk : L2N.Takes (cx P w K mg base nm_Pile_kept "Pile.kept" s_Pile_kept ad.a_Pile_kept cdv A outer s H E) (We E) := L2N.takes_of rfl rfl rfl rfl
  have pas : PassesOwn (model P w) (cx P w K mg base nm_Pile_kept "Pile.kept" s_Pile_kept ad.a_Pile_kept cdv A outer s H E).A (cx P w K mg base nm_Pile_kept "Pile.kept" s_Pile_kept ad.a_Pile_kept cdv A outer s H E).env (cx P w K mg base nm_Pile_kept "Pile.kept" s_Pile_kept ad.a_Pile_kept cdv A outer s H E).xe := passes_of rfl
  unfold bd_Pile_kept
  exact (mss_one (ms_ret (me_callB sortKiD_s (call_sortKF flInt Sum.inl (fun _ => rfl) rfl hu64) rfl T.n_sorted b_sorted (ma_cons (me_fld (C := 0) (i := 0) T.cl_Pile T.na_boxes nd_0 rfl (me_var (pv 0))) ma_nil))))
theorem sc_Store_shot_numbers : FnScope nm_Store_shot_numbers ["self"] (defScope s_Store_shot_numbers) := ⟨rfl, rfl, rfl, by decide +kernel, rfl, by decide +kernel, by decide +kernel⟩
theorem ok_Store_shot_numbers (T : Txt K mg ad) : FnOk P w K mg base (L2N.CX P w) 1 ad.a_Store_shot_numbers ad.d_Store_shot_numbers ["self"] (spM (gg K ad) 1 m_Store_shot_numbers) := by
  refine fn_ok (G := gg K ad) (body := bd_Store_shot_numbers) T.F_Store_shot_numbers sc_Store_shot_numbers rfl rfl rfl (fun cdv A outer s H E hr => ?_)
  have nd := sc_Store_shot_numbers.nd
  have hu := hu_of hr
  have hu64 := hr.units
  have tk : L2N.Takes (cx P w K mg base nm_Store_shot_numbers "Store.shot_numbers" s_Store_shot_numbers ad.a_Store_shot_numbers cdv A outer s H E) (We E) := L2N.takes_of rfl rfl rfl rfl
  have pas : PassesOwn (model P w) (cx P w K mg base nm_Store_shot_numbers "Store.shot_numbers" s_Store_shot_numbers ad.a_Store_shot_numbers cdv A outer s H E).A (cx P w K mg base nm_Store_shot_numbers "Store.shot_numbers" s_Store_shot_numbers ad.a_Store_shot_numbers cdv A outer s H E).env (cx P w K mg base nm_Store_shot_numbers "Store.shot_numbers" s_Store_shot_numbers ad.a_Store_shot_numbers cdv A outer s H E).xe := passes_of rfl
  unfold bd_Store_shot_numbers
  exact (mss_one (ms_ret (me_callB sortKiD_s (call_sortKF flInt Sum.inl (fun _ => rfl) rfl hu64) rfl T.n_sorted b_sorted (ma_cons (me_fld (C := 1) (i := 2) T.cl_Store T.na_shots nd_1 rfl (me_var (pv 0))) ma_nil))))
theorem sc_Store_cut : FnScope nm_Store_cut ["self", "path"] (defScope s_Store_cut) := ⟨rfl, rfl, rfl, by decide +kernel, rfl, by decide +kernel, by decide +kernel⟩
theorem ok_Store_cut (T : Txt K mg ad) : FnOk P w K mg base (L2N.CX P w) 6 ad.a_Store_cut ad.d_Store_cut ["self", "path"] (spM (gg K ad) 2 m_Store_cut) := by
  refine fn_ok (G := gg K ad) (body := bd_Store_cut) T.F_Store_cut sc_Store_cut rfl rfl rfl (fun cdv A outer s H E hr => ?_)
  have nd := sc_Store_cut.nd
  have hu := hu_of hr
  have hu64 := hr.units
  have tk : L2N.Takes (cx P w K mg base nm_Store_cut "Store.cut" s_Store_cut ad.a_Store_cut cdv A outer s H E) (We E) := L2N.takes_of rfl rfl rfl rfl
  have pas : PassesOwn (model P w) (cx P w K mg base nm_Store_cut "Store.cut" s_Store_cut ad.a_Store_cut cdv A outer s H E).A (cx P w K mg base nm_Store_cut "Store.cut" s_Store_cut ad.a_Store_cut cdv A outer s H E).env (cx P w K mg base nm_Store_cut "Store.cut" s_Store_cut ad.a_Store_cut cdv A outer s H E).xe := passes_of rfl
  unfold bd_Store_cut
  exact (mss_cons (ms_set (i := 2) (ps_set nd rfl (Or.inl rfl) (me_call (ok_checked T) tk (hr.mono (by decide)) rfl T.m_checked T.F_checked.kp T.b_checked (ma_cons (me_var (pv 1)) ma_nil))))
    (mss_cons (ms_if (mt_cmp eqD_s (op_eqX hu64) (me_var (pv 2)) (me_lst ma_nil) (nomark _))
    (mss_one (ms_raise (c := 1) rfl tk (L2N.pmk_own PySem.F.excBase_ValueError T.x_BadPath T.m_BadPath T.k_BadPath (raises_own T.bs_BadPath T.ty_BadPath) rfl)))
    mss_nil)
    (mss_cons (ms_if (mt_cmp isD_s op_isN (me_call (ok_found T) tk (hr.mono (by decide)) rfl T.m_found T.F_found.kp T.b_found (ma_cons (me_fld (C := 1) (i := 0) T.cl_Store T.na_pile nd_1 rfl (me_var (pv 0))) (ma_cons (me_fld (C := 1) (i := 1) T.cl_Store T.na_live nd_1 rfl (me_var (pv 0))) (ma_cons (me_var (pv 2)) ma_nil)))) me_non (nomark _))
    (mss_one (ms_raise (c := 3) rfl tk (L2N.pmk_own PySem.F.excBase_ValueError T.x_Nothing T.m_Nothing T.k_Nothing (raises_own T.bs_Nothing T.ty_Nothing) rfl)))
    mss_nil)
    (mss_one (ms_ret (me_meth (C := 1) (ok_Store_turned T) tk (hr.mono (by decide)) T.b_Store_turned T.cl_Store T.me_Store_turned no_turned (me_var (pv 0)) (ma_cons (me_call (ok_rebuilt T) tk (hr.mono (by decide)) rfl T.m_rebuilt T.F_rebuilt.kp T.b_rebuilt (ma_cons (me_fld (C := 1) (i := 0) T.cl_Store T.na_pile nd_1 rfl (me_var (pv 0))) (ma_cons (me_fld (C := 1) (i := 1) T.cl_Store T.na_live nd_1 rfl (me_var (pv 0))) (ma_cons (me_var (pv 2)) (ma_cons me_non ma_nil))))) ma_nil)))))))
theorem sc_Store_back : FnScope nm_Store_back ["self", "shot"] (defScope s_Store_back) := ⟨rfl, rfl, rfl, by decide +kernel, rfl, by decide +kernel, by decide +kernel⟩
theorem ok_Store_back (T : Txt K mg ad) : FnOk P w K mg base (L2N.CX P w) 4 ad.a_Store_back ad.d_Store_back ["self", "shot"] (spM (gg K ad) 2 m_Store_back) := by
  refine fn_ok (G := gg K ad) (body := bd_Store_back) T.F_Store_back sc_Store_back rfl rfl rfl (fun cdv A outer s H E hr => ?_)
  have nd := sc_Store_back.nd
  have hu := hu_of hr
  have hu64 := hr.units
  have tk : L2N.Takes (cx P w K mg base nm_Store_back "Store.back" s_Store_back ad.a_Store_back cdv A outer s H E) (We E) := L2N.takes_of rfl rfl rfl rfl
  have pas : PassesOwn (model P w) (cx P w K mg base nm_Store_back "Store.back" s_Store_back ad.a_Store_back cdv A outer s H E).A (cx P w K mg base nm_Store_back "Store.back" s_Store_back ad.a_Store_back cdv A outer s H E).env (cx P w K mg base nm_Store_back "Store.back" s_Store_back ad.a_Store_back cdv A outer s H E).xe := passes_of rfl
  unfold bd_Store_back
  exact (mss_cons (ms_if (mt_cmp isD_s op_isN (me_var (pv 1)) me_non (nomark _))
    (mss_one (ms_raise (c := 6) rfl tk (L2N.pmk_own PySem.F.excBase_ValueError T.x_NoShot T.m_NoShot T.k_NoShot (raises_own T.bs_NoShot T.ty_NoShot) rfl)))
    mss_nil)
    (mss_one (ms_ret (me_meth (C := 1) (ok_Store_turned T) tk (hr.mono (by decide)) T.b_Store_turned T.cl_Store T.me_Store_turned no_turned (me_var (pv 0)) (ma_cons (me_meth (C := 1) (ok_Store_top T) tk (hr.mono (by decide)) T.b_Store_top T.cl_Store T.me_Store_top no_top (me_var (pv 0)) (ma_cons (me_var (pv 1)) ma_nil)) ma_nil)))))
theorem sc_Store_names : FnScope nm_Store_names ["self", "view", "path"] (defScope s_Store_names) := ⟨rfl, rfl, rfl, by decide +kernel, rfl, by decide +kernel, by decide +kernel⟩
theorem ok_Store_names (T : Txt K mg ad) : FnOk P w K mg base (L2N.CX P w) 6 ad.a_Store_names ad.d_Store_names ["self", "view", "path"] (spM (gg K ad) 3 m_Store_names) := by
  refine fn_ok (G := gg K ad) (body := bd_Store_names) T.F_Store_names sc_Store_names rfl rfl rfl (fun cdv A outer s H E hr => ?_)
  have nd := sc_Store_names.nd
  have hu := hu_of hr
  have hu64 := hr.units
  have tk : L2N.Takes (cx P w K mg base nm_Store_names "Store.names" s_Store_names ad.a_Store_names cdv A outer s H E) (We E) := L2N.takes_of rfl rfl rfl rfl
  have pas : PassesOwn (model P w) (cx P w K mg base nm_Store_names "Store.names" s_Store_names ad.a_Store_names cdv A outer s H E).A (cx P w K mg base nm_Store_names "Store.names" s_Store_names ad.a_Store_names cdv A outer s H E).env (cx P w K mg base nm_Store_names "Store.names" s_Store_names ad.a_Store_names cdv A outer s H E).xe := passes_of rfl
  unfold bd_Store_names
  unfold le_Store_names_1
  exact (mss_cons (ms_set (i := 3) (ps_set nd rfl (Or.inl rfl) (me_meth (C := 1) (ok_Store_kind T) tk (hr.mono (by decide)) T.b_Store_kind T.cl_Store T.me_Store_kind no_kind (me_var (pv 0)) (ma_cons (me_var (pv 1)) (ma_cons (me_var (pv 2)) ma_nil)))))
    (mss_cons (ms_if (mt_cmp isD_s op_isN (me_var (pv 3)) me_non (nomark _))
    (mss_one (ms_raise (c := 3) rfl tk (L2N.pmk_own PySem.F.excBase_ValueError T.x_Nothing T.m_Nothing T.k_Nothing (raises_own T.bs_Nothing T.ty_Nothing) rfl)))
    mss_nil)
    (mss_cons (ms_if (mt_cmp eqD_s (op_eqX hu64) (me_var (pv 3)) me_str (nomark _))
    (mss_one (ms_raise (c := 4) rfl tk (L2N.pmk_own PySem.F.excBase_ValueError T.x_LeafThere T.m_LeafThere T.k_LeafThere (raises_own T.bs_LeafThere T.ty_LeafThere) rfl)))
    mss_nil)
    (mss_one (ms_ret (me_lc (j := 4) rfl nd (mi_seq rfl (me_call (ok_rows_in T) tk (hr.mono (by decide)) rfl T.m_rows_in T.F_rows_in.kp T.b_rows_in (ma_cons (me_fld (C := 1) (i := 0) T.cl_Store T.na_pile nd_1 rfl (me_var (pv 0))) (ma_cons (me_call (ok_found T) tk (hr.mono (by decide)) rfl T.m_found T.F_found.kp T.b_found (ma_cons (me_fld (C := 1) (i := 0) T.cl_Store T.na_pile nd_1 rfl (me_var (pv 0))) (ma_cons (me_meth (C := 1) (ok_Store_top T) tk (hr.mono (by decide)) T.b_Store_top T.cl_Store T.me_Store_top no_top (me_var (pv 0)) (ma_cons (me_var (pv 1)) ma_nil)) (ma_cons (me_var (pv 2)) ma_nil)))) ma_nil)))) (blkOk_by (N := nm_Store_names) (sc := defScope s_Store_names) (own := [("pair", 4)]) (by decide +kernel)) (fun _ _ _ _ _ => pg_name (i := 4) nd rfl (Or.inl rfl)) (fun _ _ _ _ _ => mts_nil) (fun _ _ _ _ _ => (me_ix rfl (me_var (pv 4)) me_int (fun _ _ => rfl)))))))))
theorem sc_number_in : FnScope nm_number_in ["pile", "box"] (defScope s_number_in) := ⟨rfl, rfl, rfl, by decide +kernel, rfl, by decide +kernel, by decide +kernel⟩
theorem ok_number_in (T : Txt K mg ad) : FnOk P w K mg base (L2N.CX P w) 3 ad.a_number_in ad.d_number_in ["pile", "box"] (spM (gg K ad) 2 m_number_in) := by
  refine fn_ok (G := gg K ad) (body := bd_number_in) T.F_number_in sc_number_in rfl rfl rfl (fun cdv A outer s H E hr => ?_)
  have nd := sc_number_in.nd
  have hu := hu_of hr
  have hu64 := hr.units
  have tk : L2N.Takes (cx P w K mg base nm_number_in "number_in" s_number_in ad.a_number_in cdv A outer s H E) (We E) := L2N.takes_of rfl rfl rfl rfl
  have pas : PassesOwn (model P w) (cx P w K mg base nm_number_in "number_in" s_number_in ad.a_number_in cdv A outer s H E).A (cx P w K mg base nm_number_in "number_in" s_number_in ad.a_number_in cdv A outer s H E).env (cx P w K mg base nm_number_in "number_in" s_number_in ad.a_number_in cdv A outer s H E).xe := passes_of rfl
  unfold bd_number_in
  exact (mss_cons (ms_if (mt_cmp isD_s op_isN (me_var (pv 1)) me_non (nomark _))
    (mss_one (ms_ret me_non))
    mss_nil)
    (mss_cons (ms_set (i := 2) (ps_set nd rfl (Or.inl rfl) (me_meth (C := 0) (ok_Pile_content T) tk (hr.mono (by decide)) T.b_Pile_content T.cl_Pile T.me_Pile_content no_content (me_var (pv 0)) (ma_cons (me_var (pv 1)) ma_nil))))
    (mss_cons (ms_if (mt_cmp eqD_s (op_eqX hu64) (me_ix rfl (me_var (pv 2)) me_int (fun _ _ => rfl)) me_str (nomark _))
    (mss_one (ms_ret (me_ix rfl (me_var (pv 2)) me_int (fun _ _ => rfl))))
    mss_nil)
    (mss_one (ms_ret me_non)))))
theorem sc_path_of : FnScope nm_path_of ["row"] (defScope s_path_of) := ⟨rfl, rfl, rfl, by decide +kernel, rfl, by decide +kernel, by decide +kernel⟩
theorem ok_path_of (T : Txt K mg ad) : FnOk P w K mg base (L2N.CX P w) 1 ad.a_path_of ad.d_path_of ["row"] (spM (gg K ad) 1 m_path_of) := by
  refine fn_ok (G := gg K ad) (body := bd_path_of) T.F_path_of sc_path_of rfl rfl rfl (fun cdv A outer s H E hr => ?_)
  have nd := sc_path_of.nd
  have hu := hu_of hr
  have hu64 := hr.units
  have tk : L2N.Takes (cx P w K mg base nm_path_of "path_of" s_path_of ad.a_path_of cdv A outer s H E) (We E) := L2N.takes_of rfl rfl rfl rfl
  have pas : PassesOwn (model P w) (cx P w K mg base nm_path_of "path_of" s_path_of ad.a_path_of cdv A outer s H E).A (cx P w K mg base nm_path_of "path_of" s_path_of ad.a_path_of cdv A outer s H E).env (cx P w K mg base nm_path_of "path_of" s_path_of ad.a_path_of cdv A outer s H E).xe := passes_of rfl
  unfold bd_path_of
  exact (mss_one (ms_ret (me_ix rfl (me_var (pv 0)) me_int (fun _ _ => rfl))))
theorem sc_differences : FnScope nm_differences ["pile", "one", "other"] (defScope s_differences) := ⟨rfl, rfl, rfl, by decide +kernel, rfl, by decide +kernel, by decide +kernel⟩
theorem ok_differences (T : Txt K mg ad) : FnOk P w K mg base (L2N.CX P w) 4 ad.a_differences ad.d_differences ["pile", "one", "other"] (spM (gg K ad) 3 m_differences) := by
  refine fn_ok (G := gg K ad) (body := bd_differences) T.F_differences sc_differences rfl rfl rfl (fun cdv A outer s H E hr => ?_)
  have nd := sc_differences.nd
  have hu := hu_of hr
  have hu64 := hr.units
  have tk : L2N.Takes (cx P w K mg base nm_differences "differences" s_differences ad.a_differences cdv A outer s H E) (We E) := L2N.takes_of rfl rfl rfl rfl
  have pas : PassesOwn (model P w) (cx P w K mg base nm_differences "differences" s_differences ad.a_differences cdv A outer s H E).A (cx P w K mg base nm_differences "differences" s_differences ad.a_differences cdv A outer s H E).env (cx P w K mg base nm_differences "differences" s_differences ad.a_differences cdv A outer s H E).xe := passes_of rfl
  unfold bd_differences
  unfold lw_differences_2
  unfold lf_differences_1
  exact (mss_cons (ms_set (i := 3) (ps_set nd rfl (Or.inl rfl) (me_lstN (ma_cons (me_tup (ma_cons (me_lst ma_nil) (ma_cons (me_var (pv 1)) (ma_cons (me_var (pv 2)) ma_nil)))) ma_nil))))
    (mss_cons (ms_set (i := 4) (ps_set nd rfl (Or.inl rfl) (me_lstN ma_nil)))
    (mss_cons (ms_set (i := 5) (ps_set nd rfl (Or.inl rfl) me_int))
    (mss_cons (ms_while (n := fuelN) pas (mt_truth rfl (me_var (pv 3)))
    (mss_cons (ms_set (i := 6) (ps_set nd rfl (Or.inl rfl) (me_pop rfl (pe_bm0 PySem.F.plainAttrs_list PySem.F.slot_list_pop PySem.F.type_list_pop mt_pop (me_var (pv 3))))))
    (mss_one (ms_if (mt_cmp neD_s (op_neX hu64) (me_ix rfl (me_var (pv 6)) me_int (fun _ _ => rfl)) (me_ix rfl (me_var (pv 6)) me_int (fun _ _ => rfl)) (nomark _))
    (mss_cons (ms_set (i := 5) (ps_set nd rfl (Or.inl rfl) (me_bin addD_s op_addX (me_var (pv 5)) me_int)))
    (mss_cons (ms_set (i := 7) (ps_set nd rfl (Or.inl rfl) (me_call (ok_number_in T) tk (hr.mono (by decide)) rfl T.m_number_in T.F_number_in.kp T.b_number_in (ma_cons (me_var (pv 0)) (ma_cons (me_ix rfl (me_var (pv 6)) me_int (fun _ _ => rfl)) ma_nil)))))
    (mss_cons (ms_set (i := 8) (ps_set nd rfl (Or.inl rfl) (me_call (ok_number_in T) tk (hr.mono (by decide)) rfl T.m_number_in T.F_number_in.kp T.b_number_in (ma_cons (me_var (pv 0)) (ma_cons (me_ix rfl (me_var (pv 6)) me_int (fun _ _ => rfl)) ma_nil)))))
    (mss_cons (ms_if (mt_cmp neD_s (op_neX hu64) (me_var (pv 7)) (me_var (pv 8)) (nomark _))
    (mss_one (ms_expr (me_app rfl (me_var (pv 4)) (me_tup (ma_cons (me_ix rfl (me_var (pv 6)) me_int (fun _ _ => rfl)) (ma_cons (me_var (pv 7)) (ma_cons (me_var (pv 8)) ma_nil)))) rfl (fun h => pe_bm PySem.F.plainAttrs_list PySem.F.slot_list_append PySem.F.type_list_append mt_append (me_var (pv 4)) h))))
    mss_nil)
    (mss_cons (ms_set (i := 9) (ps_set nd rfl (Or.inl rfl) (me_call (ok_rows_in T) tk (hr.mono (by decide)) rfl T.m_rows_in T.F_rows_in.kp T.b_rows_in (ma_cons (me_var (pv 0)) (ma_cons (me_ix rfl (me_var (pv 6)) me_int (fun _ _ => rfl)) ma_nil)))))
    (mss_cons (ms_set (i := 10) (ps_set nd rfl (Or.inl rfl) (me_call (ok_rows_in T) tk (hr.mono (by decide)) rfl T.m_rows_in T.F_rows_in.kp T.b_rows_in (ma_cons (me_var (pv 0)) (ma_cons (me_ix rfl (me_var (pv 6)) me_int (fun _ _ => rfl)) ma_nil)))))
    (mss_one (ms_for pas rfl (mi_seq rfl me_bad) (pg_name (i := 11) nd rfl (Or.inl rfl)) (tgN_s 11)
    (mss_one (ms_expr (me_app rfl (me_var (pv 3)) (me_tup (ma_cons (me_bin addD_s op_addX (me_ix rfl (me_var (pv 6)) me_int (fun _ _ => rfl)) (me_lst (ma_cons (me_var (pv 11)) ma_nil))) (ma_cons (me_call (ok_box_of T) tk (hr.mono (by decide)) rfl T.m_box_of T.F_box_of.kp T.b_box_of (ma_cons (me_var (pv 9)) (ma_cons (me_var (pv 11)) ma_nil))) (ma_cons (me_call (ok_box_of T) tk (hr.mono (by decide)) rfl T.m_box_of T.F_box_of.kp T.b_box_of (ma_cons (me_var (pv 10)) (ma_cons (me_var (pv 11)) ma_nil))) ma_nil)))) rfl (fun h => pe_bm PySem.F.plainAttrs_list PySem.F.slot_list_append PySem.F.type_list_append mt_append (me_var (pv 3)) h))))))))))))
    mss_nil))))
    (mss_one (ms_ret (me_tup (ma_cons (me_sortK0 rfl rfl T.n_sorted (me_var (pv 4)) (me_gfn rfl T.m_path_of rfl) (fun h1 h2 => pe_callBK crk_sort0 rfl T.n_sorted b_sorted h1 h2)) (ma_cons (me_var (pv 5)) ma_nil)))))))))
theorem sc_Store_changes : FnScope nm_Store_changes ["self", "one", "other"] (defScope s_Store_changes) := ⟨rfl, rfl, rfl, by decide +kernel, rfl, by decide +kernel, by decide +kernel⟩
theorem ok_Store_changes (T : Txt K mg ad) : FnOk P w K mg base (L2N.CX P w) 5 ad.a_Store_changes ad.d_Store_changes ["self", "one", "other"] (spM (gg K ad) 3 m_Store_changes) := by
  refine fn_ok (G := gg K ad) (body := bd_Store_changes) T.F_Store_changes sc_Store_changes rfl rfl rfl (fun cdv A outer s H E hr => ?_)
  have nd := sc_Store_changes.nd
  have hu := hu_of hr
  have hu64 := hr.units
  have tk : L2N.Takes (cx P w K mg base nm_Store_changes "Store.changes" s_Store_changes ad.a_Store_changes cdv A outer s H E) (We E) := L2N.takes_of rfl rfl rfl rfl
  have pas : PassesOwn (model P w) (cx P w K mg base nm_Store_changes "Store.changes" s_Store_changes ad.a_Store_changes cdv A outer s H E).A (cx P w K mg base nm_Store_changes "Store.changes" s_Store_changes ad.a_Store_changes cdv A outer s H E).env (cx P w K mg base nm_Store_changes "Store.changes" s_Store_changes ad.a_Store_changes cdv A outer s H E).xe := passes_of rfl
  unfold bd_Store_changes
  exact (mss_one (ms_ret (me_call (ok_differences T) tk (hr.mono (by decide)) rfl T.m_differences T.F_differences.kp T.b_differences (ma_cons (me_fld (C := 1) (i := 0) T.cl_Store T.na_pile nd_1 rfl (me_var (pv 0))) (ma_cons (me_meth (C := 1) (ok_Store_top T) tk (hr.mono (by decide)) T.b_Store_top T.cl_Store T.me_Store_top no_top (me_var (pv 0)) (ma_cons (me_var (pv 1)) ma_nil)) (ma_cons (me_meth (C := 1) (ok_Store_top T) tk (hr.mono (by decide)) T.b_Store_top T.cl_Store T.me_Store_top no_top (me_var (pv 0)) (ma_cons (me_var (pv 2)) ma_nil)) ma_nil))))))
theorem sc_l_asked : FnScope nm_l_asked ["_law_store", "_law_way", "_law_path", "_law_number", "_law_view"] (defScope s_l_asked) := ⟨rfl, rfl, rfl, by decide +kernel, rfl, by decide +kernel, by decide +kernel⟩
theorem ok_l_asked (T : Txt K mg ad) : FnOk P w K mg base (L2N.CX P w) 8 ad.a_l_asked ad.d_l_asked ["_law_store", "_law_way", "_law_path", "_law_number", "_law_view"] (spM (gg K ad) 5 m_l_asked) := by
  refine fn_ok (G := gg K ad) (body := bd_l_asked) T.F_l_asked sc_l_asked rfl rfl rfl (fun cdv A outer s H E hr => ?_)
  have nd := sc_l_asked.nd
  have hu := hu_of hr
  have hu64 := hr.units
  have tk : L2N.Takes (cx P w K mg base nm_l_asked "_law_asked" s_l_asked ad.a_l_asked cdv A outer s H E) (We E) := L2N.takes_of rfl rfl rfl rfl
  have pas : PassesOwn (model P w) (cx P w K mg base nm_l_asked "_law_asked" s_l_asked ad.a_l_asked cdv A outer s H E).A (cx P w K mg base nm_l_asked "_law_asked" s_l_asked ad.a_l_asked cdv A outer s H E).env (cx P w K mg base nm_l_asked "_law_asked" s_l_asked ad.a_l_asked cdv A outer s H E).xe := passes_of rfl
  unfold bd_l_asked
  exact (mss_one (ms_if (mt_cmp eqD_s (op_eqX hu64) (me_var (pv 1)) me_int (nomark _))
    (mss_one (ms_expr (me_meth (C := 1) (ok_Store_put T) tk (hr.mono (by decide)) T.b_Store_put T.cl_Store T.me_Store_put no_put (me_var (pv 0)) (ma_cons (me_var (pv 2)) (ma_cons (me_var (pv 3)) ma_nil)))))
    (mss_one (ms_if (mt_cmp eqD_s (op_eqX hu64) (me_var (pv 1)) me_int (nomark _))
    (mss_one (ms_expr (me_meth (C := 1) (ok_Store_cut T) tk (hr.mono (by decide)) T.b_Store_cut T.cl_Store T.me_Store_cut no_cut (me_var (pv 0)) (ma_cons (me_var (pv 2)) ma_nil))))
    (mss_one (ms_if (mt_cmp eqD_s (op_eqX hu64) (me_var (pv 1)) me_int (nomark _))
    (mss_one (ms_expr (me_meth (C := 1) (ok_Store_drop T) tk (hr.mono (by decide)) T.b_Store_drop T.cl_Store T.me_Store_drop no_drop (me_var (pv 0)) (ma_cons (me_var (pv 4)) ma_nil))))
    (mss_one (ms_if (mt_cmp eqD_s (op_eqX hu64) (me_var (pv 1)) me_int (nomark _))
    (mss_one (ms_expr (me_meth (C := 1) (ok_Store_back T) tk (hr.mono (by decide)) T.b_Store_back T.cl_Store T.me_Store_back no_back (me_var (pv 0)) (ma_cons (me_var (pv 4)) ma_nil))))
    (mss_one (ms_if (mt_cmp eqD_s (op_eqX hu64) (me_var (pv 1)) me_int (nomark _))
    (mss_one (ms_expr (me_meth (C := 1) (ok_Store_value T) tk (hr.mono (by decide)) T.b_Store_value T.cl_Store T.me_Store_value no_value (me_var (pv 0)) (ma_cons (me_var (pv 4)) (ma_cons (me_var (pv 2)) ma_nil)))))
    (mss_one (ms_if (mt_cmp eqD_s (op_eqX hu64) (me_var (pv 1)) me_int (nomark _))
    (mss_one (ms_expr (me_meth (C := 1) (ok_Store_names T) tk (hr.mono (by decide)) T.b_Store_names T.cl_Store T.me_Store_names no_names (me_var (pv 0)) (ma_cons (me_var (pv 4)) (ma_cons (me_var (pv 2)) ma_nil)))))
    (mss_one (ms_if (mt_cmp eqD_s (op_eqX hu64) (me_var (pv 1)) me_int (nomark _))
    (mss_one (ms_expr (me_meth (C := 1) (ok_Store_kind T) tk (hr.mono (by decide)) T.b_Store_kind T.cl_Store T.me_Store_kind no_kind (me_var (pv 0)) (ma_cons (me_var (pv 4)) (ma_cons (me_var (pv 2)) ma_nil)))))
    (mss_one (ms_if (mt_cmp eqD_s (op_eqX hu64) (me_var (pv 1)) me_int (nomark _))
    (mss_one (ms_expr (me_meth (C := 1) (ok_Store_changes T) tk (hr.mono (by decide)) T.b_Store_changes T.cl_Store T.me_Store_changes no_changes (me_var (pv 0)) (ma_cons me_non (ma_cons (me_var (pv 4)) ma_nil)))))
    (mss_one (ms_if (mt_cmp eqD_s (op_eqX hu64) (me_var (pv 1)) me_int (nomark _))
    (mss_one (ms_expr (me_meth (C := 1) (ok_Store_changes T) tk (hr.mono (by decide)) T.b_Store_changes T.cl_Store T.me_Store_changes no_changes (me_var (pv 0)) (ma_cons (me_var (pv 4)) (ma_cons me_int ma_nil)))))
    (mss_one (ms_expr (me_meth (C := 1) (ok_Store_top T) tk (hr.mono (by decide)) T.b_Store_top T.cl_Store T.me_Store_top no_top (me_var (pv 0)) (ma_cons (me_var (pv 4)) ma_nil))))))))))))))))))))))
theorem sc_l_told : FnScope nm_l_told ["_law_store", "_law_way", "_law_path", "_law_number", "_law_view"] (defScope s_l_told) := ⟨rfl, rfl, rfl, by decide +kernel, rfl, by decide +kernel, by decide +kernel⟩
theorem ok_l_told (T : Txt K mg ad) : FnOk P w K mg base (L2N.CX P w) 9 ad.a_l_told ad.d_l_told ["_law_store", "_law_way", "_law_path", "_law_number", "_law_view"] (spM (gg K ad) 5 m_l_told) := by
  refine fn_ok (G := gg K ad) (body := bd_l_told) T.F_l_told sc_l_told rfl rfl rfl (fun cdv A outer s H E hr => ?_)
  have nd := sc_l_told.nd
  have hu := hu_of hr
  have hu64 := hr.units
  have tk : L2N.Takes (cx P w K mg base nm_l_told "_law_told" s_l_told ad.a_l_told cdv A outer s H E) (We E) := L2N.takes_of rfl rfl rfl rfl
  have pas : PassesOwn (model P w) (cx P w K mg base nm_l_told "_law_told" s_l_told ad.a_l_told cdv A outer s H E).A (cx P w K mg base nm_l_told "_law_told" s_l_told ad.a_l_told cdv A outer s H E).env (cx P w K mg base nm_l_told "_law_told" s_l_told ad.a_l_told cdv A outer s H E).xe := passes_of rfl
  unfold bd_l_told
  exact (mss_cons (ms_try_as (i := 6) rfl rfl rfl nd rfl rfl ⟨rfl, by decide, .inl T.m_SnapError⟩ tk
    (fun W pn xe tk pas => (mss_one (ms_expr (me_call (ok_l_asked T) tk (hr.mono (by decide)) rfl T.m_l_asked T.F_l_asked.kp T.b_l_asked (ma_cons (me_var (pv 0)) (ma_cons (me_var (pv 1)) (ma_cons (me_var (pv 2)) (ma_cons (me_var (pv 3)) (ma_cons (me_var (pv 4)) ma_nil)))))))))
    (.hit (c := 1) (PySem.W.exm_ref T.bs_SnapError T.hd_SnapError T.ty_SnapError T.su_BadPath_SnapError) rfl (fun a oe pn hz hf => (ks_setW (i := 6) (j := 5) (w := "path ") (u := "path ") (by decide) (fun _ h => h) (fun t h => ps_set nd rfl (Or.inl rfl) h) (k_addT (z := "path ") (w := "") (u := "path ") (by decide +kernel) (by decide +kernel) (k_mulT (z := "path ") (w := "path ") (c := true) (by decide +kernel) rfl (k_c pe_str) (k_int (b := true) rfl T.n_int (k_isE (b := true) (cv := (.ref ad.x_BadPath)) T.ec_BadPath hz hf rfl T.n_isinstance (k_var (i := 6) (fun _ h => h) (pv 6)) (k_c (pe_glob rfl T.m_BadPath rfl)) (fun _ h => h) (kit_own T.hd_BadPath T.ty_BadPath T.su_BadPath_BadPath T.su_BadPath_BadPath)))) (k_mulT (z := "number ") (w := "") (c := false) (by decide +kernel) rfl (k_c pe_str) (k_int (b := false) rfl T.n_int (k_isE (b := false) (cv := (.ref ad.x_BadNumber)) T.ec_BadPath hz hf rfl T.n_isinstance (k_var (i := 6) (fun _ h => h) (pv 6)) (k_c (pe_glob rfl T.m_BadNumber rfl)) (fun _ h => h) (kit_own T.hd_BadNumber T.ty_BadNumber T.su_BadPath_BadNumber T.su_BadNumber_BadNumber))))) (ks_setW (i := 6) (j := 5) (w := "path ") (u := "path ") (by decide) (fun _ h => h.1) (fun t h => ps_set nd rfl (Or.inl rfl) h) (k_addT (z := "path ") (w := "") (u := "path ") (by decide +kernel) (by decide +kernel) (k_addT (z := "path ") (w := "") (u := "path ") (by decide +kernel) (by decide +kernel) (k_var (i := 5) (fun _ h => h.2) (pv 5)) (k_mulT (z := "leaf ") (w := "") (c := false) (by decide +kernel) rfl (k_c pe_str) (k_int (b := false) rfl T.n_int (k_isE (b := false) (cv := (.ref ad.x_LeafThere)) T.ec_BadPath hz hf rfl T.n_isinstance (k_var (i := 6) (fun _ h => h.1) (pv 6)) (k_c (pe_glob rfl T.m_LeafThere rfl)) (fun _ h => h) (kit_own T.hd_LeafThere T.ty_LeafThere T.su_BadPath_LeafThere T.su_LeafThere_LeafThere))))) (k_mulT (z := "branch ") (w := "") (c := false) (by decide +kernel) rfl (k_c pe_str) (k_int (b := false) rfl T.n_int (k_isE (b := false) (cv := (.ref ad.x_BranchThere)) T.ec_BadPath hz hf rfl T.n_isinstance (k_var (i := 6) (fun _ h => h.1) (pv 6)) (k_c (pe_glob rfl T.m_BranchThere rfl)) (fun _ h => h) (kit_own T.hd_BranchThere T.ty_BranchThere T.su_BadPath_BranchThere T.su_BranchThere_BranchThere))))) (ks_setW (i := 6) (j := 5) (w := "path ") (u := "path ") (by decide) (fun _ h => h.1) (fun t h => ps_set nd rfl (Or.inl rfl) h) (k_addT (z := "path ") (w := "") (u := "path ") (by decide +kernel) (by decide +kernel) (k_addT (z := "path ") (w := "") (u := "path ") (by decide +kernel) (by decide +kernel) (k_var (i := 5) (fun _ h => h.2) (pv 5)) (k_mulT (z := "nothing ") (w := "") (c := false) (by decide +kernel) rfl (k_c pe_str) (k_int (b := false) rfl T.n_int (k_isE (b := false) (cv := (.ref ad.x_Nothing)) T.ec_BadPath hz hf rfl T.n_isinstance (k_var (i := 6) (fun _ h => h.1) (pv 6)) (k_c (pe_glob rfl T.m_Nothing rfl)) (fun _ h => h) (kit_own T.hd_Nothing T.ty_Nothing T.su_BadPath_Nothing T.su_Nothing_Nothing))))) (k_mulT (z := "shot ") (w := "") (c := false) (by decide +kernel) rfl (k_c pe_str) (k_int (b := false) rfl T.n_int (k_isE (b := false) (cv := (.ref ad.x_NoShot)) T.ec_BadPath hz hf rfl T.n_isinstance (k_var (i := 6) (fun _ h => h.1) (pv 6)) (k_c (pe_glob rfl T.m_NoShot rfl)) (fun _ h => h) (kit_own T.hd_NoShot T.ty_NoShot T.su_BadPath_NoShot T.su_NoShot_NoShot))))) (ks_ret (k_addT (z := "path ") (w := "value") (u := "path value") (by decide +kernel) (by decide +kernel) (k_addT (z := "path ") (w := "") (u := "path ") (by decide +kernel) (by decide +kernel) (k_var (i := 5) (fun _ h => h.2) (pv 5)) (k_mulT (z := "box ") (w := "") (c := false) (by decide +kernel) rfl (k_c pe_str) (k_int (b := false) rfl T.n_int (k_isE (b := false) (cv := (.ref ad.x_NoBox)) T.ec_BadPath hz hf rfl T.n_isinstance (k_var (i := 6) (fun _ h => h.1) (pv 6)) (k_c (pe_glob rfl T.m_NoBox rfl)) (fun _ h => h) (kit_own T.hd_NoBox T.ty_NoBox T.su_BadPath_NoBox T.su_NoBox_NoBox))))) (k_mulT (z := "value") (w := "value") (c := true) (by decide +kernel) rfl (k_c pe_str) (k_int (b := true) rfl T.n_int (k_isE (b := true) (cv := (.ty "ValueError")) T.ec_BadPath hz hf rfl T.n_isinstance (k_var (i := 6) (fun _ h => h.1) (pv 6)) (k_c (pe_bltn rfl T.n_ValueError b_ValueError rfl)) (fun _ h => h) (kit_val T.vs_BadPath)))))))))) (.hit (c := 2) (PySem.W.exm_ref T.bs_SnapError T.hd_SnapError T.ty_SnapError T.su_BadNumber_SnapError) rfl (fun a oe pn hz hf => (ks_setW (i := 6) (j := 5) (w := "number ") (u := "number ") (by decide) (fun _ h => h) (fun t h => ps_set nd rfl (Or.inl rfl) h) (k_addT (z := "") (w := "number ") (u := "number ") (by decide +kernel) (by decide +kernel) (k_mulT (z := "path ") (w := "") (c := false) (by decide +kernel) rfl (k_c pe_str) (k_int (b := false) rfl T.n_int (k_isE (b := false) (cv := (.ref ad.x_BadPath)) T.ec_BadNumber hz hf rfl T.n_isinstance (k_var (i := 6) (fun _ h => h) (pv 6)) (k_c (pe_glob rfl T.m_BadPath rfl)) (fun _ h => h) (kit_own T.hd_BadPath T.ty_BadPath T.su_BadNumber_BadPath T.su_BadPath_BadPath)))) (k_mulT (z := "number ") (w := "number ") (c := true) (by decide +kernel) rfl (k_c pe_str) (k_int (b := true) rfl T.n_int (k_isE (b := true) (cv := (.ref ad.x_BadNumber)) T.ec_BadNumber hz hf rfl T.n_isinstance (k_var (i := 6) (fun _ h => h) (pv 6)) (k_c (pe_glob rfl T.m_BadNumber rfl)) (fun _ h => h) (kit_own T.hd_BadNumber T.ty_BadNumber T.su_BadNumber_BadNumber T.su_BadNumber_BadNumber))))) (ks_setW (i := 6) (j := 5) (w := "number ") (u := "number ") (by decide) (fun _ h => h.1) (fun t h => ps_set nd rfl (Or.inl rfl) h) (k_addT (z := "number ") (w := "") (u := "number ") (by decide +kernel) (by decide +kernel) (k_addT (z := "number ") (w := "") (u := "number ") (by decide +kernel) (by decide +kernel) (k_var (i := 5) (fun _ h => h.2) (pv 5)) (k_mulT (z := "leaf ") (w := "") (c := false) (by decide +kernel) rfl (k_c pe_str) (k_int (b := false) rfl T.n_int (k_isE (b := false) (cv := (.ref ad.x_LeafThere)) T.ec_BadNumber hz hf rfl T.n_isinstance (k_var (i := 6) (fun _ h => h.1) (pv 6)) (k_c (pe_glob rfl T.m_LeafThere rfl)) (fun _ h => h) (kit_own T.hd_LeafThere T.ty_LeafThere T.su_BadNumber_LeafThere T.su_LeafThere_LeafThere))))) (k_mulT (z := "branch ") (w := "") (c := false) (by decide +kernel) rfl (k_c pe_str) (k_int (b := false) rfl T.n_int (k_isE (b := false) (cv := (.ref ad.x_BranchThere)) T.ec_BadNumber hz hf rfl T.n_isinstance (k_var (i := 6) (fun _ h => h.1) (pv 6)) (k_c (pe_glob rfl T.m_BranchThere rfl)) (fun _ h => h) (kit_own T.hd_BranchThere T.ty_BranchThere T.su_BadNumber_BranchThere T.su_BranchThere_BranchThere))))) (ks_setW (i := 6) (j := 5) (w := "number ") (u := "number ") (by decide) (fun _ h => h.1) (fun t h => ps_set nd rfl (Or.inl rfl) h) (k_addT (z := "number ") (w := "") (u := "number ") (by decide +kernel) (by decide +kernel) (k_addT (z := "number ") (w := "") (u := "number ") (by decide +kernel) (by decide +kernel) (k_var (i := 5) (fun _ h => h.2) (pv 5)) (k_mulT (z := "nothing ") (w := "") (c := false) (by decide +kernel) rfl (k_c pe_str) (k_int (b := false) rfl T.n_int (k_isE (b := false) (cv := (.ref ad.x_Nothing)) T.ec_BadNumber hz hf rfl T.n_isinstance (k_var (i := 6) (fun _ h => h.1) (pv 6)) (k_c (pe_glob rfl T.m_Nothing rfl)) (fun _ h => h) (kit_own T.hd_Nothing T.ty_Nothing T.su_BadNumber_Nothing T.su_Nothing_Nothing))))) (k_mulT (z := "shot ") (w := "") (c := false) (by decide +kernel) rfl (k_c pe_str) (k_int (b := false) rfl T.n_int (k_isE (b := false) (cv := (.ref ad.x_NoShot)) T.ec_BadNumber hz hf rfl T.n_isinstance (k_var (i := 6) (fun _ h => h.1) (pv 6)) (k_c (pe_glob rfl T.m_NoShot rfl)) (fun _ h => h) (kit_own T.hd_NoShot T.ty_NoShot T.su_BadNumber_NoShot T.su_NoShot_NoShot))))) (ks_ret (k_addT (z := "number ") (w := "value") (u := "number value") (by decide +kernel) (by decide +kernel) (k_addT (z := "number ") (w := "") (u := "number ") (by decide +kernel) (by decide +kernel) (k_var (i := 5) (fun _ h => h.2) (pv 5)) (k_mulT (z := "box ") (w := "") (c := false) (by decide +kernel) rfl (k_c pe_str) (k_int (b := false) rfl T.n_int (k_isE (b := false) (cv := (.ref ad.x_NoBox)) T.ec_BadNumber hz hf rfl T.n_isinstance (k_var (i := 6) (fun _ h => h.1) (pv 6)) (k_c (pe_glob rfl T.m_NoBox rfl)) (fun _ h => h) (kit_own T.hd_NoBox T.ty_NoBox T.su_BadNumber_NoBox T.su_NoBox_NoBox))))) (k_mulT (z := "value") (w := "value") (c := true) (by decide +kernel) rfl (k_c pe_str) (k_int (b := true) rfl T.n_int (k_isE (b := true) (cv := (.ty "ValueError")) T.ec_BadNumber hz hf rfl T.n_isinstance (k_var (i := 6) (fun _ h => h.1) (pv 6)) (k_c (pe_bltn rfl T.n_ValueError b_ValueError rfl)) (fun _ h => h) (kit_val T.vs_BadNumber)))))))))) (.hit (c := 3) (PySem.W.exm_ref T.bs_SnapError T.hd_SnapError T.ty_SnapError T.su_Nothing_SnapError) rfl (fun a oe pn hz hf => (ks_setW (i := 6) (j := 5) (w := "") (u := "") (by decide) (fun _ h => h) (fun t h => ps_set nd rfl (Or.inl rfl) h) (k_addT (z := "") (w := "") (u := "") (by decide +kernel) (by decide +kernel) (k_mulT (z := "path ") (w := "") (c := false) (by decide +kernel) rfl (k_c pe_str) (k_int (b := false) rfl T.n_int (k_isE (b := false) (cv := (.ref ad.x_BadPath)) T.ec_Nothing hz hf rfl T.n_isinstance (k_var (i := 6) (fun _ h => h) (pv 6)) (k_c (pe_glob rfl T.m_BadPath rfl)) (fun _ h => h) (kit_own T.hd_BadPath T.ty_BadPath T.su_Nothing_BadPath T.su_BadPath_BadPath)))) (k_mulT (z := "number ") (w := "") (c := false) (by decide +kernel) rfl (k_c pe_str) (k_int (b := false) rfl T.n_int (k_isE (b := false) (cv := (.ref ad.x_BadNumber)) T.ec_Nothing hz hf rfl T.n_isinstance (k_var (i := 6) (fun _ h => h) (pv 6)) (k_c (pe_glob rfl T.m_BadNumber rfl)) (fun _ h => h) (kit_own T.hd_BadNumber T.ty_BadNumber T.su_Nothing_BadNumber T.su_BadNumber_BadNumber))))) (ks_setW (i := 6) (j := 5) (w := "") (u := "") (by decide) (fun _ h => h.1) (fun t h => ps_set nd rfl (Or.inl rfl) h) (k_addT (z := "") (w := "") (u := "") (by decide +kernel) (by decide +kernel) (k_addT (z := "") (w := "") (u := "") (by decide +kernel) (by decide +kernel) (k_var (i := 5) (fun _ h => h.2) (pv 5)) (k_mulT (z := "leaf ") (w := "") (c := false) (by decide +kernel) rfl (k_c pe_str) (k_int (b := false) rfl T.n_int (k_isE (b := false) (cv := (.ref ad.x_LeafThere)) T.ec_Nothing hz hf rfl T.n_isinstance (k_var (i := 6) (fun _ h => h.1) (pv 6)) (k_c (pe_glob rfl T.m_LeafThere rfl)) (fun _ h => h) (kit_own T.hd_LeafThere T.ty_LeafThere T.su_Nothing_LeafThere T.su_LeafThere_LeafThere))))) (k_mulT (z := "branch ") (w := "") (c := false) (by decide +kernel) rfl (k_c pe_str) (k_int (b := false) rfl T.n_int (k_isE (b := false) (cv := (.ref ad.x_BranchThere)) T.ec_Nothing hz hf rfl T.n_isinstance (k_var (i := 6) (fun _ h => h.1) (pv 6)) (k_c (pe_glob rfl T.m_BranchThere rfl)) (fun _ h => h) (kit_own T.hd_BranchThere T.ty_BranchThere T.su_Nothing_BranchThere T.su_BranchThere_BranchThere))))) (ks_setW (i := 6) (j := 5) (w := "nothing ") (u := "nothing ") (by decide) (fun _ h => h.1) (fun t h => ps_set nd rfl (Or.inl rfl) h) (k_addT (z := "nothing ") (w := "") (u := "nothing ") (by decide +kernel) (by decide +kernel) (k_addT (z := "") (w := "nothing ") (u := "nothing ") (by decide +kernel) (by decide +kernel) (k_var (i := 5) (fun _ h => h.2) (pv 5)) (k_mulT (z := "nothing ") (w := "nothing ") (c := true) (by decide +kernel) rfl (k_c pe_str) (k_int (b := true) rfl T.n_int (k_isE (b := true) (cv := (.ref ad.x_Nothing)) T.ec_Nothing hz hf rfl T.n_isinstance (k_var (i := 6) (fun _ h => h.1) (pv 6)) (k_c (pe_glob rfl T.m_Nothing rfl)) (fun _ h => h) (kit_own T.hd_Nothing T.ty_Nothing T.su_Nothing_Nothing T.su_Nothing_Nothing))))) (k_mulT (z := "shot ") (w := "") (c := false) (by decide +kernel) rfl (k_c pe_str) (k_int (b := false) rfl T.n_int (k_isE (b := false) (cv := (.ref ad.x_NoShot)) T.ec_Nothing hz hf rfl T.n_isinstance (k_var (i := 6) (fun _ h => h.1) (pv 6)) (k_c (pe_glob rfl T.m_NoShot rfl)) (fun _ h => h) (kit_own T.hd_NoShot T.ty_NoShot T.su_Nothing_NoShot T.su_NoShot_NoShot))))) (ks_ret (k_addT (z := "nothing ") (w := "value") (u := "nothing value") (by decide +kernel) (by decide +kernel) (k_addT (z := "nothing ") (w := "") (u := "nothing ") (by decide +kernel) (by decide +kernel) (k_var (i := 5) (fun _ h => h.2) (pv 5)) (k_mulT (z := "box ") (w := "") (c := false) (by decide +kernel) rfl (k_c pe_str) (k_int (b := false) rfl T.n_int (k_isE (b := false) (cv := (.ref ad.x_NoBox)) T.ec_Nothing hz hf rfl T.n_isinstance (k_var (i := 6) (fun _ h => h.1) (pv 6)) (k_c (pe_glob rfl T.m_NoBox rfl)) (fun _ h => h) (kit_own T.hd_NoBox T.ty_NoBox T.su_Nothing_NoBox T.su_NoBox_NoBox))))) (k_mulT (z := "value") (w := "value") (c := true) (by decide +kernel) rfl (k_c pe_str) (k_int (b := true) rfl T.n_int (k_isE (b := true) (cv := (.ty "ValueError")) T.ec_Nothing hz hf rfl T.n_isinstance (k_var (i := 6) (fun _ h => h.1) (pv 6)) (k_c (pe_bltn rfl T.n_ValueError b_ValueError rfl)) (fun _ h => h) (kit_val T.vs_Nothing)))))))))) (.hit (c := 4) (PySem.W.exm_ref T.bs_SnapError T.hd_SnapError T.ty_SnapError T.su_LeafThere_SnapError) rfl (fun a oe pn hz hf => (ks_setW (i := 6) (j := 5) (w := "") (u := "") (by decide) (fun _ h => h) (fun t h => ps_set nd rfl (Or.inl rfl) h) (k_addT (z := "") (w := "") (u := "") (by decide +kernel) (by decide +kernel) (k_mulT (z := "path ") (w := "") (c := false) (by decide +kernel) rfl (k_c pe_str) (k_int (b := false) rfl T.n_int (k_isE (b := false) (cv := (.ref ad.x_BadPath)) T.ec_LeafThere hz hf rfl T.n_isinstance (k_var (i := 6) (fun _ h => h) (pv 6)) (k_c (pe_glob rfl T.m_BadPath rfl)) (fun _ h => h) (kit_own T.hd_BadPath T.ty_BadPath T.su_LeafThere_BadPath T.su_BadPath_BadPath)))) (k_mulT (z := "number ") (w := "") (c := false) (by decide +kernel) rfl (k_c pe_str) (k_int (b := false) rfl T.n_int (k_isE (b := false) (cv := (.ref ad.x_BadNumber)) T.ec_LeafThere hz hf rfl T.n_isinstance (k_var (i := 6) (fun _ h => h) (pv 6)) (k_c (pe_glob rfl T.m_BadNumber rfl)) (fun _ h => h) (kit_own T.hd_BadNumber T.ty_BadNumber T.su_LeafThere_BadNumber T.su_BadNumber_BadNumber))))) (ks_setW (i := 6) (j := 5) (w := "leaf ") (u := "leaf ") (by decide) (fun _ h => h.1) (fun t h => ps_set nd rfl (Or.inl rfl) h) (k_addT (z := "leaf ") (w := "") (u := "leaf ") (by decide +kernel) (by decide +kernel) (k_addT (z := "") (w := "leaf ") (u := "leaf ") (by decide +kernel) (by decide +kernel) (k_var (i := 5) (fun _ h => h.2) (pv 5)) (k_mulT (z := "leaf ") (w := "leaf ") (c := true) (by decide +kernel) rfl (k_c pe_str) (k_int (b := true) rfl T.n_int (k_isE (b := true) (cv := (.ref ad.x_LeafThere)) T.ec_LeafThere hz hf rfl T.n_isinstance (k_var (i := 6) (fun _ h => h.1) (pv 6)) (k_c (pe_glob rfl T.m_LeafThere rfl)) (fun _ h => h) (kit_own T.hd_LeafThere T.ty_LeafThere T.su_LeafThere_LeafThere T.su_LeafThere_LeafThere))))) (k_mulT (z := "branch ") (w := "") (c := false) (by decide +kernel) rfl (k_c pe_str) (k_int (b := false) rfl T.n_int (k_isE (b := false) (cv := (.ref ad.x_BranchThere)) T.ec_LeafThere hz hf rfl T.n_isinstance (k_var (i := 6) (fun _ h => h.1) (pv 6)) (k_c (pe_glob rfl T.m_BranchThere rfl)) (fun _ h => h) (kit_own T.hd_BranchThere T.ty_BranchThere T.su_LeafThere_BranchThere T.su_BranchThere_BranchThere))))) (ks_setW (i := 6) (j := 5) (w := "leaf ") (u := "leaf ") (by decide) (fun _ h => h.1) (fun t h => ps_set nd rfl (Or.inl rfl) h) (k_addT (z := "leaf ") (w := "") (u := "leaf ") (by decide +kernel) (by decide +kernel) (k_addT (z := "leaf ") (w := "") (u := "leaf ") (by decide +kernel) (by decide +kernel) (k_var (i := 5) (fun _ h => h.2) (pv 5)) (k_mulT (z := "nothing ") (w := "") (c := false) (by decide +kernel) rfl (k_c pe_str) (k_int (b := false) rfl T.n_int (k_isE (b := false) (cv := (.ref ad.x_Nothing)) T.ec_LeafThere hz hf rfl T.n_isinstance (k_var (i := 6) (fun _ h => h.1) (pv 6)) (k_c (pe_glob rfl T.m_Nothing rfl)) (fun _ h => h) (kit_own T.hd_Nothing T.ty_Nothing T.su_LeafThere_Nothing T.su_Nothing_Nothing))))) (k_mulT (z := "shot ") (w := "") (c := false) (by decide +kernel) rfl (k_c pe_str) (k_int (b := false) rfl T.n_int (k_isE (b := false) (cv := (.ref ad.x_NoShot)) T.ec_LeafThere hz hf rfl T.n_isinstance (k_var (i := 6) (fun _ h => h.1) (pv 6)) (k_c (pe_glob rfl T.m_NoShot rfl)) (fun _ h => h) (kit_own T.hd_NoShot T.ty_NoShot T.su_LeafThere_NoShot T.su_NoShot_NoShot))))) (ks_ret (k_addT (z := "leaf ") (w := "value") (u := "leaf value") (by decide +kernel) (by decide +kernel) (k_addT (z := "leaf ") (w := "") (u := "leaf ") (by decide +kernel) (by decide +kernel) (k_var (i := 5) (fun _ h => h.2) (pv 5)) (k_mulT (z := "box ") (w := "") (c := false) (by decide +kernel) rfl (k_c pe_str) (k_int (b := false) rfl T.n_int (k_isE (b := false) (cv := (.ref ad.x_NoBox)) T.ec_LeafThere hz hf rfl T.n_isinstance (k_var (i := 6) (fun _ h => h.1) (pv 6)) (k_c (pe_glob rfl T.m_NoBox rfl)) (fun _ h => h) (kit_own T.hd_NoBox T.ty_NoBox T.su_LeafThere_NoBox T.su_NoBox_NoBox))))) (k_mulT (z := "value") (w := "value") (c := true) (by decide +kernel) rfl (k_c pe_str) (k_int (b := true) rfl T.n_int (k_isE (b := true) (cv := (.ty "ValueError")) T.ec_LeafThere hz hf rfl T.n_isinstance (k_var (i := 6) (fun _ h => h.1) (pv 6)) (k_c (pe_bltn rfl T.n_ValueError b_ValueError rfl)) (fun _ h => h) (kit_val T.vs_LeafThere)))))))))) (.hit (c := 5) (PySem.W.exm_ref T.bs_SnapError T.hd_SnapError T.ty_SnapError T.su_BranchThere_SnapError) rfl (fun a oe pn hz hf => (ks_setW (i := 6) (j := 5) (w := "") (u := "") (by decide) (fun _ h => h) (fun t h => ps_set nd rfl (Or.inl rfl) h) (k_addT (z := "") (w := "") (u := "") (by decide +kernel) (by decide +kernel) (k_mulT (z := "path ") (w := "") (c := false) (by decide +kernel) rfl (k_c pe_str) (k_int (b := false) rfl T.n_int (k_isE (b := false) (cv := (.ref ad.x_BadPath)) T.ec_BranchThere hz hf rfl T.n_isinstance (k_var (i := 6) (fun _ h => h) (pv 6)) (k_c (pe_glob rfl T.m_BadPath rfl)) (fun _ h => h) (kit_own T.hd_BadPath T.ty_BadPath T.su_BranchThere_BadPath T.su_BadPath_BadPath)))) (k_mulT (z := "number ") (w := "") (c := false) (by decide +kernel) rfl (k_c pe_str) (k_int (b := false) rfl T.n_int (k_isE (b := false) (cv := (.ref ad.x_BadNumber)) T.ec_BranchThere hz hf rfl T.n_isinstance (k_var (i := 6) (fun _ h => h) (pv 6)) (k_c (pe_glob rfl T.m_BadNumber rfl)) (fun _ h => h) (kit_own T.hd_BadNumber T.ty_BadNumber T.su_BranchThere_BadNumber T.su_BadNumber_BadNumber))))) (ks_setW (i := 6) (j := 5) (w := "branch ") (u := "branch ") (by decide) (fun _ h => h.1) (fun t h => ps_set nd rfl (Or.inl rfl) h) (k_addT (z := "") (w := "branch ") (u := "branch ") (by decide +kernel) (by decide +kernel) (k_addT (z := "") (w := "") (u := "") (by decide +kernel) (by decide +kernel) (k_var (i := 5) (fun _ h => h.2) (pv 5)) (k_mulT (z := "leaf ") (w := "") (c := false) (by decide +kernel) rfl (k_c pe_str) (k_int (b := false) rfl T.n_int (k_isE (b := false) (cv := (.ref ad.x_LeafThere)) T.ec_BranchThere hz hf rfl T.n_isinstance (k_var (i := 6) (fun _ h => h.1) (pv 6)) (k_c (pe_glob rfl T.m_LeafThere rfl)) (fun _ h => h) (kit_own T.hd_LeafThere T.ty_LeafThere T.su_BranchThere_LeafThere T.su_LeafThere_LeafThere))))) (k_mulT (z := "branch ") (w := "branch ") (c := true) (by decide +kernel) rfl (k_c pe_str) (k_int (b := true) rfl T.n_int (k_isE (b := true) (cv := (.ref ad.x_BranchThere)) T.ec_BranchThere hz hf rfl T.n_isinstance (k_var (i := 6) (fun _ h => h.1) (pv 6)) (k_c (pe_glob rfl T.m_BranchThere rfl)) (fun _ h => h) (kit_own T.hd_BranchThere T.ty_BranchThere T.su_BranchThere_BranchThere T.su_BranchThere_BranchThere))))) (ks_setW (i := 6) (j := 5) (w := "branch ") (u := "branch ") (by decide) (fun _ h => h.1) (fun t h => ps_set nd rfl (Or.inl rfl) h) (k_addT (z := "branch ") (w := "") (u := "branch ") (by decide +kernel) (by decide +kernel) (k_addT (z := "branch ") (w := "") (u := "branch ") (by decide +kernel) (by decide +kernel) (k_var (i := 5) (fun _ h => h.2) (pv 5)) (k_mulT (z := "nothing ") (w := "") (c := false) (by decide +kernel) rfl (k_c pe_str) (k_int (b := false) rfl T.n_int (k_isE (b := false) (cv := (.ref ad.x_Nothing)) T.ec_BranchThere hz hf rfl T.n_isinstance (k_var (i := 6) (fun _ h => h.1) (pv 6)) (k_c (pe_glob rfl T.m_Nothing rfl)) (fun _ h => h) (kit_own T.hd_Nothing T.ty_Nothing T.su_BranchThere_Nothing T.su_Nothing_Nothing))))) (k_mulT (z := "shot ") (w := "") (c := false) (by decide +kernel) rfl (k_c pe_str) (k_int (b := false) rfl T.n_int (k_isE (b := false) (cv := (.ref ad.x_NoShot)) T.ec_BranchThere hz hf rfl T.n_isinstance (k_var (i := 6) (fun _ h => h.1) (pv 6)) (k_c (pe_glob rfl T.m_NoShot rfl)) (fun _ h => h) (kit_own T.hd_NoShot T.ty_NoShot T.su_BranchThere_NoShot T.su_NoShot_NoShot))))) (ks_ret (k_addT (z := "branch ") (w := "value") (u := "branch value") (by decide +kernel) (by decide +kernel) (k_addT (z := "branch ") (w := "") (u := "branch ") (by decide +kernel) (by decide +kernel) (k_var (i := 5) (fun _ h => h.2) (pv 5)) (k_mulT (z := "box ") (w := "") (c := false) (by decide +kernel) rfl (k_c pe_str) (k_int (b := false) rfl T.n_int (k_isE (b := false) (cv := (.ref ad.x_NoBox)) T.ec_BranchThere hz hf rfl T.n_isinstance (k_var (i := 6) (fun _ h => h.1) (pv 6)) (k_c (pe_glob rfl T.m_NoBox rfl)) (fun _ h => h) (kit_own T.hd_NoBox T.ty_NoBox T.su_BranchThere_NoBox T.su_NoBox_NoBox))))) (k_mulT (z := "value") (w := "value") (c := true) (by decide +kernel) rfl (k_c pe_str) (k_int (b := true) rfl T.n_int (k_isE (b := true) (cv := (.ty "ValueError")) T.ec_BranchThere hz hf rfl T.n_isinstance (k_var (i := 6) (fun _ h => h.1) (pv 6)) (k_c (pe_bltn rfl T.n_ValueError b_ValueError rfl)) (fun _ h => h) (kit_val T.vs_BranchThere)))))))))) (.hit (c := 6) (PySem.W.exm_ref T.bs_SnapError T.hd_SnapError T.ty_SnapError T.su_NoShot_SnapError) rfl (fun a oe pn hz hf => (ks_setW (i := 6) (j := 5) (w := "") (u := "") (by decide) (fun _ h => h) (fun t h => ps_set nd rfl (Or.inl rfl) h) (k_addT (z := "") (w := "") (u := "") (by decide +kernel) (by decide +kernel) (k_mulT (z := "path ") (w := "") (c := false) (by decide +kernel) rfl (k_c pe_str) (k_int (b := false) rfl T.n_int (k_isE (b := false) (cv := (.ref ad.x_BadPath)) T.ec_NoShot hz hf rfl T.n_isinstance (k_var (i := 6) (fun _ h => h) (pv 6)) (k_c (pe_glob rfl T.m_BadPath rfl)) (fun _ h => h) (kit_own T.hd_BadPath T.ty_BadPath T.su_NoShot_BadPath T.su_BadPath_BadPath)))) (k_mulT (z := "number ") (w := "") (c := false) (by decide +kernel) rfl (k_c pe_str) (k_int (b := false) rfl T.n_int (k_isE (b := false) (cv := (.ref ad.x_BadNumber)) T.ec_NoShot hz hf rfl T.n_isinstance (k_var (i := 6) (fun _ h => h) (pv 6)) (k_c (pe_glob rfl T.m_BadNumber rfl)) (fun _ h => h) (kit_own T.hd_BadNumber T.ty_BadNumber T.su_NoShot_BadNumber T.su_BadNumber_BadNumber))))) (ks_setW (i := 6) (j := 5) (w := "") (u := "") (by decide) (fun _ h => h.1) (fun t h => ps_set nd rfl (Or.inl rfl) h) (k_addT (z := "") (w := "") (u := "") (by decide +kernel) (by decide +kernel) (k_addT (z := "") (w := "") (u := "") (by decide +kernel) (by decide +kernel) (k_var (i := 5) (fun _ h => h.2) (pv 5)) (k_mulT (z := "leaf ") (w := "") (c := false) (by decide +kernel) rfl (k_c pe_str) (k_int (b := false) rfl T.n_int (k_isE (b := false) (cv := (.ref ad.x_LeafThere)) T.ec_NoShot hz hf rfl T.n_isinstance (k_var (i := 6) (fun _ h => h.1) (pv 6)) (k_c (pe_glob rfl T.m_LeafThere rfl)) (fun _ h => h) (kit_own T.hd_LeafThere T.ty_LeafThere T.su_NoShot_LeafThere T.su_LeafThere_LeafThere))))) (k_mulT (z := "branch ") (w := "") (c := false) (by decide +kernel) rfl (k_c pe_str) (k_int (b := false) rfl T.n_int (k_isE (b := false) (cv := (.ref ad.x_BranchThere)) T.ec_NoShot hz hf rfl T.n_isinstance (k_var (i := 6) (fun _ h => h.1) (pv 6)) (k_c (pe_glob rfl T.m_BranchThere rfl)) (fun _ h => h) (kit_own T.hd_BranchThere T.ty_BranchThere T.su_NoShot_BranchThere T.su_BranchThere_BranchThere))))) (ks_setW (i := 6) (j := 5) (w := "shot ") (u := "shot ") (by decide) (fun _ h => h.1) (fun t h => ps_set nd rfl (Or.inl rfl) h) (k_addT (z := "") (w := "shot ") (u := "shot ") (by decide +kernel) (by decide +kernel) (k_addT (z := "") (w := "") (u := "") (by decide +kernel) (by decide +kernel) (k_var (i := 5) (fun _ h => h.2) (pv 5)) (k_mulT (z := "nothing ") (w := "") (c := false) (by decide +kernel) rfl (k_c pe_str) (k_int (b := false) rfl T.n_int (k_isE (b := false) (cv := (.ref ad.x_Nothing)) T.ec_NoShot hz hf rfl T.n_isinstance (k_var (i := 6) (fun _ h => h.1) (pv 6)) (k_c (pe_glob rfl T.m_Nothing rfl)) (fun _ h => h) (kit_own T.hd_Nothing T.ty_Nothing T.su_NoShot_Nothing T.su_Nothing_Nothing))))) (k_mulT (z := "shot ") (w := "shot ") (c := true) (by decide +kernel) rfl (k_c pe_str) (k_int (b := true) rfl T.n_int (k_isE (b := true) (cv := (.ref ad.x_NoShot)) T.ec_NoShot hz hf rfl T.n_isinstance (k_var (i := 6) (fun _ h => h.1) (pv 6)) (k_c (pe_glob rfl T.m_NoShot rfl)) (fun _ h => h) (kit_own T.hd_NoShot T.ty_NoShot T.su_NoShot_NoShot T.su_NoShot_NoShot))))) (ks_ret (k_addT (z := "shot ") (w := "value") (u := "shot value") (by decide +kernel) (by decide +kernel) (k_addT (z := "shot ") (w := "") (u := "shot ") (by decide +kernel) (by decide +kernel) (k_var (i := 5) (fun _ h => h.2) (pv 5)) (k_mulT (z := "box ") (w := "") (c := false) (by decide +kernel) rfl (k_c pe_str) (k_int (b := false) rfl T.n_int (k_isE (b := false) (cv := (.ref ad.x_NoBox)) T.ec_NoShot hz hf rfl T.n_isinstance (k_var (i := 6) (fun _ h => h.1) (pv 6)) (k_c (pe_glob rfl T.m_NoBox rfl)) (fun _ h => h) (kit_own T.hd_NoBox T.ty_NoBox T.su_NoShot_NoBox T.su_NoBox_NoBox))))) (k_mulT (z := "value") (w := "value") (c := true) (by decide +kernel) rfl (k_c pe_str) (k_int (b := true) rfl T.n_int (k_isE (b := true) (cv := (.ty "ValueError")) T.ec_NoShot hz hf rfl T.n_isinstance (k_var (i := 6) (fun _ h => h.1) (pv 6)) (k_c (pe_bltn rfl T.n_ValueError b_ValueError rfl)) (fun _ h => h) (kit_val T.vs_NoShot)))))))))) (.hit (c := 7) (PySem.W.exm_ref T.bs_SnapError T.hd_SnapError T.ty_SnapError T.su_NoBox_SnapError) rfl (fun a oe pn hz hf => (ks_setW (i := 6) (j := 5) (w := "") (u := "") (by decide) (fun _ h => h) (fun t h => ps_set nd rfl (Or.inl rfl) h) (k_addT (z := "") (w := "") (u := "") (by decide +kernel) (by decide +kernel) (k_mulT (z := "path ") (w := "") (c := false) (by decide +kernel) rfl (k_c pe_str) (k_int (b := false) rfl T.n_int (k_isE (b := false) (cv := (.ref ad.x_BadPath)) T.ec_NoBox hz hf rfl T.n_isinstance (k_var (i := 6) (fun _ h => h) (pv 6)) (k_c (pe_glob rfl T.m_BadPath rfl)) (fun _ h => h) (kit_own T.hd_BadPath T.ty_BadPath T.su_NoBox_BadPath T.su_BadPath_BadPath)))) (k_mulT (z := "number ") (w := "") (c := false) (by decide +kernel) rfl (k_c pe_str) (k_int (b := false) rfl T.n_int (k_isE (b := false) (cv := (.ref ad.x_BadNumber)) T.ec_NoBox hz hf rfl T.n_isinstance (k_var (i := 6) (fun _ h => h) (pv 6)) (k_c (pe_glob rfl T.m_BadNumber rfl)) (fun _ h => h) (kit_own T.hd_BadNumber T.ty_BadNumber T.su_NoBox_BadNumber T.su_BadNumber_BadNumber))))) (ks_setW (i := 6) (j := 5) (w := "") (u := "") (by decide) (fun _ h => h.1) (fun t h => ps_set nd rfl (Or.inl rfl) h) (k_addT (z := "") (w := "") (u := "") (by decide +kernel) (by decide +kernel) (k_addT (z := "") (w := "") (u := "") (by decide +kernel) (by decide +kernel) (k_var (i := 5) (fun _ h => h.2) (pv 5)) (k_mulT (z := "leaf ") (w := "") (c := false) (by decide +kernel) rfl (k_c pe_str) (k_int (b := false) rfl T.n_int (k_isE (b := false) (cv := (.ref ad.x_LeafThere)) T.ec_NoBox hz hf rfl T.n_isinstance (k_var (i := 6) (fun _ h => h.1) (pv 6)) (k_c (pe_glob rfl T.m_LeafThere rfl)) (fun _ h => h) (kit_own T.hd_LeafThere T.ty_LeafThere T.su_NoBox_LeafThere T.su_LeafThere_LeafThere))))) (k_mulT (z := "branch ") (w := "") (c := false) (by decide +kernel) rfl (k_c pe_str) (k_int (b := false) rfl T.n_int (k_isE (b := false) (cv := (.ref ad.x_BranchThere)) T.ec_NoBox hz hf rfl T.n_isinstance (k_var (i := 6) (fun _ h => h.1) (pv 6)) (k_c (pe_glob rfl T.m_BranchThere rfl)) (fun _ h => h) (kit_own T.hd_BranchThere T.ty_BranchThere T.su_NoBox_BranchThere T.su_BranchThere_BranchThere))))) (ks_setW (i := 6) (j := 5) (w := "") (u := "") (by decide) (fun _ h => h.1) (fun t h => ps_set nd rfl (Or.inl rfl) h) (k_addT (z := "") (w := "") (u := "") (by decide +kernel) (by decide +kernel) (k_addT (z := "") (w := "") (u := "") (by decide +kernel) (by decide +kernel) (k_var (i := 5) (fun _ h => h.2) (pv 5)) (k_mulT (z := "nothing ") (w := "") (c := false) (by decide +kernel) rfl (k_c pe_str) (k_int (b := false) rfl T.n_int (k_isE (b := false) (cv := (.ref ad.x_Nothing)) T.ec_NoBox hz hf rfl T.n_isinstance (k_var (i := 6) (fun _ h => h.1) (pv 6)) (k_c (pe_glob rfl T.m_Nothing rfl)) (fun _ h => h) (kit_own T.hd_Nothing T.ty_Nothing T.su_NoBox_Nothing T.su_Nothing_Nothing))))) (k_mulT (z := "shot ") (w := "") (c := false) (by decide +kernel) rfl (k_c pe_str) (k_int (b := false) rfl T.n_int (k_isE (b := false) (cv := (.ref ad.x_NoShot)) T.ec_NoBox hz hf rfl T.n_isinstance (k_var (i := 6) (fun _ h => h.1) (pv 6)) (k_c (pe_glob rfl T.m_NoShot rfl)) (fun _ h => h) (kit_own T.hd_NoShot T.ty_NoShot T.su_NoBox_NoShot T.su_NoShot_NoShot))))) (ks_ret (k_addT (z := "box ") (w := "value") (u := "box value") (by decide +kernel) (by decide +kernel) (k_addT (z := "") (w := "box ") (u := "box ") (by decide +kernel) (by decide +kernel) (k_var (i := 5) (fun _ h => h.2) (pv 5)) (k_mulT (z := "box ") (w := "box ") (c := true) (by decide +kernel) rfl (k_c pe_str) (k_int (b := true) rfl T.n_int (k_isE (b := true) (cv := (.ref ad.x_NoBox)) T.ec_NoBox hz hf rfl T.n_isinstance (k_var (i := 6) (fun _ h => h.1) (pv 6)) (k_c (pe_glob rfl T.m_NoBox rfl)) (fun _ h => h) (kit_own T.hd_NoBox T.ty_NoBox T.su_NoBox_NoBox T.su_NoBox_NoBox))))) (k_mulT (z := "value") (w := "value") (c := true) (by decide +kernel) rfl (k_c pe_str) (k_int (b := true) rfl T.n_int (k_isE (b := true) (cv := (.ty "ValueError")) T.ec_NoBox hz hf rfl T.n_isinstance (k_var (i := 6) (fun _ h => h.1) (pv 6)) (k_c (pe_bltn rfl T.n_ValueError b_ValueError rfl)) (fun _ h => h) (kit_val T.vs_NoBox)))))))))) .nil))))))))
    (mss_one (ms_ret me_str)))
theorem sc_law : FnScope nm_law ["_law_script"] (defScope s_law) := ⟨rfl, rfl, rfl, by decide +kernel, rfl, by decide +kernel, by decide +kernel⟩
theorem ok_law (T : Txt K mg ad) : FnOk P w K mg base (L2N.CX P w) 10 ad.a_law ad.d_law ["_law_script"] (spM (gg K ad) 1 m_law) := by
  refine fn_ok (G := gg K ad) (body := bd_law) T.F_law sc_law rfl rfl rfl (fun cdv A outer s H E hr => ?_)
  have nd := sc_law.nd
  have hu := hu_of hr
  have hu64 := hr.units
  have tk : L2N.Takes (cx P w K mg base nm_law "law" s_law ad.a_law cdv A outer s H E) (We E) := L2N.takes_of rfl rfl rfl rfl
  have pas : PassesOwn (model P w) (cx P w K mg base nm_law "law" s_law ad.a_law cdv A outer s H E).A (cx P w K mg base nm_law "law" s_law ad.a_law cdv A outer s H E).env (cx P w K mg base nm_law "law" s_law ad.a_law cdv A outer s H E).xe := passes_of rfl
  unfold bd_law
  exact (mss_cons (ms_set (i := 1) (ps_set nd rfl (Or.inl rfl) (me_call (ok_l_word_by T) tk (hr.mono (by decide)) rfl T.m_l_word_by T.F_l_word_by.kp T.b_l_word_by (ma_cons (me_call (ok_l_cell_at T) tk (hr.mono (by decide)) rfl T.m_l_cell_at T.F_l_cell_at.kp T.b_l_cell_at (ma_cons (me_var (pv 0)) (ma_cons me_int ma_nil))) ma_nil))))
    (mss_cons (ms_set (i := 2) (ps_set nd rfl (Or.inl rfl) (me_call (ok_l_paths T) tk (hr.mono (by decide)) rfl T.m_l_paths T.F_l_paths.kp T.b_l_paths (ma_cons (me_var (pv 1)) ma_nil))))
    (mss_cons (ms_set (i := 3) (ps_set nd rfl (Or.inl rfl) (me_make0 (C := 1) T.mk_Store (ok_Store_init T) (hr.mono (by decide)) rfl T.m_Store T.b_Store_init)))
    (mss_cons (ms_expr (me_meth (C := 1) (ok_Store_put T) tk (hr.mono (by decide)) T.b_Store_put T.cl_Store T.me_Store_put no_put (me_var (pv 3)) (ma_cons (me_ix rfl (me_var (pv 2)) me_int (fun _ _ => rfl)) (ma_cons me_int ma_nil))))
    (mss_cons (ms_expr (me_meth (C := 1) (ok_Store_put T) tk (hr.mono (by decide)) T.b_Store_put T.cl_Store T.me_Store_put no_put (me_var (pv 3)) (ma_cons (me_ix rfl (me_var (pv 2)) me_int (fun _ _ => rfl)) (ma_cons (me_un negD_s un_neg me_int) ma_nil))))
    (mss_cons (ms_expr (me_meth0 (C := 1) (ok_Store_snap T) tk (hr.mono (by decide)) T.b_Store_snap T.cl_Store T.me_Store_snap no_snap (me_var (pv 3))))
    (mss_cons (ms_expr (me_meth (C := 1) (ok_Store_drop T) tk (hr.mono (by decide)) T.b_Store_drop T.cl_Store T.me_Store_drop no_drop (me_var (pv 3)) (ma_cons (me_meth0 (C := 1) (ok_Store_snap T) tk (hr.mono (by decide)) T.b_Store_snap T.cl_Store T.me_Store_snap no_snap (me_var (pv 3))) ma_nil)))
    (mss_cons (ms_set (i := 4) (ps_set nd rfl (Or.inl rfl) (me_ix rfl (me_lst (ma_cons me_int (ma_cons me_int (ma_cons me_int (ma_cons me_int (ma_cons me_int (ma_cons me_int (ma_cons me_int (ma_cons me_int (ma_cons me_int (ma_cons me_int (ma_cons me_int (ma_cons me_int (ma_cons me_int (ma_cons me_int (ma_cons me_int ma_nil)))))))))))))))) (me_bin modD_s op_mod (me_call (ok_l_cell_at T) tk (hr.mono (by decide)) rfl T.m_l_cell_at T.F_l_cell_at.kp T.b_l_cell_at (ma_cons (me_var (pv 0)) (ma_cons me_int ma_nil))) me_int) (fun _ _ => rfl))))
    (mss_cons (ms_set (i := 5) (ps_set nd rfl (Or.inl rfl) (me_ix rfl (me_bin addD_s op_addX (me_rgL rfl rfl T.n_list rfl T.n_range me_int) (me_lst (ma_cons me_int (ma_cons me_int (ma_cons me_int (ma_cons me_int (ma_cons me_int (ma_cons me_int (ma_cons me_int ma_nil))))))))) (me_bin modD_s op_mod (me_call (ok_l_cell_at T) tk (hr.mono (by decide)) rfl T.m_l_cell_at T.F_l_cell_at.kp T.b_l_cell_at (ma_cons (me_var (pv 0)) (ma_cons me_int ma_nil))) me_int) (fun _ _ => rfl))))
    (mss_cons (ms_set (i := 6) (ps_set nd rfl (Or.inl rfl) (me_ix rfl (me_bin addD_s op_addX (me_rgL rfl rfl T.n_list rfl T.n_range me_int) (me_lst (ma_cons me_int (ma_cons me_int (ma_cons me_int (ma_cons me_int (ma_cons me_int (ma_cons me_int (ma_cons me_int ma_nil))))))))) (me_bin modD_s op_mod (me_call (ok_l_cell_at T) tk (hr.mono (by decide)) rfl T.m_l_cell_at T.F_l_cell_at.kp T.b_l_cell_at (ma_cons (me_var (pv 0)) (ma_cons me_int ma_nil))) me_int) (fun _ _ => rfl))))
    (mss_cons (ms_set (i := 7) (ps_set nd rfl (Or.inl rfl) (me_ix rfl (me_lst (ma_cons me_int (ma_cons me_int (ma_cons (me_un negD_s un_neg me_int) (ma_cons (me_bin subD_s op_sub (me_bin powD_s op_pow me_int me_int) me_int) (ma_cons (me_bin subD_s op_sub me_int (me_bin powD_s op_pow me_int me_int)) (ma_cons (me_bin powD_s op_pow me_int me_int) (ma_cons (me_un negD_s un_neg (me_bin powD_s op_pow me_int me_int)) (ma_cons me_bl (ma_cons me_str (ma_cons me_non (ma_cons (me_lst (ma_cons me_int ma_nil)) (ma_cons (me_tup (ma_cons me_int ma_nil)) (ma_cons me_newK ma_nil)))))))))))))) (me_var (pv 6)) (fun _ _ => rfl))))
    (mss_cons (ms_set (i := 8) (ps_set nd rfl (Or.inl rfl) (me_bin modD_s op_mod (me_call (ok_l_cell_at T) tk (hr.mono (by decide)) rfl T.m_l_cell_at T.F_l_cell_at.kp T.b_l_cell_at (ma_cons (me_var (pv 0)) (ma_cons me_int ma_nil))) me_int)))
    (mss_cons (ms_set (i := 9) (ps_set nd rfl (Or.inl rfl) (me_ix rfl (me_lst (ma_cons me_non (ma_cons me_int (ma_cons me_int (ma_cons me_int (ma_cons me_int (ma_cons me_bl (ma_cons me_str (ma_cons (me_un negD_s un_neg me_int) (ma_cons (me_lst (ma_cons me_int ma_nil)) (ma_cons (me_tup (ma_cons me_int ma_nil)) (ma_cons me_newK ma_nil)))))))))))) (me_var (pv 8)) (fun _ _ => rfl))))
    (mss_cons (ms_set (i := 10) (ps_set nd rfl (Or.inl rfl) (me_call (ok_l_due T) tk (hr.mono (by decide)) rfl T.m_l_due T.F_l_due.kp T.b_l_due (ma_cons (me_var (pv 4)) (ma_cons (me_var (pv 5)) (ma_cons (me_var (pv 6)) (ma_cons (me_ix rfl (me_lst (ma_cons (me_var (pv 8)) (ma_cons (me_un negD_s un_neg me_int) ma_nil))) (me_callTy intD_s call_int1 rfl T.n_int b_int (ma_cons (me_cmp gtD_s op_gt (me_var (pv 8)) me_int (nomark _)) ma_nil)) (fun _ _ => rfl)) ma_nil)))))))
    (mss_cons (ms_set (i := 11) (ps_set nd rfl (Or.inl rfl) (me_tup (ma_cons (me_meth0 (C := 0) (ok_Pile_kept T) tk (hr.mono (by decide)) T.b_Pile_kept T.cl_Pile T.me_Pile_kept no_kept (me_fld (C := 1) (i := 0) T.cl_Store T.na_pile nd_1 rfl (me_var (pv 3)))) (ma_cons (me_fld (C := 0) (i := 2) T.cl_Pile T.na_made nd_0 rfl (me_fld (C := 1) (i := 0) T.cl_Store T.na_pile nd_1 rfl (me_var (pv 3)))) (ma_cons (me_meth (C := 1) (ok_Store_top T) tk (hr.mono (by decide)) T.b_Store_top T.cl_Store T.me_Store_top no_top (me_var (pv 3)) (ma_cons me_non ma_nil)) (ma_cons (me_meth0 (C := 1) (ok_Store_shot_numbers T) tk (hr.mono (by decide)) T.b_Store_shot_numbers T.cl_Store T.me_Store_shot_numbers no_shot_numbers (me_var (pv 3))) (ma_cons (me_meth (C := 1) (ok_Store_top T) tk (hr.mono (by decide)) T.b_Store_top T.cl_Store T.me_Store_top no_top (me_var (pv 3)) (ma_cons me_int ma_nil)) ma_nil))))))))
    (mss_cons (ms_if (mt_cmp eqD_s (op_eqX hu64) (me_var (pv 10)) me_str (nomark _))
    (mss_one (ms_ret (me_cmp eqD_s (op_eqX hu64) (me_call (ok_l_told T) tk (hr.mono (by decide)) rfl T.m_l_told T.F_l_told.kp T.b_l_told (ma_cons (me_var (pv 3)) (ma_cons (me_var (pv 4)) (ma_cons (me_ix rfl (me_var (pv 2)) (me_var (pv 5)) (fun _ _ => rfl)) (ma_cons (me_var (pv 7)) (ma_cons (me_var (pv 9)) ma_nil)))))) me_str (nomark _))))
    mss_nil)
    (mss_cons (ms_if (mt_cmp neD_s (op_neX hu64) (me_call (ok_l_told T) tk (hr.mono (by decide)) rfl T.m_l_told T.F_l_told.kp T.b_l_told (ma_cons (me_var (pv 3)) (ma_cons (me_var (pv 4)) (ma_cons (me_ix rfl (me_var (pv 2)) (me_var (pv 5)) (fun _ _ => rfl)) (ma_cons (me_var (pv 7)) (ma_cons (me_var (pv 9)) ma_nil)))))) (me_bin addD_s op_addX (me_var (pv 10)) me_str) (nomark _))
    (mss_one (ms_ret me_bl))
    mss_nil)
    (mss_one (ms_ret (me_cmp eqD_s (op_eqX hu64) (me_var (pv 11)) (me_tup (ma_cons (me_meth0 (C := 0) (ok_Pile_kept T) tk (hr.mono (by decide)) T.b_Pile_kept T.cl_Pile T.me_Pile_kept no_kept (me_fld (C := 1) (i := 0) T.cl_Store T.na_pile nd_1 rfl (me_var (pv 3)))) (ma_cons (me_fld (C := 0) (i := 2) T.cl_Pile T.na_made nd_0 rfl (me_fld (C := 1) (i := 0) T.cl_Store T.na_pile nd_1 rfl (me_var (pv 3)))) (ma_cons (me_meth (C := 1) (ok_Store_top T) tk (hr.mono (by decide)) T.b_Store_top T.cl_Store T.me_Store_top no_top (me_var (pv 3)) (ma_cons me_non ma_nil)) (ma_cons (me_meth0 (C := 1) (ok_Store_shot_numbers T) tk (hr.mono (by decide)) T.b_Store_shot_numbers T.cl_Store T.me_Store_shot_numbers no_shot_numbers (me_var (pv 3))) (ma_cons (me_meth (C := 1) (ok_Store_top T) tk (hr.mono (by decide)) T.b_Store_top T.cl_Store T.me_Store_top no_top (me_var (pv 3)) (ma_cons me_int ma_nil)) ma_nil)))))) (nomark _)))))))))))))))))))))
end
end Law
/-! P0_k05 -/
set_option Elab.async false
set_option linter.all false
set_option maxRecDepth 100000
set_option autoImplicit false
set_option maxHeartbeats 1000000
/-! P0: names and paths -/
namespace Law
open PySem PySem.Spec PyProof.Rows L2 Sn
def cell (ns : List Int) (k : Nat) : Int := ns.getD k 0
theorem cell_at (ns : List Int) (k : Nat) (m : Mem) : m_l_cell_at [.scr ns, .int (k : Int)] m = .ok (.int (cell ns k)) m := by
  unfold m_l_cell_at mkFn bd_l_cell_at
  by_cases h : k < ns.length
  · have e : atI (ns.map Dv.int) (k : Int) = some (.int (cell ns k)) := atI_nat (by simp [cell, h])
    simp [h, e]
  · have e : cell ns k = 0 := by simp [cell, List.getElem?_eq_none (Nat.le_of_not_lt h)]
    simp [h, e]
theorem cell_at' (ns : List Int) {k : Int} (h : 0 ≤ k) (m : Mem) : m_l_cell_at [.scr ns, .int k] m = .ok (.int (cell ns k.toNat)) m := by
  have := cell_at ns k.toNat m
  rwa [Int.toNat_of_nonneg h] at this
theorem len_tx (a : Str) : a.length = (tx a).length := Array.length_toList.symm
theorem tx_append (a b : Str) : tx (a ++ b) = tx a ++ tx b := Array.toList_append
theorem len_append (a b : Str) : (a ++ b).length = a.length + b.length := by rw [len_tx, tx_append, List.length_append, ← len_tx, ← len_tx]
abbrev abc : Str := "abcdefghijklmnopqrstuvwxyz"
theorem abc_len : abc.length = 26 := by decide +kernel
theorem abc_tx : tx abc = (List.range 26).map (97 + ·) := by decide +kernel
theorem mem_abc (c : Nat) : c ∈ abc.cps.toList ↔ 97 ≤ c ∧ c ≤ 122 := by
  show c ∈ tx abc ↔ _
  rw [abc_tx, List.mem_map]
  constructor
  · rintro ⟨a, ha, rfl⟩
    have := List.mem_range.mp ha
    omega
  · rintro ⟨a, b⟩
    exact ⟨c - 97, List.mem_range.mpr (by omega), by omega⟩
/-! ### names -/
def isN : Dv → Bool
  | .str s => decide (1 ≤ s.length) && (decide (s.length ≤ 8) && (tx s).all fun c => decide (97 ≤ c ∧ c ≤ 122))
  | _ => false
def OkD (m : Mem) (d : Dv) : Prop := (∃ s, d = .str s ∧ s.length ≤ 100000) ∨ ∃ t, tyOf m d = some t ∧ t ≠ .str
theorem tyOf_loc (m : Mem) (n : Nat) : tyOf m (.loc n) = (match m[n]? with
      | some (.lst _) => some Tn.list
      | some (.dic _) => some Tn.dict
      | some (.dit _) => some Tn.dict
      | _ => none) := rfl
theorem tyOf_app {m x : Mem} {d : Dv} {t : Tn} (h : tyOf m d = some t) : tyOf (m ++ x) d = some t := by
  cases d with
  | loc n =>
    have hn : n < m.length := by
      rcases Nat.lt_or_ge n m.length with z | z
      · exact z
      · rw [tyOf_loc, List.getElem?_eq_none z] at h
        cases h
    rw [tyOf_loc] at h ⊢
    rw [List.getElem?_append_left hn]
    exact h
  | _ => exact h
theorem OkD.app {m : Mem} {d : Dv} (h : OkD m d) (x : Mem) : OkD (m ++ x) d := by
  rcases h with h | ⟨t, h1, h2⟩
  · exact .inl h
  · exact .inr ⟨t, tyOf_app h1, h2⟩
theorem isN_no {m : Mem} {d : Dv} {t : Tn} (h : tyOf m d = some t) (g : t ≠ .str) : isN d = false := by
  cases d with
  | str s => cases h; exact absurd rfl g
  | _ => rfl
theorem is_name {m : Mem} {d : Dv} (h : OkD m d) : m_is_name [d] m = .ok (.bl (isN d)) m := by
  rcases h with ⟨s, rfl, hs⟩ | ⟨t, h1, h2⟩
  · have hb : s.length ≤ 16777216 := by omega
    have H : ∀ (cs : List Nat) (a : Option Dv), ∃ a', Sn.forM (tgN 1) lf_is_name_1 (cs.map fun c => Dv.str ⟨#[c]⟩) [some (.str s), a] m = if cs.all (fun c => decide (97 ≤ c ∧ c ≤ 122)) then .nx [some (.str s), a'] m else .rt (.bl false) m := by
      intro cs
      induction cs with
      | nil => intro a; exact ⟨a, rfl⟩
      | cons c r ih =>
        intro a
        obtain ⟨a', e⟩ := ih (some (.str ⟨#[c]⟩))
        have hin : ninD (.str ⟨#[c]⟩) (.str abc) m = .ok (.bl (!decide (97 ≤ c ∧ c ≤ 122))) m := by
          show Res.ok (Dv.bl (!decide (c ∈ abc.cps.toList))) m = _
          simp only [mem_abc]
        refine ⟨a', ?_⟩
        rw [List.map_cons]
        by_cases g : 97 ≤ c ∧ c ≤ 122
        · rw [forM_cons (l2 := [some (.str s), some (.str ⟨#[c]⟩)]) (m2 := m) rfl (by unfold lf_is_name_1; simp [hin, g]), e, List.all_cons, decide_eq_true g, Bool.true_and]
        · unfold Sn.forM
          have : lf_is_name_1 [some (.str s), some (.str ⟨#[c]⟩)] m = .rt (.bl false) m := by unfold lf_is_name_1; simp [hin, g]
          simp [this, g]
    obtain ⟨a', e⟩ := H s.cps.toList none
    have e0 : (s = ("" : Str)) ↔ ¬ 1 ≤ s.length := by
      have : ("" : Str) = ⟨#[]⟩ := by decide +kernel
      rw [this]
      constructor
      · rintro rfl; decide
      · intro z
        apply tx_inj
        rw [len_tx] at z
        have : (tx s).length = 0 := by omega
        rw [List.length_eq_zero_iff.mp this]
    unfold m_is_name mkFn bd_is_name
    by_cases g1 : 1 ≤ s.length
    · by_cases g2 : s.length ≤ 8
      · have g3 : ¬ (8 : Int) < s.length := by omega
        have g0 : ¬ s = ("" : Str) := fun z => (e0.mp z) g1
        have g4 : ¬ 8 < s.length := by omega
        unfold isN
        simp only [decide_eq_true g1, decide_eq_true g2, Bool.true_and]
        by_cases g : (s.cps.toList.all fun c => decide (97 ≤ c ∧ c ≤ 122)) = true
        · rw [if_pos g] at e
          simp [g0, hb, g3, g4, sgn, e, g]
          simpa using g
        · rw [if_neg g] at e
          simp [g0, hb, g3, g4, sgn, e]
          simpa using g
      · have g3 : (8 : Int) < s.length := by omega
        have g0 : ¬ s = ("" : Str) := fun z => (e0.mp z) g1
        have g4 : 8 < s.length := by omega
        simp [g0, hb, g3, g4, isN, g2]
    · have g0 : s = ("" : Str) := e0.mpr g1
      have gf : isN (.str s) = false := by simp [isN, g1]
      rw [gf]
      simp [g0]
  · unfold m_is_name mkFn bd_is_name
    simp [h1, h2, isN_no h1 h2]
theorem allD_bls (bs : List Bool) (m : Mem) : allD [.lst (bs.map Dv.bl)] m = .ok (.bl (bs.all id)) m := by
  have e : bls (bs.map Dv.bl) = some bs := by
    induction bs with
    | nil => rfl
    | cons y r ih => show (bls (r.map Dv.bl)).map (y :: ·) = _; rw [ih] <;> rfl
  unfold allD
  simp [e]
def good (ds : List Dv) : Bool := decide (ds.length ≤ 8) && ds.all isN
theorem check_loop {m : Mem} (body : S) (hbody : ∀ x d, OkD m d → body [x, some d] m = if isN d then .nx [x, some d] m else .exc 1 [x, some d] m) : ∀ (ds : List Dv) (x a : Option Dv), (∀ d ∈ ds, OkD m d) → ∃ a', Sn.forM (tgN 1) body ds [x, a] m = if ds.all isN then .nx [x, a'] m else .exc 1 [x, a'] m := by
  intro ds
  induction ds with
  | nil => intro x a _; exact ⟨a, rfl⟩
  | cons d r ih =>
    intro x a h
    obtain ⟨a', e⟩ := ih x (some d) fun d' hd => h d' (.tail _ hd)
    have hb := hbody x d (h d (.head _))
    cases g : isN d with
    | true =>
      rw [g, if_pos rfl] at hb
      exact ⟨a', by rw [forM_cons (l1 := [x, some d]) rfl hb, e, List.all_cons, g, Bool.true_and]⟩
    | false =>
      rw [g] at hb
      refine ⟨some d, ?_⟩
      unfold Sn.forM
      simp at hb
      simp [hb, g]
theorem chk_lf (m : Mem) (x : Option Dv) (d : Dv) (h : OkD m d) : lf_checked_1 [x, some d] m = if isN d then .nx [x, some d] m else .exc 1 [x, some d] m := by
  unfold lf_checked_1
  cases g : isN d <;> simp [is_name h, g]
theorem checked_ok {m : Mem} {x : Dv} {ds : List Dv} (hx : x = .lst ds ∨ x = .tup ds) (h : ∀ d ∈ ds, OkD m d) : m_checked [x] m = if good ds then .ok (.lst ds) m else .exc 1 m := by
  unfold m_checked mkFn bd_checked
  by_cases g : ds.length ≤ 8
  · have g1 : ¬ (8 : Int) < ds.length := by omega
    have g2 : ¬ 8 < ds.length := by omega
    have g3 : ds.length ≤ 16777216 := by omega
    obtain ⟨a', e⟩ := check_loop lf_checked_1 (chk_lf m) ds (some x) none h
    unfold good
    simp only [decide_eq_true g, Bool.true_and]
    rcases hx with rfl | rfl <;> cases k : ds.all isN <;> (rw [k] at e; simp at e k; simp [g1, g2, g3, e])
  · have g1 : (8 : Int) < ds.length := by omega
    have g2 : 8 < ds.length := by omega
    rcases hx with rfl | rfl <;> simp [g1, g2, good, g]
theorem checked_no {m : Mem} {x : Dv} {t : Tn} (h : tyOf m x = some t) (h1 : t ≠ .list) (h2 : t ≠ .tuple) : m_checked [x] m = .exc 1 m := by
  unfold m_checked mkFn bd_checked
  simp [h, h1, h2]
/-- texts out of names -/
theorem strs_of : ∀ {ds : List Dv}, ds.all isN = true → ∃ ss : List Str, ds = ss.map Dv.str ∧ ∀ s ∈ ss, s.length ≤ 8
  | [], _ => ⟨[], rfl, fun s hs => by cases hs⟩
  | d :: r, h => by
    rw [List.all_cons, Bool.and_eq_true] at h
    obtain ⟨ss, h1, h2⟩ := strs_of h.2
    cases d with
    | str s =>
      refine ⟨s :: ss, by rw [h1] <;> rfl, fun z hz => ?_⟩
      rcases List.mem_cons.mp hz with rfl | hz
      · have := h.1
        unfold isN at this
        simp only [Bool.and_eq_true, decide_eq_true_iff] at this
        exact this.2.1
      · exact h2 z hz
    | _ => cases h.1
theorem sum_len {B : Nat} : ∀ {ss : List Str}, (∀ s ∈ ss, s.length ≤ B) → (ss.map (·.length)).sum ≤ B * ss.length
  | [], _ => by simp
  | s :: r, h => by
    have h1 := sum_len (ss := r) fun z hz => h z (.tail _ hz)
    have h2 := h s (.head _)
    rw [List.map_cons, List.sum_cons, List.length_cons, Nat.mul_add]
    omega
def slash : Str := "/"
theorem slash_len : slash.length = 1 := by decide +kernel
theorem join_len (ss : List Str) : (Txt.join slash ss).length ≤ (ss.map (·.length)).sum + ss.length := by
  have e : Txt.join slash ss = Str.join slash ss := PySem.StrLaws.glued_eq_join slash ss
  rw [e]
  induction ss with
  | nil => decide
  | cons a r ih =>
    have ih := ih (PySem.StrLaws.glued_eq_join slash r)
    cases r with
    | nil =>
      show a.length ≤ _
      simp
    | cons b r =>
      show (a ++ slash ++ Str.join slash (b :: r)).length ≤ _
      rw [len_append, len_append, slash_len, List.map_cons, List.sum_cons, List.length_cons]
      omega
theorem at_some {α : Type} {xs : List α} {i : Int} (h0 : 0 ≤ i) (h1 : i < xs.length) : ∃ x, atI xs i = some x ∧ x ∈ xs := by
  obtain ⟨n, rfl⟩ := Int.eq_ofNat_of_zero_le h0
  have hn : n < xs.length := by omega
  exact ⟨xs[n], atI_nat (by simp [hn]), List.getElem_mem hn⟩
theorem join_one (f : Nat → Nat) (ks : List Nat) : Txt.join ("" : Str) (ks.map fun i => (⟨#[f i]⟩ : Str)) = ⟨(ks.map f).toArray⟩ := by
  have e := SX.join_S [] (ks.map fun i => [f i])
  rw [List.map_map] at e
  have e2 : ("" : Str) = SX.S [] := by decide +kernel
  rw [e2]
  refine Eq.trans e ?_
  apply congrArg SX.S
  induction ks with
  | nil => rfl
  | cons a r ih =>
    cases r with
    | nil => rfl
    | cons b r =>
      show [f a] ++ ([] ++ TL.joinL [] ((b :: r).map fun i => [f i])) = _
      have e3 := SX.join_S [] ((b :: r).map fun i => [f i])
      rw [List.map_map] at e3
      rw [ih e3]
      rfl
theorem fin_true (m0 m : Mem) : ∃ m', fin m0 (.rt (.bl true) m) = .ok (.bl true) m' := by
  rw [fin_rt_eq]
  split
  · exact ⟨_, rfl⟩
  · exact ⟨_, rfl⟩
end Law
/-! P1_k05 -/
set_option Elab.async false
set_option linter.all false
set_option maxRecDepth 100000
set_option autoImplicit false
set_option maxHeartbeats 1000000
/-! P1: the pile's methods -/
namespace Law
open PySem PySem.Spec PyProof.Rows L2 Sn

def rowD (p : Str × Int) : Dv := .tup [.str p.1, .int p.2]
abbrev rD (rows : List (Str × Int)) : List Dv := rows.map rowD
inductive Bx where
  | leaf (n : Int)
  | br (rows : List (Str × Int))
deriving Inhabited
def bxD : Bx → Dv
  | .leaf n => .tup [.str "leaf", .int n]
  | .br rows => .tup [.str "branch", .lst (rD rows)]
abbrev kB (bs : List (Int × Bx)) : List (Key × Dv) := kmap Sum.inl bxD bs
abbrev kC (cs : List (Int × Int)) : List (Key × Dv) := kmap Sum.inl Dv.int cs
theorem valG_kB (bs : List (Int × Bx)) (i : Int) : valG (kB bs) (.inl i) = (valG bs i).map bxD := valG_kmap inl_inj _ _ _
theorem valG_kC (bs : List (Int × Int)) (i : Int) : valG (kC bs) (.inl i) = (valG bs i).map Dv.int := valG_kmap inl_inj _ _ _
theorem putG_kB (bs : List (Int × Bx)) (i : Int) (x : Bx) : putG (kB bs) (.inl i) (bxD x) = kB (putG bs i x) := putG_kmap inl_inj _ _ _ _
theorem putG_kC (bs : List (Int × Int)) (i : Int) (x : Int) : putG (kC bs) (.inl i) (.int x) = kC (putG bs i x) := putG_kmap inl_inj _ _ _ _
theorem dropG_kB (bs : List (Int × Bx)) (i : Int) : dropG (kB bs) (.inl i) = kB (dropG bs i) := dropG_kmap inl_inj _ _ _
theorem dropG_kC (bs : List (Int × Int)) (i : Int) : dropG (kC bs) (.inl i) = kC (dropG bs i) := dropG_kmap inl_inj _ _ _
/-- the pile at p, its tables at b and c -/
structure PAt (m : Mem) (p b c : Nat) (bs : List (Int × Bx)) (cs : List (Int × Int)) (k : Int) : Prop where
  hp : m[p]? = some (.ins 0 [.loc b, .loc c, .int k])
  hb : m[b]? = some (.dic (kB bs))
  hc : m[c]? = some (.dic (kC cs))
  pb : p ≠ b
  pc : p ≠ c
  bc : b ≠ c
/-- nothing else changed -/
def Fr (m m' : Mem) (p b c : Nat) : Prop := m.length ≤ m'.length ∧ ∀ n, n < m.length → n ≠ p → n ≠ b → n ≠ c → m'[n]? = m[n]?
theorem Fr.refl (m : Mem) (p b c : Nat) : Fr m m p b c := ⟨Nat.le_refl _, fun _ _ _ _ _ => rfl⟩
theorem Fr.trans {m m' m'' : Mem} {p b c : Nat} (h : Fr m m' p b c) (g : Fr m' m'' p b c) : Fr m m'' p b c :=
  ⟨Nat.le_trans h.1 g.1, fun n hn a1 a2 a3 => (g.2 n (Nat.lt_of_lt_of_le hn h.1) a1 a2 a3).trans (h.2 n hn a1 a2 a3)⟩
section
variable {m m' : Mem} {p b c : Nat} {bs bs' : List (Int × Bx)} {cs cs' : List (Int × Int)} {k k' : Int}
theorem lt_of_some {α : Type} {m : List α} {n : Nat} {x : α} (h : m[n]? = some x) : n < m.length := (List.getElem?_eq_some_iff.mp h).1
theorem PAt.lp (h : PAt m p b c bs cs k) : p < m.length := lt_of_some h.hp
theorem PAt.lb (h : PAt m p b c bs cs k) : b < m.length := lt_of_some h.hb
theorem PAt.lc (h : PAt m p b c bs cs k) : c < m.length := lt_of_some h.hc
theorem PAt.keep (h : PAt m p b c bs cs k) {p' : Nat} (hm : ∀ n, n < m.length → n ≠ p' → m'[n]? = m[n]?) (h1 : p ≠ p') (h2 : b ≠ p') (h3 : c ≠ p') : PAt m' p b c bs cs k :=
  ⟨(hm _ h.lp h1).trans h.hp, (hm _ h.lb h2).trans h.hb, (hm _ h.lc h3).trans h.hc, h.pb, h.pc, h.bc⟩
theorem PAt.app (h : PAt m p b c bs cs k) (x : Mem) : PAt (m ++ x) p b c bs cs k :=
  ⟨by rw [List.getElem?_append_left h.lp]; exact h.hp, by rw [List.getElem?_append_left h.lb]; exact h.hb, by rw [List.getElem?_append_left h.lc]; exact h.hc, h.pb, h.pc, h.bc⟩
theorem PAt.cut (h : PAt m' p b c bs cs k) (ht : m'.take m.length = m) (h1 : p < m.length) (h2 : b < m.length) (h3 : c < m.length) : PAt m p b c bs cs k := by
  have g : ∀ n, n < m.length → m[n]? = m'[n]? := fun n hn => by
    conv => lhs; rw [← ht]
    rw [List.getElem?_take, if_pos hn]
  exact ⟨(g _ h1).trans h.hp, (g _ h2).trans h.hb, (g _ h3).trans h.hc, h.pb, h.pc, h.bc⟩
/-- the end of a def that changed the pile -/
theorem fin_rtP (h0 : PAt m p b c bs cs k) (h : PAt m' p b c bs' cs' k') (f : Fr m m' p b c) (d : Dv) : ∃ m'', fin m (.rt d m') = .ok d m'' ∧ PAt m'' p b c bs' cs' k' ∧ Fr m m'' p b c := by
  rw [fin_rt_eq]
  split
  · rename_i g
    exact ⟨m, rfl, h.cut g.1 h0.lp h0.lb h0.lc, Fr.refl _ _ _ _⟩
  · exact ⟨m', rfl, h, f⟩
theorem fin_nxP (h0 : PAt m p b c bs cs k) (h : PAt m' p b c bs' cs' k') (f : Fr m m' p b c) (l : Lc) : ∃ m'', fin m (.nx l m') = .ok .non m'' ∧ PAt m'' p b c bs' cs' k' ∧ Fr m m'' p b c := by
  rw [fin_nx_eq]
  split
  · rename_i g
    exact ⟨m, rfl, h.cut g h0.lp h0.lb h0.lc, Fr.refl _ _ _ _⟩
  · exact ⟨m', rfl, h, f⟩
/-- what need refuses -/
def Odd (m : Mem) (bs : List (Int × Bx)) (d : Dv) : Prop := (∃ t, tyOf m d = some t ∧ t ≠ .int ∧ t ≠ .bool) ∨ (∃ x, d = .bl x) ∨ ∃ i, d = .int i ∧ valG bs i = none
theorem need_ok (P : PAt m p b c bs cs k) {i : Int} {x : Bx} (h : valG bs i = some x) : m_Pile_need [.loc p, .int i] m = .ok (.int i) m := by
  unfold m_Pile_need mkFn bd_Pile_need
  simp [↓P.hp, ↓P.hb, valG_kB, h]
theorem need_no (P : PAt m p b c bs cs k) {d : Dv} (h : Odd m bs d) : m_Pile_need [.loc p, d] m = .exc 7 m := by
  unfold m_Pile_need mkFn bd_Pile_need
  rcases h with ⟨t, h1, h2, h3⟩ | ⟨x, rfl⟩ | ⟨i, rfl, h⟩
  · simp [h1, h2, h3]
  · simp
  · simp [↓P.hp, ↓P.hb, valG_kB, h]
theorem fresh_ok (P : PAt m p b c bs cs k) (x : Bx) (hb : bs.length < 16777216) (hc : cs.length < 16777216) :
    ∃ m', m_Pile_fresh [.loc p, bxD x] m = .ok (.int (k + 1)) m' ∧ PAt m' p b c (putG bs (k + 1) x) (putG cs (k + 1) 0) (k + 1) ∧ Fr m m' p b c := by
  unfold m_Pile_fresh mkFn bd_Pile_fresh
  have h1 := P.pb
  have h2 := P.pc
  have h3 := P.bc
  have h1' := h1.symm
  have h2' := h2.symm
  have h3' := h3.symm
  have l1 := P.lp
  have l2 := P.lb
  have l3 := P.lc
  have s1 : ∀ (M : Mem) (x : MO), M.length = m.length → (M.set p x)[p]? = some x := fun M x e => List.getElem?_set_self (by rw [e]; exact l1)
  have s2 : ∀ (M : Mem) (x : MO), M.length = m.length → (M.set b x)[b]? = some x := fun M x e => List.getElem?_set_self (by rw [e]; exact l2)
  have s3 : ∀ (M : Mem) (x : MO), M.length = m.length → (M.set c x)[c]? = some x := fun M x e => List.getElem?_set_self (by rw [e]; exact l3)
  have t1 := fun (M : Mem) (x : MO) => (List.getElem?_set_ne (l := M) (a := x) h1 : _)
  have t2 := fun (M : Mem) (x : MO) => (List.getElem?_set_ne (l := M) (a := x) h2 : _)
  have t3 := fun (M : Mem) (x : MO) => (List.getElem?_set_ne (l := M) (a := x) h3 : _)
  have t1' := fun (M : Mem) (x : MO) => (List.getElem?_set_ne (l := M) (a := x) h1' : _)
  have t2' := fun (M : Mem) (x : MO) => (List.getElem?_set_ne (l := M) (a := x) h2' : _)
  have t3' := fun (M : Mem) (x : MO) => (List.getElem?_set_ne (l := M) (a := x) h3' : _)
  simp [↓P.hp, ↓P.hb, ↓P.hc, setIns, putI, ↓s1, ↓s2, ↓s3, ↓t1, ↓t2, ↓t3, ↓t1', ↓t2', ↓t3', hb, hc, putG_kB, putG_kC]
  refine fin_rtP P ⟨?_, ?_, ?_, h1, h2, h3⟩ ⟨by simp, fun n hn a1 a2 a3 => ?_⟩ _
  · simp [List.getElem?_set, h1, h2, h3, h1', h2', h3', l1, l2, l3]
  · simp [List.getElem?_set, h1, h2, h3, h1', h2', h3', l1, l2, l3]
  · simp [List.getElem?_set, h1, h2, h3, h1', h2', h3', l1, l2, l3]
  · simp [List.getElem?_set, a1.symm, a2.symm, a3.symm]
theorem leaf_ok (P : PAt m p b c bs cs k) (n : Int) (hb : bs.length < 16777216) (hc : cs.length < 16777216) :
    ∃ m', m_Pile_leaf [.loc p, .int n] m = .ok (.int (k + 1)) m' ∧ PAt m' p b c (putG bs (k + 1) (.leaf n)) (putG cs (k + 1) 0) (k + 1) ∧ Fr m m' p b c := by
  obtain ⟨m', h1, h2, h3⟩ := fresh_ok P (.leaf n) hb hc
  unfold m_Pile_leaf mkFn bd_Pile_leaf
  have h1 : m_Pile_fresh [.loc p, .tup [.str "leaf", .int n]] m = .ok (.int (k + 1)) m' := h1
  simp [P.hp, h1]
  exact fin_rtP P h2 h3 _
theorem hold_ok (P : PAt m p b c bs cs k) {i : Int} {x : Bx} {n : Int} (h : valG bs i = some x) (hn : valG cs i = some n) (hc : cs.length < 16777216) :
    ∃ m', m_Pile_hold [.loc p, .int i] m = .ok .non m' ∧ PAt m' p b c bs (putG cs i (n + 1)) k ∧ Fr m m' p b c := by
  unfold m_Pile_hold mkFn bd_Pile_hold
  have h1 := P.pb
  have h2 := P.pc
  have h3 := P.bc
  have l3 := P.lc
  simp [P.hp, need_ok P h, P.hc, valG_kC, hn, hc, putG_kC]
  refine fin_nxP P ⟨?_, ?_, ?_, h1, h2, h3⟩ ⟨by simp, fun n hn a1 a2 a3 => ?_⟩ _
  · simp [List.getElem?_set, h2.symm, P.hp]
  · simp [List.getElem?_set, h3.symm, P.hb]
  · simp [List.getElem?_set, l3]
  · simp [List.getElem?_set, a3.symm]
theorem hold_no (P : PAt m p b c bs cs k) {d : Dv} (h : Odd m bs d) : m_Pile_hold [.loc p, d] m = .exc 7 m := by
  unfold m_Pile_hold mkFn bd_Pile_hold
  simp [P.hp, need_no P h]
theorem content_ok (P : PAt m p b c bs cs k) {i : Int} {x : Bx} (h : valG bs i = some x) (hz : ∀ rows, x = .br rows → rows.length ≤ 16777216) : m_Pile_content [.loc p, .int i] m = .ok (bxD x) m := by
  unfold m_Pile_content mkFn bd_Pile_content
  cases x with
  | leaf n => simp [P.hp, need_ok P h, P.hb, valG_kB, h, bxD]
  | br rows =>
    have := hz rows rfl
    have e : ¬ (("branch" : Str) = "leaf") := by decide +kernel
    simp [P.hp, need_ok P h, P.hb, valG_kB, h, bxD, e, this]
theorem content_no (P : PAt m p b c bs cs k) {d : Dv} (h : Odd m bs d) : m_Pile_content [.loc p, d] m = .exc 7 m := by
  unfold m_Pile_content mkFn bd_Pile_content
  simp [P.hp, need_no P h]
theorem sortKiD_ok {α : Type} {m : Mem} {n : Nat} {f : α → Dv} {d : List (Int × α)} (h : m[n]? = some (.dic (kmap Sum.inl f d))) : sortKiD [.loc n] m = .ok (.lst (((keys d).mergeSort ile).map Dv.int)) m := by
  have e : dcAt m (.loc n) = some (.k (kmap Sum.inl f d)) := by rw [dcAt_r, h]
  have e2 : kis ((kmap Sum.inl f d).map (·.1)) = some (keys d) := by
    have := keys_kmap (κ' := Key) Sum.inl f d
    unfold keys at this
    rw [this, kis_map] <;> rfl
  unfold sortKiD
  simp only [e, e2]
theorem kept_ok (P : PAt m p b c bs cs k) : m_Pile_kept [.loc p] m = .ok (.lst (((keys bs).mergeSort ile).map Dv.int)) m := by
  unfold m_Pile_kept mkFn bd_Pile_kept
  simp [P.hp, sortKiD_ok P.hb]
theorem let_go_no (P : PAt m p b c bs cs k) {d : Dv} (h : Odd m bs d) : m_Pile_let_go [.loc p, d] m = .exc 7 m := by
  unfold m_Pile_let_go mkFn bd_Pile_let_go
  simp [P.hp, need_no P h]
theorem init_ok {m : Mem} : ∃ m', m_Pile_init [.loc m.length] (m ++ [.ins 0 []]) = .ok .non m' ∧ PAt m' m.length (m.length + 1) (m.length + 2) [] [] 0 ∧ ∀ n, n < m.length → m'[n]? = m[n]? := by
  refine ⟨m ++ [.ins 0 [.loc (m.length + 1), .loc (m.length + 2), .int 0], .dic [], .dic []], ?_, ?_, ?_⟩
  · unfold m_Pile_init mkFn bd_Pile_init
    have e : ∀ (x y : MO) (z : Mem), (m ++ x :: z).set m.length y = m ++ y :: z := fun x y z => by simp
    have e2 : ∀ (x : MO) (z : Mem), (m ++ x :: z)[m.length]? = some x := fun x z => by simp
    simp [setIns, putI, ↓e, ↓e2]
    rw [fin_nx_eq, if_neg]
    intro h
    have := congrArg (fun z : Mem => z[m.length]?) h
    simp at this
  · exact ⟨by simp, by rw [List.getElem?_append_right (by omega)]; simp; rfl, by rw [List.getElem?_append_right (by omega)]; simp; rfl, by omega, by omega, by omega⟩
  · intro n hn
    exact List.getElem?_append_left hn

/-! ### let_go -/
def Bx.inner : Bx → List Int
  | .leaf _ => []
  | .br rows => rows.map (·.2)
def sz (bs : List (Int × Bx)) : Nat := (bs.map fun p => p.2.inner.length).sum
def lg : Nat → List Int → List (Int × Bx) → List (Int × Int) → Int → Option (List (Int × Bx) × List (Int × Int) × Int)
  | 0, _, _, _, _ => none
  | n + 1, st, bs, cs, g => match st.getLast? with
    | none => some (bs, cs, g)
    | some one =>
      if 1 < (valG cs one).getD 1 then lg n st.dropLast bs (putG cs one ((valG cs one).getD 1 - 1)) g
      else match valG bs one with
        | none => lg n st.dropLast bs cs g
        | some x => lg n (st.dropLast ++ x.inner) (dropG bs one) (dropG cs one) (g + 1)
theorem sz_drop {bs : List (Int × Bx)} {i : Int} {x : Bx} (h : valG bs i = some x) : sz (dropG bs i) + x.inner.length ≤ sz bs := by
  induction bs with
  | nil => cases h
  | cons q r ih =>
    rw [valG_cons] at h
    unfold sz dropG at *
    by_cases e : q.1 = i
    · rw [if_pos e] at h
      cases h
      rw [List.filter_cons_of_neg (by simp [e])]
      have : ∀ r : List (Int × Bx), ((r.filter fun kv => decide (kv.1 ≠ i)).map fun p => p.2.inner.length).sum ≤ (r.map fun p => p.2.inner.length).sum := by
        intro r
        induction r with
        | nil => simp
        | cons a r ih =>
          by_cases g : a.1 = i
          · rw [List.filter_cons_of_neg (by simp [g])]
            simp only [List.map_cons, List.sum_cons]; omega
          · rw [List.filter_cons_of_pos (by simp [g])]
            simp only [List.map_cons, List.sum_cons]; omega
      have := this r
      simp only [List.map_cons, List.sum_cons]; omega
    · rw [if_neg e] at h
      have := ih h
      rw [List.filter_cons_of_pos (by simp [e])]
      simp only [List.map_cons, List.sum_cons]; omega
theorem app_loop {p b c w : Nat} {bs : List (Int × Bx)} {cs : List (Int × Int)} {k : Int} (rows : List (Str × Int)) : ∀ (st : List Int) (m : Mem) (x0 x1 x3 x4 x5 x6 a7 a8 : Option Dv), PAt m p b c bs cs k → m[w]? = some (.lst (st.map Dv.int)) → w ≠ p → w ≠ b → w ≠ c → st.length + rows.length < 16777216 →
    ∃ m' a7' a8', Sn.forM (tg2 7 8) lf_Pile_let_go_1 (rD rows) [x0, x1, some (.loc w), x3, x4, x5, x6, a7, a8] m = .nx [x0, x1, some (.loc w), x3, x4, x5, x6, a7', a8'] m' ∧ PAt m' p b c bs cs k ∧
      m'[w]? = some (.lst ((st ++ rows.map (·.2)).map Dv.int)) ∧ m'.length = m.length ∧ ∀ n, n ≠ w → m'[n]? = m[n]? := by
  induction rows with
  | nil => intro st m x0 x1 x3 x4 x5 x6 a7 a8 P hw h1 h2 h3 hl; exact ⟨m, a7, a8, rfl, P, by simpa using hw, rfl, fun _ _ => rfl⟩
  | cons r rows ih =>
    intro st m x0 x1 x3 x4 x5 x6 a7 a8 P hw h1 h2 h3 hl
    simp only [List.length_cons] at hl
    have lw := lt_of_some hw
    obtain ⟨m', a7', a8', e1, e2, e3, e4, e5⟩ := ih (st ++ [r.2]) (m.set w (.lst ((st ++ [r.2]).map Dv.int))) x0 x1 x3 x4 x5 x6 (some (.str r.1)) (some (.int r.2))
      (P.keep (p' := w) (fun n _ hn => List.getElem?_set_ne (Ne.symm hn)) h1.symm h2.symm h3.symm) (List.getElem?_set_self lw) h1 h2 h3 (by simp; omega)
    refine ⟨m', a7', a8', ?_, e2, ?_, by rw [e4]; simp, fun n hn => (e5 n hn).trans (List.getElem?_set_ne (Ne.symm hn))⟩
    · have hl' : st.length < 16777216 := by omega
      refine (forM_cons (l2 := [x0, x1, some (.loc w), x3, x4, x5, x6, some (.str r.1), some (.int r.2)]) (m2 := m.set w (.lst ((st ++ [r.2]).map Dv.int))) (x := rowD r) (r := rD rows) rfl ?_).trans e1
      unfold lf_Pile_let_go_1
      simp [↓hw, hl']
    · rw [e3]; simp
theorem lg_run {p b c w : Nat} {k : Int} {x1 : Option Dv} (w1 : w ≠ p) (w2 : w ≠ b) (w3 : w ≠ c) : ∀ (n : Nat) (st : List Int) (bs : List (Int × Bx)) (cs : List (Int × Int)) (g : Int) (m : Mem) (a4 a5 a6 a7 a8 : Option Dv), PAt m p b c bs cs k → m[w]? = some (.lst (st.map Dv.int)) →
    (∀ i x, valG bs i = some x → ∃ n, valG cs i = some n) → st.length + sz bs < n → st.length + sz bs < 16777216 → cs.length < 16777216 →
    ∃ bs' cs' g' m' a4' a5' a6' a7' a8', lg n st bs cs g = some (bs', cs', g') ∧ whileM (tTruth (eVar 2)) lw_Pile_let_go_2 n [some (.loc p), x1, some (.loc w), some (.int g), a4, a5, a6, a7, a8] m = .nx [some (.loc p), x1, some (.loc w), some (.int g'), a4', a5', a6', a7', a8'] m' ∧
      PAt m' p b c bs' cs' k ∧ m.length ≤ m'.length ∧ ∀ n, n < m.length → n ≠ p → n ≠ b → n ≠ c → n ≠ w → m'[n]? = m[n]? := by
  intro n
  induction n with
  | zero => intro st bs cs g m a4 a5 a6 a7 a8 P hw hk h1; omega
  | succ n ih =>
    intro st bs cs g m a4 a5 a6 a7 a8 P hw hk h1 h2 h3
    have s1 := P.pb
    have s2 := P.pc
    have s3 := P.bc
    have lw := lt_of_some hw
    rcases List.eq_nil_or_concat st with rfl | ⟨rest, one, rfl⟩
    · refine ⟨bs, cs, g, m, a4, a5, a6, a7, a8, rfl, while_nil _ _ _ (by simp [↓hw]), P, Nat.le_refl _, fun _ _ _ _ _ _ => rfl⟩
    · simp only [List.concat_eq_append] at *
      have ht : tTruth (eVar 2) [some (.loc p), x1, some (.loc w), some (.int g), a4, a5, a6, a7, a8] m = .ok true m := by simp [↓hw]
      have hlast : (rest.map Dv.int ++ [Dv.int one])[(rest.map Dv.int ++ [Dv.int one]).length - 1]? = some (.int one) := by simp
      have hw' : m[w]? = some (.lst (rest.map Dv.int ++ [Dv.int one])) := by rw [hw]; simp
      -- the memory behind the pop
      have P1 : PAt (m.set w (.lst (rest.map Dv.int))) p b c bs cs k := P.keep (p' := w) (fun n _ hn => List.getElem?_set_ne (Ne.symm hn)) w1.symm w2.symm w3.symm
      have W1 : (m.set w (.lst (rest.map Dv.int)))[w]? = some (.lst (rest.map Dv.int)) := List.getElem?_set_self lw
      have L1 : (m.set w (.lst (rest.map Dv.int))).length = m.length := by simp
      have F1 : ∀ n, n ≠ w → (m.set w (.lst (rest.map Dv.int)))[n]? = m[n]? := fun n hn => List.getElem?_set_ne (Ne.symm hn)
      generalize hm1 : m.set w (.lst (rest.map Dv.int)) = m1 at P1 W1 L1 F1
      have gl : (rest ++ [one]).getLast? = some one := by simp
      have dl : (rest ++ [one]).dropLast = rest := by simp
      simp only [List.length_append, List.length_cons, List.length_nil] at h1 h2
      unfold lg
      simp only [gl, dl]
      by_cases hleft : 1 < (valG cs one).getD 1
      · obtain ⟨q, hq⟩ : ∃ q, valG cs one = some q := by
          cases z : valG cs one with
          | none => rw [z] at hleft; simp at hleft
          | some q => exact ⟨q, rfl⟩
        rw [hq] at hleft
        have hleft : 1 < q := hleft
        rw [if_pos (by rw [hq]; exact hleft)]
        have P2 : PAt (m1.set c (.dic (kC (putG cs one (q - 1))))) p b c bs (putG cs one (q - 1)) k := by
          refine ⟨?_, ?_, List.getElem?_set_self P1.lc, s1, s2, s3⟩
          · rw [List.getElem?_set_ne s2.symm]; exact P1.hp
          · rw [List.getElem?_set_ne s3.symm]; exact P1.hb
        have W2 : (m1.set c (.dic (kC (putG cs one (q - 1)))))[w]? = some (.lst (rest.map Dv.int)) := by rw [List.getElem?_set_ne w3.symm]; exact W1
        obtain ⟨bs', cs', g', m', a4', a5', a6', a7', a8', e1, e2, e3, e4, e5⟩ := ih rest bs (putG cs one (q - 1)) g _ (some (.int one)) (some (.int (q - 1))) a6 a7 a8 P2 W2 (fun i x hi => by
          rw [valG_put]
          split
          · exact ⟨_, rfl⟩
          · exact hk i x hi) (by omega) (by omega) (by
          have := keys_put cs one (q - 1)
          have hm : one ∈ keys cs := Classical.byContradiction fun z => by rw [valG_none.mpr z] at hq; cases hq
          rw [if_pos hm] at this
          have := congrArg List.length this
          unfold keys at this
          rw [List.length_map, List.length_map] at this
          omega)
        refine ⟨bs', cs', g', m', a4', a5', a6', a7', a8', by simpa [hq] using e1, ?_, e3, ?_, ?_⟩
        · rw [while_one _ _ _ ht (l2 := [some (.loc p), x1, some (.loc w), some (.int g), some (.int one), some (.int (q - 1)), a6, a7, a8]) (m2 := m1.set c (.dic (kC (putG cs one (q - 1)))))]
          · exact e2
          · have q1 : 0 < q - 1 := by omega
            unfold lw_Pile_let_go_2
            simp [↓hw', hm1, ↓P1.hp, ↓P1.hc, valG_kC, hq, q1, h3, putG_kC, hleft]
        · rw [← L1]; refine Nat.le_trans ?_ e4; simp
        · intro n hn n1 n2 n3 n4
          rw [e5 n (by simp; omega) n1 n2 n3 n4, List.getElem?_set_ne (Ne.symm n3), F1 n n4]
      · rw [if_neg hleft]
        have hmax : ∃ j, (∀ M : Mem, maxD [.int 0, .int ((valG cs one).getD 1 - 1)] M = .ok (.int 0) M) := ⟨(), fun M => by
          show Res.ok (Dv.int (if (valG cs one).getD 1 - 1 > 0 then _ else 0)) M = _
          rw [if_neg (by omega)]⟩
        obtain ⟨_, hmax⟩ := hmax
        have hget : ((valG cs one).map Dv.int).getD (.int 1) = .int ((valG cs one).getD 1) := by cases valG cs one <;> rfl
        cases hb : valG bs one with
        | none =>
          obtain ⟨bs', cs', g', m', a4', a5', a6', a7', a8', e1, e2, e3, e4, e5⟩ := ih rest bs cs g _ (some (.int one)) (some (.int 0)) a6 a7 a8 P1 W1 hk (by omega) (by omega) h3
          refine ⟨bs', cs', g', m', a4', a5', a6', a7', a8', e1, ?_, e3, by omega, fun n hn n1 n2 n3 n4 => by rw [e5 n (by omega) n1 n2 n3 n4, F1 n n4]⟩
          rw [while_one _ _ _ ht (l2 := [some (.loc p), x1, some (.loc w), some (.int g), some (.int one), some (.int 0), a6, a7, a8]) (m2 := m1)]
          · exact e2
          · unfold lw_Pile_let_go_2
            simp [↓hw', hm1, ↓P1.hp, ↓P1.hc, ↓P1.hb, valG_kC, valG_kB, hb, hget, ↓hmax]
        | some x =>
          obtain ⟨q, hq⟩ := hk one x hb
          have hz := sz_drop hb
          let m2 := (m1.set b (.dic (kB (dropG bs one)))).set c (.dic (kC (dropG cs one)))
          have P2 : PAt m2 p b c (dropG bs one) (dropG cs one) k := by
            refine ⟨?_, ?_, List.getElem?_set_self (by simp; exact P1.lc), s1, s2, s3⟩
            · rw [List.getElem?_set_ne s2.symm, List.getElem?_set_ne s1.symm]; exact P1.hp
            · rw [List.getElem?_set_ne s3.symm, List.getElem?_set_self P1.lb]
          have W2 : m2[w]? = some (.lst (rest.map Dv.int)) := by rw [List.getElem?_set_ne w3.symm, List.getElem?_set_ne w2.symm]; exact W1
          have L2 : m2.length = m.length := by simp [m2, L1]
          have F2 : ∀ n, n ≠ b → n ≠ c → n ≠ w → m2[n]? = m[n]? := fun n n1 n2 n3 => by rw [List.getElem?_set_ne n2.symm, List.getElem?_set_ne n1.symm, F1 n n3]
          have hk2 : ∀ i y, valG (dropG bs one) i = some y → ∃ n, valG (dropG cs one) i = some n := fun i y hi => by
            rw [valG_drop] at hi ⊢
            split at hi
            · cases hi
            · rename_i z; rw [if_neg z]; exact hk i y hi
          have l3 : (dropG cs one).length ≤ cs.length := List.length_filter_le ..
          have hpop : ∀ M : Mem, (m1.set b (.dic (kB (dropG bs one))))[c]? = some (.dic (kC cs)) := fun _ => by rw [List.getElem?_set_ne s3]; exact P1.hc
          have hpop2 : (m1.set b (.dic (kB (dropG bs one))))[p]? = some (.ins 0 [.loc b, .loc c, .int k]) := by rw [List.getElem?_set_ne s1.symm]; exact P1.hp
          have hpop := hpop m
          have hq1 : ¬ 1 < q := by rw [hq] at hleft; exact hleft
          cases x with
          | leaf v =>
            obtain ⟨bs', cs', g', m', a4', a5', a6', a7', a8', e1, e2, e3, e4, e5⟩ := ih rest (dropG bs one) (dropG cs one) (g + 1) m2 (some (.int one)) (some (.int 0)) (some (bxD (.leaf v))) a7 a8 P2 W2 hk2 (by simp only [Bx.inner, List.length_nil] at hz; omega) (by simp only [Bx.inner, List.length_nil] at hz; omega) (by omega)
            refine ⟨bs', cs', g', m', a4', a5', a6', a7', a8', by simpa [Bx.inner] using e1, ?_, e3, by omega, fun n hn n1 n2 n3 n4 => by rw [e5 n (by omega) n1 n2 n3 n4, F2 n n2 n3 n4]⟩
            rw [while_one _ _ _ ht (l2 := [some (.loc p), x1, some (.loc w), some (.int (g + 1)), some (.int one), some (.int 0), some (bxD (.leaf v)), a7, a8]) (m2 := m2)]
            · exact e2
            · unfold lw_Pile_let_go_2
              have e : ¬ (("leaf" : Str) = "branch") := by decide +kernel
              simp [↓hw', hm1, ↓P1.hp, ↓P1.hc, ↓P1.hb, valG_kC, valG_kB, hb, hget, ↓hmax, dropG_kB, dropG_kC, ↓hpop, ↓hpop2, hq, bxD, e, m2, hq1]
          | br rows =>
            have hz : sz (dropG bs one) + rows.length ≤ sz bs := by simpa [Bx.inner] using hz
            obtain ⟨m3, a7', a8', u1, u2, u3, u4, u5⟩ := app_loop rows rest m2 (some (.loc p)) x1 (some (.int (g + 1))) (some (.int one)) (some (.int 0)) (some (bxD (.br rows))) a7 a8 P2 W2 w1 w2 w3 (by omega)
            obtain ⟨bs', cs', g', m', a4', a5', a6', a7'', a8'', e1, e2, e3, e4, e5⟩ := ih (rest ++ rows.map (·.2)) (dropG bs one) (dropG cs one) (g + 1) m3 (some (.int one)) (some (.int 0)) (some (bxD (.br rows))) a7' a8' u2 u3 hk2 (by simp; omega) (by simp; omega) (by omega)
            refine ⟨bs', cs', g', m', a4', a5', a6', a7'', a8'', by simpa [Bx.inner] using e1, ?_, e3, by omega, fun n hn n1 n2 n3 n4 => by rw [e5 n (by omega) n1 n2 n3 n4, u5 n n4, F2 n n2 n3 n4]⟩
            rw [while_one _ _ _ ht (l2 := [some (.loc p), x1, some (.loc w), some (.int (g + 1)), some (.int one), some (.int 0), some (bxD (.br rows)), a7', a8']) (m2 := m3)]
            · exact e2
            · unfold lw_Pile_let_go_2
              simp only [m2, bxD] at u1
              simp [↓hw', hm1, ↓P1.hp, ↓P1.hc, ↓P1.hb, valG_kC, valG_kB, hb, hget, ↓hmax, dropG_kB, dropG_kC, ↓hpop, ↓hpop2, hq, bxD, u1, hq1]
theorem let_go_ok {m : Mem} {p b c : Nat} {bs : List (Int × Bx)} {cs : List (Int × Int)} {k : Int} (P : PAt m p b c bs cs k) {i : Int} {x : Bx} (h : valG bs i = some x) (hk : ∀ i x, valG bs i = some x → ∃ n, valG cs i = some n) (hs : sz bs < 1000000) (hc : cs.length < 1000000) :
    ∃ bs' cs' g' m', lg fuelN [i] bs cs 0 = some (bs', cs', g') ∧ m_Pile_let_go [.loc p, .int i] m = .ok (.int g') m' ∧ PAt m' p b c bs' cs' k ∧ Fr m m' p b c := by
  have lp := P.lp
  have lb := P.lb
  have lc := P.lc
  obtain ⟨bs', cs', g', m', a4, a5, a6, a7, a8, e1, e2, e3, e4, e5⟩ := lg_run (p := p) (b := b) (c := c) (w := m.length) (k := k) (x1 := some (.int i)) (by omega) (by omega) (by omega) fuelN [i] bs cs 0 (m ++ [.lst [.int i]]) none none none none none (P.app _) (by simp) hk (by simp [fuelN]; omega) (by simp; omega) (by omega)
  obtain ⟨m'', f1, f2, f3⟩ := fin_rtP P e3 ⟨by simp at e4; omega, fun n hn a1 a2 a3 => by rw [e5 n (by simp; omega) a1 a2 a3 (by omega), List.getElem?_append_left hn]⟩ (.int g')
  refine ⟨bs', cs', g', m'', e1, ?_, f2, f3⟩
  unfold m_Pile_let_go mkFn bd_Pile_let_go
  simp [P.hp, need_ok P h, sWhile, e2, f1]
end
end Law
/-! P2_k05 -/
set_option Elab.async false
set_option linter.all false
set_option maxRecDepth 100000
set_option autoImplicit false
set_option maxHeartbeats 1000000
/-! P2: the tree -/
namespace Law
open PySem PySem.Spec PyProof.Rows L2 Sn

def oD (o : Option Int) : Dv := match o with
  | some b => .int b
  | none => .non
theorem oD_n : oD none = .non := rr rfl
theorem oD_s (i : Int) : oD (some i) = .int i := rr rfl
theorem box_of_ok (rows : List (Str × Int)) (name : Str) (m : Mem) : m_box_of [.lst (rD rows), .str name] m = .ok (oD (valG rows name)) m := by
  have H : ∀ (rs : List (Str × Int)) (x : Option Dv) (a b : Option Dv), ∃ a' b', Sn.forM (tg2 2 3) lf_box_of_1 (rD rs) [x, some (.str name), a, b] m =
      match valG rs name with | some b => .rt (.int b) m | none => .nx [x, some (.str name), a', b'] m := by
    intro rs x
    induction rs with
    | nil => intro a b; exact ⟨a, b, rfl⟩
    | cons p r ih =>
      intro a b
      rw [valG_cons]
      by_cases h : p.1 = name
      · refine ⟨none, none, ?_⟩
        rw [if_pos h]
        have : lf_box_of_1 [x, some (.str name), some (.str p.1), some (.int p.2)] m = .rt (.int p.2) m := by
          unfold lf_box_of_1
          simp [h]
        show Sn.forM (tg2 2 3) lf_box_of_1 (rowD p :: rD r) _ _ = _
        unfold Sn.forM
        simp [rowD, this]
      · obtain ⟨a', b', e⟩ := ih (some (.str p.1)) (some (.int p.2))
        refine ⟨a', b', ?_⟩
        rw [if_neg h]
        refine (forM_cons (x := rowD p) (r := rD r) (l2 := [x, some (.str name), some (.str p.1), some (.int p.2)]) (m2 := m) rfl ?_).trans e
        unfold lf_box_of_1
        simp [h]
  obtain ⟨a', b', e⟩ := H rows (some (.lst (rD rows))) none none
  unfold m_box_of mkFn bd_box_of
  simp [e]
  cases valG rows name <;> simp [oD]
def Bx.rows : Bx → List (Str × Int)
  | .leaf _ => []
  | .br rows => rows
def inRows (bs : List (Int × Bx)) (o : Option Int) : List (Str × Int) := match o with
  | none => []
  | some i => match valG bs i with
    | some x => x.rows
    | none => []
/-- a box that is none or there -/
def There (bs : List (Int × Bx)) (o : Option Int) : Prop := ∀ i, o = some i → ∃ x, valG bs i = some x
/-- every box's rows lead to boxes that are there -/
structure Wf (bs : List (Int × Bx)) : Prop where
  there : ∀ i x, valG bs i = some x → ∀ r ∈ x.rows, ∃ y, valG bs r.2 = some y
  few : ∀ i x, valG bs i = some x → x.rows.length ≤ 1000
theorem rows_in_ok {m : Mem} {p b c : Nat} {bs : List (Int × Bx)} {cs : List (Int × Int)} {k : Int} (P : PAt m p b c bs cs k) (W : Wf bs) {o : Option Int} (h : There bs o) : m_rows_in [.loc p, oD o] m = .ok (.lst (rD (inRows bs o))) m := by
  unfold m_rows_in mkFn bd_rows_in
  cases o with
  | none => simp [oD, inRows]
  | some i =>
    obtain ⟨x, hx⟩ := h i rfl
    have hf := W.few i x hx
    have hc := content_ok P hx (fun rows e => by rw [e] at hf; simp only [Bx.rows] at hf; omega)
    cases x with
    | leaf n =>
      have e : ¬ (("leaf" : Str) = "branch") := by decide +kernel
      simp [oD, inRows, hx, P.hp, hc, bxD, Bx.rows, e]
    | br rows => simp [oD, inRows, hx, P.hp, hc, bxD, Bx.rows]
def fnd (bs : List (Int × Bx)) : Option Int → List Str → Option Int
  | here, [] => here
  | here, n :: r => fnd bs (valG (inRows bs here) n) r
theorem There.step {bs : List (Int × Bx)} (W : Wf bs) {o : Option Int} (h : There bs o) (n : Str) : There bs (valG (inRows bs o) n) := fun i e => by
  have hm := valG_mem e
  cases o with
  | none => cases hm
  | some j =>
    obtain ⟨x, hx⟩ := h j rfl
    simp only [inRows, hx] at hm
    exact W.there j x hx _ hm
theorem There.fnd {bs : List (Int × Bx)} (W : Wf bs) : ∀ (names : List Str) {o : Option Int}, There bs o → There bs (fnd bs o names)
  | [], _, h => h
  | n :: r, _, h => There.fnd W r (h.step W n)
theorem found_ok {m : Mem} {p b c : Nat} {bs : List (Int × Bx)} {cs : List (Int × Int)} {k : Int} (P : PAt m p b c bs cs k) (W : Wf bs) {o : Option Int} (h : There bs o) {path : Dv} {names : List Str} (hp : itm path = some (names.map Dv.str)) : m_found [.loc p, oD o, path] m = .ok (oD (fnd bs o names)) m := by
  have H : ∀ (ns : List Str) (here : Option Int) (x1 x2 x4 : Option Dv), There bs here → ∃ x4', Sn.forM (tgN 4) lf_found_1 (ns.map Dv.str) [some (.loc p), x1, x2, some (oD here), x4] m = .nx [some (.loc p), x1, x2, some (oD (fnd bs here ns)), x4'] m := by
    intro ns
    induction ns with
    | nil => intro here x1 x2 x4 _; exact ⟨x4, rfl⟩
    | cons n r ih =>
      intro here x1 x2 x4 hh
      obtain ⟨x4', e⟩ := ih (valG (inRows bs here) n) x1 x2 (some (.str n)) (hh.step W n)
      refine ⟨x4', ?_⟩
      rw [List.map_cons]
      refine (forM_cons (l2 := [some (.loc p), x1, x2, some (oD (valG (inRows bs here) n)), some (.str n)]) (m2 := m) rfl ?_).trans e
      unfold lf_found_1
      simp [rows_in_ok P W hh, box_of_ok]
  obtain ⟨x4', e⟩ := H names o (some (oD o)) (some path) none h
  unfold m_found mkFn bd_found
  simp [hp, e]
end Law
/-! P3_k05 -/
set_option Elab.async false
set_option linter.all false
set_option maxRecDepth 100000
set_option autoImplicit false
set_option maxHeartbeats 1000000
/-! P3: the store's methods that change nothing -/
namespace Law
open PySem PySem.Spec PyProof.Rows L2 Sn

/-- the store at s: its pile at p, the live top, the table of shots at h, the number taken -/
structure SAt (m : Mem) (s p b c h : Nat) (bs : List (Int × Bx)) (cs : List (Int × Int)) (k live : Int) (sh : List (Int × Int)) (taken : Int) : Prop where
  hs : m[s]? = some (.ins 1 [.loc p, .int live, .loc h, .int taken])
  P : PAt m p b c bs cs k
  hh : m[h]? = some (.dic (kC sh))
  sp : s ≠ p
  sb : s ≠ b
  sc : s ≠ c
  sh : s ≠ h
  ph : p ≠ h
  bh : b ≠ h
  ch : c ≠ h
/-- a list or a tuple -/
def Lt (x : Dv) (ds : List Dv) : Prop := x = .lst ds ∨ x = .tup ds
theorem Lt.itm {x : Dv} {ds : List Dv} (h : Lt x ds) : itm x = some ds := by rcases h with rfl | rfl <;> rfl
/-- names in order -/
def gN (s : Str) : Prop := 1 ≤ s.length ∧ s.length ≤ 8 ∧ ∀ x ∈ tx s, 97 ≤ x ∧ x ≤ 122
theorem gN.is {s : Str} (h : gN s) : isN (.str s) = true := by
  show (decide (1 ≤ s.length) && (decide (s.length ≤ 8) && (tx s).all fun c => decide (97 ≤ c ∧ c ≤ 122))) = true
  rw [decide_eq_true h.1, decide_eq_true h.2.1, List.all_eq_true.mpr fun c hc => decide_eq_true (h.2.2 c hc)]
  rfl
theorem names_ok {m : Mem} {x : Dv} {ns : List Str} (hx : Lt x (ns.map Dv.str)) (h : ∀ n ∈ ns, gN n) (hl : ns.length ≤ 8) : m_checked [x] m = .ok (.lst (ns.map Dv.str)) m := by
  rw [checked_ok hx fun d hd => by
    obtain ⟨n, hn, rfl⟩ := List.mem_map.mp hd
    exact .inl ⟨n, rfl, by have := (h n hn).2.1; omega⟩]
  rw [if_pos]
  unfold good
  rw [List.length_map, decide_eq_true hl, List.all_eq_true.mpr fun d hd => by
    obtain ⟨n, hn, rfl⟩ := List.mem_map.mp hd
    exact (h n hn).is]
  rfl
section
variable {m : Mem} {s p b c h : Nat} {bs : List (Int × Bx)} {cs : List (Int × Int)} {k live : Int} {sh : List (Int × Int)} {taken : Int}
/-- the top of a view: None, or a shot's number -/
def vw0 (live : Int) (sh : List (Int × Int)) : Option Int → Option Int
  | none => some live
  | some i => valG sh i
theorem top_ok (S : SAt m s p b c h bs cs k live sh taken) {v : Option Int} {t : Int} (hv : vw0 live sh v = some t) : m_Store_top [.loc s, oD v] m = .ok (.int t) m := by
  unfold m_Store_top mkFn bd_Store_top
  cases v with
  | none =>
    cases hv
    simp [oD, S.hs]
  | some i =>
    have hv : valG sh i = some t := hv
    simp [oD, S.hs, S.hh, valG_kC, hv]
def kindD (bs : List (Int × Bx)) (o : Option Int) : Dv := match o with
  | none => .non
  | some i => match valG bs i with
    | some (.leaf _) => .str "leaf"
    | _ => .str "branch"
theorem kind_ok (S : SAt m s p b c h bs cs k live sh taken) (W : Wf bs) {v : Option Int} {t : Int} (hv : vw0 live sh v = some t) (ht : There bs (some t)) {x : Dv} {ns : List Str} (hx : Lt x (ns.map Dv.str)) (hn : ∀ n ∈ ns, gN n) (hl : ns.length ≤ 8) :
    m_Store_kind [.loc s, oD v, x] m = .ok (kindD bs (fnd bs (some t) ns)) m := by
  have h1 := top_ok S hv
  have h2 := names_ok (m := m) hx hn hl
  have h3 := found_ok S.P W ht (path := .lst (ns.map Dv.str)) (names := ns) rfl
  have h3 : m_found [.loc p, .int t, .lst (ns.map Dv.str)] m = _ := h3
  have hT := ht.fnd W ns
  unfold m_Store_kind mkFn bd_Store_kind
  cases hf : fnd bs (some t) ns with
  | none =>
    rw [hf] at h3
    have h3 : m_found [.loc p, .int t, .lst (ns.map Dv.str)] m = .ok .non m := h3
    simp [S.hs, h1, h2, h3, kindD]
  | some i =>
    rw [hf] at h3
    have h3 : m_found [.loc p, .int t, .lst (ns.map Dv.str)] m = .ok (.int i) m := h3
    obtain ⟨y, hy⟩ := hT i hf
    have hc := content_ok S.P hy (fun rows e => by have := W.few i y hy; rw [e] at this; simp only [Bx.rows] at this; omega)
    cases y with
    | leaf n => simp [S.hs, h1, h2, h3, kindD, S.P.hp, hc, hy, bxD]
    | br rows => simp [S.hs, h1, h2, h3, kindD, S.P.hp, hc, hy, bxD]
theorem value_ok (S : SAt m s p b c h bs cs k live sh taken) (W : Wf bs) {v : Option Int} {t : Int} (hv : vw0 live sh v = some t) (ht : There bs (some t)) {x : Dv} {ns : List Str} (hx : Lt x (ns.map Dv.str)) (hn : ∀ n ∈ ns, gN n) (hl : ns.length ≤ 8)
    {i n : Int} (hf : fnd bs (some t) ns = some i) (hy : valG bs i = some (.leaf n)) : m_Store_value [.loc s, oD v, x] m = .ok (.int n) m := by
  have h0 := kind_ok S W hv ht hx hn hl
  rw [hf] at h0
  have h1 := top_ok S hv
  have h3 := found_ok S.P W ht (path := x) (names := ns) hx.itm
  rw [hf] at h3
  have h3 : m_found [.loc p, .int t, x] m = .ok (.int i) m := h3
  have hc := content_ok S.P hy (fun rows e => by cases e)
  have e : ¬ (("leaf" : Str) = "branch") := by decide +kernel
  unfold m_Store_value mkFn bd_Store_value
  simp [S.hs, h0, kindD, hy, h1, h3, S.P.hp, hc, bxD, e]
theorem names_le {l : Lc} {m : Mem} {it : A} {rows : List (Str × Int)} (hi : it l m = .ok (rD rows) m) (hj : 4 < l.length) (hl : rows.length ≤ 1000) : eLc it 4 tYesM le_Store_names_1 l m = .ok (.lst ((keys rows).map Dv.str)) m := by
  have := eLc_map (it := it) (j := 4) (e := le_Store_names_1) hi (fun d => match d with | .tup [a, _] => a | d => d) (fun x hx acc => by
    obtain ⟨q, _, rfl⟩ := List.mem_map.mp hx
    unfold le_Store_names_1
    simp [hj, rowD]) (by simp; omega) (by rw [List.map_map]; exact clos_map _ _ (fun q => by simp [rowD]) _)
  rw [this]
  congr 2
  unfold rD keys
  rw [List.map_map, List.map_map] <;> rfl
theorem snames_ok (S : SAt m s p b c h bs cs k live sh taken) (W : Wf bs) {v : Option Int} {t : Int} (hv : vw0 live sh v = some t) (ht : There bs (some t)) {x : Dv} {ns : List Str} (hx : Lt x (ns.map Dv.str)) (hn : ∀ n ∈ ns, gN n) (hl : ns.length ≤ 8)
    {i : Int} {rows : List (Str × Int)} (hf : fnd bs (some t) ns = some i) (hy : valG bs i = some (.br rows)) : m_Store_names [.loc s, oD v, x] m = .ok (.lst ((keys rows).map Dv.str)) m := by
  have h0 := kind_ok S W hv ht hx hn hl
  rw [hf] at h0
  have h1 := top_ok S hv
  have h3 := found_ok S.P W ht (path := x) (names := ns) hx.itm
  rw [hf] at h3
  have h3 : m_found [.loc p, .int t, x] m = .ok (.int i) m := h3
  have h4 := rows_in_ok S.P W (o := some i) (fun j e => by cases e; exact ⟨_, hy⟩)
  have h4 : m_rows_in [.loc p, .int i] m = .ok (.lst (rD rows)) m := by
    have e : inRows bs (some i) = rows := by simp [inRows, hy, Bx.rows]
    rw [← e]; exact h4
  have e : ¬ (("branch" : Str) = "leaf") := by decide +kernel
  have h5 := names_le (l := [some (.loc s), some (oD v), some x, some (.str "branch"), none]) (m := m) (it := iSeq (eCall 2 m_rows_in (aCons (eFld 1 0 (eVar 0)) (aCons (eCall 3 m_found (aCons (eFld 1 0 (eVar 0)) (aCons (eMeth 1 2 m_Store_top (eVar 0) (aCons (eVar 1) aNil)) (aCons (eVar 2) aNil)))) aNil))))
    (rows := rows) (by simp [S.hs, h1, h3, h4]) (by simp) (by have := W.few i _ hy; exact this)
  unfold m_Store_names mkFn bd_Store_names
  simp [h0, kindD, hy, e, S.hs, ↓h5]
end
end Law
/-! P4_k05 -/
set_option Elab.async false
set_option linter.all false
set_option maxRecDepth 100000
set_option autoImplicit false
set_option maxHeartbeats 1000000
/-! P4: rows changed, branches made -/
namespace Law
open PySem PySem.Spec PyProof.Rows L2 Sn

theorem finF_loc {m : Mem} {ds : List Dv} (h : clos m.length ds = true) : finF m (.rt (.loc m.length) (m ++ [.lst ds])) = .ok (.lst ds) m := by
  unfold finF
  simp [h]
theorem clos_rD (n : Nat) (rows : List (Str × Int)) : clos n (rD rows) = true := clos_map _ _ (fun q => by simp [rowD]) _
theorem plc_cons (name : Str) (box : Int) (put : Bool) (p : Str × Int) (r : List (Str × Int)) : plc name box put (p :: r) = (if !put && decide (¬ slt p.1 name) then [(name, box)] else []) ++ ((if p.1 = name then [] else [p]) ++ plc name box (put || decide (¬ slt p.1 name)) r) := rfl
theorem plc_len (name : Str) (box : Int) : ∀ (rows : List (Str × Int)) (put : Bool), (plc name box put rows).length ≤ rows.length + 1
  | [], put => by cases put <;> simp [plc]
  | p :: r, put => by
    have ih := plc_len name box r
    rw [plc_cons]
    have h2 : plc name box true r = dropG r name := plc_true _ _ _
    have h3 : (dropG r name).length ≤ r.length := List.length_filter_le ..
    have h4 := ih false
    rw [List.length_append, List.length_append, List.length_cons]
    have g1 : (if p.1 = name then [] else [p]).length ≤ 1 := by split <;> simp
    cases put
    · by_cases h : slt p.1 name
      · simp [h]; omega
      · simp [h, h2]; omega
    · simp [h2]; omega
theorem placedF_ok (rows : List (Str × Int)) (name : Str) (box : Int) (m : Mem) (hl : rows.length ≤ 1000) : m_placedF [.lst (rD rows), .str name, .int box] m = .ok (.lst (rD (plc name box false rows))) m := by
  have H : ∀ (rs acc : List (Str × Int)) (put : Bool) (x0 a b : Option Dv), acc.length + 2 * rs.length + 2 ≤ 16777216 → ∃ a' b' put', (∃ acc', plc name box put rs = acc' ++ (if put' then [] else [(name, box)]) ∧
      Sn.forM (tg2 5 6) lf_placedF_1 (rD rs) [x0, some (.str name), some (.int box), some (.loc m.length), some (.bl put), a, b] (m ++ [.lst (rD acc)]) =
      .nx [x0, some (.str name), some (.int box), some (.loc m.length), some (.bl put'), a', b'] (m ++ [.lst (rD (acc ++ acc'))])) := by
    intro rs
    induction rs with
    | nil =>
      intro acc put x0 a b h1
      refine ⟨a, b, put, [], ?_, ?_⟩
      · cases put <;> simp [plc]
      · simp [Sn.forM]
    | cons p r ih =>
      intro acc put x0 a b h1
      simp only [List.length_cons] at h1
      have c1 : acc.length < 16777216 := by omega
      have c2 : acc.length + 1 < 16777216 := by omega
      -- what one round adds
      have R : ∀ (add : List (Str × Int)) (put1 : Bool), add.length ≤ 2 → plc name box put (p :: r) = add ++ plc name box put1 r →
          lf_placedF_1 [x0, some (.str name), some (.int box), some (.loc m.length), some (.bl put), some (.str p.1), some (.int p.2)] (m ++ [.lst (rD acc)]) =
            .nx [x0, some (.str name), some (.int box), some (.loc m.length), some (.bl put1), some (.str p.1), some (.int p.2)] (m ++ [.lst (rD (acc ++ add))]) →
          ∃ a' b' put', (∃ acc', plc name box put (p :: r) = acc' ++ (if put' then [] else [(name, box)]) ∧
            Sn.forM (tg2 5 6) lf_placedF_1 (rD (p :: r)) [x0, some (.str name), some (.int box), some (.loc m.length), some (.bl put), a, b] (m ++ [.lst (rD acc)]) =
            .nx [x0, some (.str name), some (.int box), some (.loc m.length), some (.bl put'), a', b'] (m ++ [.lst (rD (acc ++ acc'))])) := fun add put1 h2 h3 h4 => by
        obtain ⟨a', b', put', acc', e1, e2⟩ := ih (acc ++ add) put1 x0 (some (.str p.1)) (some (.int p.2)) (by simp; omega)
        refine ⟨a', b', put', add ++ acc', by rw [h3, e1, List.append_assoc], ?_⟩
        rw [← List.append_assoc]
        exact (forM_cons (x := rowD p) (r := rD r) rfl h4).trans e2
      have pc := plc_cons name box put p r
      cases put with
      | true =>
        by_cases g : p.1 = name
        · exact R [] true (by simp) (by rw [pc]; simp [g]) (by unfold lf_placedF_1; simp [rowD, g])
        · exact R [p] true (by simp) (by rw [pc]; simp [g]) (by unfold lf_placedF_1; simp [rowD, g, c1])
      | false =>
        by_cases h : slt p.1 name
        · have g : p.1 ≠ name := slt_ne h
          exact R [p] false (by simp) (by rw [pc]; simp [g, h]) (by unfold lf_placedF_1; simp [rowD, g, c1, leD_str, h])
        · by_cases g : p.1 = name
          · have h' : ¬ slt name name := by rw [← g] at h ⊢; exact h
            exact R [(name, box)] true (by simp) (by rw [pc]; simp [g, h']) (by unfold lf_placedF_1; simp [rowD, g, c1, leD_str, h'])
          · exact R [(name, box), p] true (by simp) (by rw [pc]; simp [g, h]) (by unfold lf_placedF_1; simp [rowD, g, c1, c2, leD_str, h])
  obtain ⟨a', b', put', acc', e1, e2⟩ := H rows [] false (some (.lst (rD rows))) none none (by simp; omega)
  have hn : acc'.length < 16777216 := by
    have h1 := congrArg List.length e1
    have h2 := plc_len name box rows false
    rw [List.length_append] at h1
    omega
  simp only [List.map_nil, List.nil_append] at e2
  have hF := finF_loc (m := m) (clos_rD m.length (plc name box false rows))
  unfold m_placedF mkFnF bd_placedF
  cases put' with
  | true =>
    simp at e1
    rw [e1] at hF
    simp [e2, hF, e1]
  | false =>
    simp at e1
    rw [e1] at hF
    simp only [List.map_append, List.map_cons, List.map_nil, rowD] at hF
    simp [e2, e1, hn, rowD]
    exact hF
theorem without_ok (rows : List (Str × Int)) (name : Str) (m : Mem) (hl : rows.length ≤ 1000) : m_without [.lst (rD rows), .str name] m = .ok (.lst (rD (dropG rows name))) m := by
  have hE := eLc_ok (it := iSeq (eVar 0)) (j := 2) (t := lt_without_2) (e := le_without_1) (l := [some (.lst (rD rows)), some (.str name), none]) (m := m) (m1 := m) (ds := rD rows) (by simp)
    (fun d => match d with | .tup [.str a, _] => decide (a ≠ name) | _ => false) id
    (fun x hx acc => by
      obtain ⟨p, _, rfl⟩ := List.mem_map.mp hx
      unfold lt_without_2
      simp [rowD])
    (fun x hx _ acc => by unfold le_without_1; simp) (by simp; omega)
  have e : ((rD rows).filter (fun d => match d with | .tup [.str a, _] => decide (a ≠ name) | _ => false)).map id = rD (dropG rows name) := by
    rw [List.map_id, List.filter_map]
    rfl
  rw [e] at hE
  have hE := hE (clos_rD _ _)
  unfold m_without mkFn bd_without
  simp [hE]
/-- each row's box held once more -/
def heldAll (cs : List (Int × Int)) (rows : List (Str × Int)) : List (Int × Int) := rows.foldl (fun cs r => putG cs r.2 ((valG cs r.2).getD 0 + 1)) cs
theorem keys_put_in {κ α : Type} [DecidableEq κ] {kvs : List (κ × α)} {k : κ} {v w : α} (h : valG kvs k = some w) : keys (putG kvs k v) = keys kvs := by
  rw [keys_put, if_pos]
  exact Classical.byContradiction fun z => by rw [valG_none.mpr z] at h; cases h
theorem keys_len {κ α : Type} (kvs : List (κ × α)) : (keys kvs).length = kvs.length := List.length_map _
theorem branch_ok {m : Mem} {p b c : Nat} {bs : List (Int × Bx)} {cs : List (Int × Int)} {k : Int} (P : PAt m p b c bs cs k) (rows : List (Str × Int)) (hr : ∀ r ∈ rows, ∃ x, valG bs r.2 = some x) (hk : ∀ i x, valG bs i = some x → ∃ n, valG cs i = some n)
    (hb : bs.length < 1000000) (hc : cs.length < 1000000) (hl : rows.length ≤ 1000) :
    ∃ m', m_Pile_branch [.loc p, .lst (rD rows)] m = .ok (.int (k + 1)) m' ∧ PAt m' p b c (putG bs (k + 1) (.br rows)) (putG (heldAll cs rows) (k + 1) 0) (k + 1) ∧ Fr m m' p b c ∧ (heldAll cs rows).length = cs.length := by
  have H1 : ∀ (rs : List (Str × Int)) (x1 a d : Option Dv), (∀ r ∈ rs, ∃ x, valG bs r.2 = some x) → ∃ a' d', Sn.forM (tg2 2 3) lf_Pile_branch_1 (rD rs) [some (.loc p), x1, a, d] m = .nx [some (.loc p), x1, a', d'] m := by
    intro rs
    induction rs with
    | nil => intro x1 a d _; exact ⟨a, d, rfl⟩
    | cons r rs ih =>
      intro x1 a d h
      obtain ⟨a', d', e⟩ := ih x1 (some (.str r.1)) (some (.int r.2)) fun z hz => h z (.tail _ hz)
      obtain ⟨x, hx⟩ := h r (.head _)
      refine ⟨a', d', (forM_cons (x := rowD r) (r := rD rs) (l2 := [some (.loc p), x1, some (.str r.1), some (.int r.2)]) (m2 := m) rfl ?_).trans e⟩
      unfold lf_Pile_branch_1
      simp [P.hp, need_ok P hx]
  have H2 : ∀ (rs : List (Str × Int)) (m : Mem) (cs : List (Int × Int)) (x1 a d : Option Dv), PAt m p b c bs cs k → (∀ r ∈ rs, ∃ x, valG bs r.2 = some x) → (∀ i x, valG bs i = some x → ∃ n, valG cs i = some n) → cs.length < 1000000 →
      ∃ a' d' m', Sn.forM (tg2 2 3) lf_Pile_branch_2 (rD rs) [some (.loc p), x1, a, d] m = .nx [some (.loc p), x1, a', d'] m' ∧ PAt m' p b c bs (heldAll cs rs) k ∧ Fr m m' p b c ∧ (heldAll cs rs).length = cs.length := by
    intro rs
    induction rs with
    | nil => intro m cs x1 a d P _ _ _; exact ⟨a, d, m, rfl, P, Fr.refl _ _ _ _, rfl⟩
    | cons r rs ih =>
      intro m cs x1 a d P h hk hc
      obtain ⟨x, hx⟩ := h r (.head _)
      obtain ⟨n, hn⟩ := hk _ x hx
      obtain ⟨m1, e1, P1, F1⟩ := hold_ok P hx hn (by omega)
      have hkeys : keys (putG cs r.2 (n + 1)) = keys cs := keys_put_in hn
      have hlen : (putG cs r.2 (n + 1)).length = cs.length := by rw [← keys_len, hkeys, keys_len]
      obtain ⟨a', d', m', e2, P2, F2, L2⟩ := ih m1 (putG cs r.2 (n + 1)) x1 (some (.str r.1)) (some (.int r.2)) P1 (fun z hz => h z (.tail _ hz)) (fun i y hi => by
        rw [valG_put]
        split
        · exact ⟨_, rfl⟩
        · exact hk i y hi) (by omega)
      have eq : heldAll cs (r :: rs) = heldAll (putG cs r.2 (n + 1)) rs := by unfold heldAll; simp [hn]
      rw [eq]
      refine ⟨a', d', m', (forM_cons (x := rowD r) (r := rD rs) (l2 := [some (.loc p), x1, some (.str r.1), some (.int r.2)]) (m2 := m1) rfl ?_).trans e2, P2, F1.trans F2, by omega⟩
      unfold lf_Pile_branch_2
      simp [P.hp, e1]
  obtain ⟨a1, d1, e1⟩ := H1 rows (some (.lst (rD rows))) none none hr
  obtain ⟨a2, d2, m2, e2, P2, F2, L2⟩ := H2 rows m cs (some (.lst (rD rows))) a1 d1 P hr hk hc
  obtain ⟨m3, e3, P3, F3⟩ := fresh_ok P2 (.br rows) (by omega) (by omega)
  have e3 : m_Pile_fresh [.loc p, .tup [.str "branch", .lst (rD rows)]] m2 = .ok (.int (k + 1)) m3 := e3
  obtain ⟨m4, e4, P4, F4⟩ := fin_rtP P P3 (F2.trans F3) (.int (k + 1))
  refine ⟨m4, ?_, P4, F4, L2⟩
  have hl' : rows.length ≤ 16777216 := by omega
  unfold m_Pile_branch mkFn bd_Pile_branch
  simp [e1, e2, P2.hp, hl', e3, e4]
end Law
/-! P5_k05 -/
set_option Elab.async false
set_option linter.all false
set_option maxRecDepth 100000
set_option autoImplicit false
set_option maxHeartbeats 1000000
/-! P5: the way rebuilt -/
namespace Law
open PySem PySem.Spec PyProof.Rows L2 Sn

theorem mem_plc {name : Str} {box : Int} {r : Str × Int} : ∀ {rows : List (Str × Int)} {put : Bool}, r ∈ plc name box put rows → r ∈ rows ∨ r.2 = box
  | [], put, h => by
    cases put with
    | true => cases h
    | false =>
      have h : r ∈ [(name, box)] := h
      rw [List.mem_singleton] at h
      subst h
      exact .inr rfl
  | p :: rs, put, h => by
    rw [plc_cons] at h
    rcases List.mem_append.mp h with h | h
    · split at h
      · rw [List.mem_singleton] at h
        subst h
        exact .inr rfl
      · cases h
    · rcases List.mem_append.mp h with h | h
      · split at h
        · cases h
        · rw [List.mem_singleton] at h
          subst h
          exact .inl (.head _)
      · rcases mem_plc h with h | h
        · exact .inl (.tail _ h)
        · exact .inr h
def rbRows (bs : List (Int × Bx)) (pk : Option Int) (nk : Str) (made : Option Int) : List (Str × Int) := match made with
  | some v => plc nk v false (inRows bs pk)
  | none => dropG (inRows bs pk) nk
/-- the boxes from place k - 1 up to the top, made anew -/
def rb (bs0 : List (Int × Bx)) (top : Option Int) (ns : List Str) : Nat → List (Int × Bx) → List (Int × Int) → Int → Option Int → List (Int × Bx) × List (Int × Int) × Int × Option Int
  | 0, bs, cs, K, made => (bs, cs, K, made)
  | k + 1, bs, cs, K, made =>
    rb bs0 top ns k (putG bs (K + 1) (.br (rbRows bs (fnd bs0 top (ns.take k)) (ns.getD k default) made)))
      (putG (heldAll cs (rbRows bs (fnd bs0 top (ns.take k)) (ns.getD k default) made)) (K + 1) 0) (K + 1) (some (K + 1))
/-- what was there is there -/
def Ext (bs0 bs : List (Int × Bx)) : Prop := ∀ i x, valG bs0 i = some x → valG bs i = some x
theorem Ext.refl (bs : List (Int × Bx)) : Ext bs bs := fun _ _ h => h
theorem Ext.trans {a b c : List (Int × Bx)} (h : Ext a b) (g : Ext b c) : Ext a c := fun i x e => g i x (h i x e)
theorem Ext.inRows {bs0 bs : List (Int × Bx)} (e : Ext bs0 bs) {o : Option Int} (h : There bs0 o) : inRows bs o = Law.inRows bs0 o := by
  cases o with
  | none => rfl
  | some i =>
    obtain ⟨x, hx⟩ := h i rfl
    unfold Law.inRows
    simp only [hx, e i x hx]
theorem Ext.there {bs0 bs : List (Int × Bx)} (e : Ext bs0 bs) {o : Option Int} (h : There bs0 o) : There bs o := fun i hi => by
  obtain ⟨x, hx⟩ := h i hi
  exact ⟨x, e i x hx⟩
theorem Ext.fnd {bs0 bs : List (Int × Bx)} (e : Ext bs0 bs) (W : Wf bs0) : ∀ (ns : List Str) {o : Option Int}, There bs0 o → fnd bs o ns = Law.fnd bs0 o ns
  | [], _, _ => rfl
  | n :: r, o, h => by
    show Law.fnd bs (valG (Law.inRows bs o) n) r = Law.fnd bs0 (valG (Law.inRows bs0 o) n) r
    rw [e.inRows h]
    exact e.fnd W r (h.step W n)
/-- all is in order, and K is the last number made -/
structure Ord (bs : List (Int × Bx)) (cs : List (Int × Int)) (K : Int) : Prop where
  W : Wf bs
  hk : ∀ i x, valG bs i = some x → ∃ n, valG cs i = some n
  le : ∀ i, i ∈ keys bs → 1 ≤ i ∧ i ≤ K
  lec : ∀ i, i ∈ keys cs → 1 ≤ i ∧ i ≤ K
  nd : (keys bs).Nodup
  ndc : (keys cs).Nodup
theorem Ord.new {bs : List (Int × Bx)} {cs : List (Int × Int)} {K : Int} (O : Ord bs cs K) {i : Int} (h : K < i) : valG bs i = none := by
  rw [valG_none]
  intro z
  have := (O.le i z).2
  omega
theorem heldAll_keys {bs : List (Int × Bx)} : ∀ (rows : List (Str × Int)) (cs : List (Int × Int)), (∀ r ∈ rows, ∃ x, valG bs r.2 = some x) → (∀ i x, valG bs i = some x → ∃ n, valG cs i = some n) → keys (heldAll cs rows) = keys cs
  | [], _, _, _ => rfl
  | r :: rs, cs, h, hk => by
    obtain ⟨x, hx⟩ := h r (.head _)
    obtain ⟨n, hn⟩ := hk _ x hx
    have e : heldAll cs (r :: rs) = heldAll (putG cs r.2 (n + 1)) rs := by unfold heldAll; simp [hn]
    rw [e, heldAll_keys rs _ (fun z hz => h z (.tail _ hz)) (fun i y hi => by
      rw [valG_put]
      split
      · exact ⟨_, rfl⟩
      · exact hk i y hi), keys_put_in hn]
/-- one more branch keeps the order -/
theorem Ord.branch {bs : List (Int × Bx)} {cs : List (Int × Int)} {K : Int} (O : Ord bs cs K) (h0 : 0 ≤ K) {x : Bx} (hr : ∀ r ∈ x.rows, ∃ y, valG bs r.2 = some y) (hl : x.rows.length ≤ 1000) : Ord (putG bs (K + 1) x) (putG (heldAll cs x.rows) (K + 1) 0) (K + 1) ∧ Ext bs (putG bs (K + 1) x) ∧ valG (putG bs (K + 1) x) (K + 1) = some x := by
  have hn := O.new (i := K + 1) (by omega)
  have E : Ext bs (putG bs (K + 1) x) := fun i y e => by
    rw [valG_put, if_neg]
    · exact e
    · rintro rfl; rw [hn] at e; cases e
  have hkeys := heldAll_keys x.rows cs hr O.hk
  refine ⟨⟨⟨fun i y hy r hr' => ?_, fun i y hy => ?_⟩, fun i y hy => ?_, fun i hi => ?_, fun i hi => ?_, nodup_put O.nd _ _, nodup_put (by rw [hkeys]; exact O.ndc) _ _⟩, E, by rw [valG_put, if_pos rfl]⟩
  · rw [valG_put] at hy
    split at hy
    · cases hy
      obtain ⟨z, hz⟩ := hr r hr'
      exact ⟨z, E _ _ hz⟩
    · obtain ⟨z, hz⟩ := O.W.there i y hy r hr'
      exact ⟨z, E _ _ hz⟩
  · rw [valG_put] at hy
    split at hy
    · cases hy; exact hl
    · exact O.W.few i y hy
  · rw [valG_put] at hy
    rw [valG_put]
    split at hy
    · rename_i e; rw [if_pos e]; exact ⟨_, rfl⟩
    · rename_i e
      rw [if_neg e]
      obtain ⟨n, hn⟩ := O.hk i y hy
      have hm : i ∈ keys (heldAll cs x.rows) := by
        rw [hkeys]
        exact Classical.byContradiction fun z => by rw [valG_none.mpr z] at hn; cases hn
      cases q : valG (heldAll cs x.rows) i with
      | none => exact absurd hm (valG_none.mp q)
      | some w => exact ⟨w, rfl⟩
  · rcases mem_keys_put.mp hi with rfl | h
    · omega
    · have := O.le i h; omega
  · rcases mem_keys_put.mp hi with rfl | h
    · omega
    · rw [hkeys] at h
      have := O.lec i h; omega

theorem putG_len {κ α : Type} [DecidableEq κ] (kvs : List (κ × α)) (k : κ) (v : α) : (putG kvs k v).length ≤ kvs.length + 1 := length_put kvs k v
theorem rb_run {p b c : Nat} {bs0 : List (Int × Bx)} (W0 : Wf bs0) (few : ∀ i x, valG bs0 i = some x → x.rows.length ≤ 999) {top : Option Int} (hT : There bs0 top) {ns : List Str} (hn : ns.length ≤ 8) (x0 x1 x3 : Option Dv) (h0 : x0 = some (.loc p)) :
    ∀ (k : Nat) (fuel : Nat) (m : Mem) (bs : List (Int × Bx)) (cs : List (Int × Int)) (K : Int) (made : Option Int) (x7 : Option Dv), k ≤ ns.length → k < fuel → PAt m p b c bs cs K → Ord bs cs K → Ext bs0 bs → 0 ≤ K → (∀ v, made = some v → ∃ y, valG bs v = some y) → bs.length + k < 500000 → cs.length + k < 500000 →
      ∃ m' x7', whileM (tV (eBin gtD (eVar 6) (eC (.int 0)))) lw_rebuilt_2 fuel [x0, x1, some (.lst (ns.map Dv.str)), x3, some (.lst ((List.range ns.length).map fun j => oD (fnd bs0 top (ns.take j)))), some (oD made), some (.int k), x7] m =
        .nx [x0, x1, some (.lst (ns.map Dv.str)), x3, some (.lst ((List.range ns.length).map fun j => oD (fnd bs0 top (ns.take j)))), some (oD (rb bs0 top ns k bs cs K made).2.2.2), some (.int 0), x7'] m' ∧
        PAt m' p b c (rb bs0 top ns k bs cs K made).1 (rb bs0 top ns k bs cs K made).2.1 (rb bs0 top ns k bs cs K made).2.2.1 ∧
        Ord (rb bs0 top ns k bs cs K made).1 (rb bs0 top ns k bs cs K made).2.1 (rb bs0 top ns k bs cs K made).2.2.1 ∧ Ext bs (rb bs0 top ns k bs cs K made).1 ∧ Fr m m' p b c := by
  subst h0
  intro k
  induction k with
  | zero =>
    intro fuel m bs cs K made x7 h1 h2 P O E K0 hm l1 l2
    obtain ⟨f, rfl⟩ : ∃ f, fuel = f + 1 := ⟨fuel - 1, by omega⟩
    exact ⟨m, x7, while_nil _ _ _ (by simp), P, O, Ext.refl _, Fr.refl _ _ _ _⟩
  | succ k ih =>
    intro fuel m bs cs K made x7 h1 h2 P O E K0 hm l1 l2
    obtain ⟨f, rfl⟩ : ∃ f, fuel = f + 1 := ⟨fuel - 1, by omega⟩
    have hk : k < ns.length := by omega
    have hpk : There bs0 (fnd bs0 top (ns.take k)) := hT.fnd W0 _
    have hpk' := E.there hpk
    have hin := E.inRows hpk
    have hin1 : (inRows bs (fnd bs0 top (ns.take k))).length ≤ 999 := by
      rw [hin]
      cases q : fnd bs0 top (ns.take k) with
      | none => simp [inRows]
      | some i =>
        obtain ⟨x, hx⟩ := hpk i q
        simp only [inRows, hx]
        exact few i x hx
    have hin2 : ∀ r ∈ inRows bs (fnd bs0 top (ns.take k)), ∃ y, valG bs r.2 = some y := fun r hr => by
      cases q : fnd bs0 top (ns.take k) with
      | none => rw [q] at hr; cases hr
      | some i =>
        obtain ⟨x, hx⟩ := hpk' i q
        rw [q] at hr
        simp only [inRows, hx] at hr
        exact O.W.there i x hx r hr
    have hnk : ns.getD k default = ns[k] := by simp [hk]
    have er := rows_in_ok P O.W hpk'
    generalize hrows : rbRows bs (fnd bs0 top (ns.take k)) (ns.getD k default) made = rows
    have hr1 : ∀ r ∈ rows, ∃ y, valG bs r.2 = some y := fun r hr => by
      rw [← hrows] at hr
      unfold rbRows at hr
      cases made with
      | none => exact hin2 r (List.mem_filter.mp hr).1
      | some v =>
        rcases mem_plc hr with h | h
        · exact hin2 r h
        · rw [h]; exact hm v rfl
    have hr2 : rows.length ≤ 1000 := by
      rw [← hrows]
      unfold rbRows
      cases made with
      | none => exact Nat.le_trans (List.length_filter_le ..) (by omega)
      | some v =>
        have := plc_len (ns.getD k default) v (inRows bs (fnd bs0 top (ns.take k))) false
        exact Nat.le_trans this (by omega)
    obtain ⟨m1, e1, P1, F1, L1⟩ := branch_ok P rows hr1 O.hk (by omega) (by omega) hr2
    obtain ⟨O1, E1, V1⟩ := O.branch K0 (x := .br rows) hr1 hr2
    have O1 : Ord (putG bs (K + 1) (.br rows)) (putG (heldAll cs rows) (K + 1) 0) (K + 1) := O1
    have q1 := putG_len bs (K + 1) (.br rows)
    have q2 := putG_len (heldAll cs rows) (K + 1) 0
    obtain ⟨m', x7', e2, P2, O2, E2, F2⟩ := ih f m1 (putG bs (K + 1) (.br rows)) (putG (heldAll cs rows) (K + 1) 0) (K + 1) (some (K + 1)) (some (.lst (rD rows))) (by omega) (by omega) P1 O1 (E.trans E1) (by omega) (fun v hv => by cases hv; exact ⟨_, V1⟩) (by omega) (by omega)
    have eq : rb bs0 top ns (k + 1) bs cs K made = rb bs0 top ns k (putG bs (K + 1) (.br rows)) (putG (heldAll cs rows) (K + 1) 0) (K + 1) (some (K + 1)) := by
      conv => lhs; unfold rb
      rw [hrows]
    rw [eq]
    refine ⟨m', x7', ?_, P2, O2, E1.trans E2, F1.trans F2⟩
    rw [while_one _ _ _ (by simp) (l2 := [some (.loc p), x1, some (.lst (ns.map Dv.str)), x3, some (.lst ((List.range ns.length).map fun j => oD (fnd bs0 top (ns.take j)))), some (oD (some (K + 1))), some (.int k), some (.lst (rD rows))]) (m2 := m1)]
    · exact e2
    · have a1 : atI ((List.range ns.length).map fun j => oD (fnd bs0 top (ns.take j))) (k : Int) = some (oD (fnd bs0 top (ns.take k))) := atI_nat (by simp [hk])
      have a2 : atI (ns.map Dv.str) (k : Int) = some (.str (ns.getD k default)) := atI_nat (by simp [hk])
      have hc : ((k : Int) + 1) - 1 = k := by omega
      unfold lw_rebuilt_2
      generalize ((List.range ns.length).map fun j => oD (fnd bs0 top (ns.take j))) = passed at a1
      generalize (ns.map Dv.str) = pl at a2
      cases made with
      | none =>
        have hw := without_ok (inRows bs (fnd bs0 top (ns.take k))) (ns.getD k default) m (by omega)
        have hrows : dropG (inRows bs (fnd bs0 top (ns.take k))) (ns.getD k default) = rows := hrows
        rw [hrows] at hw
        generalize ns.getD k default = nk at hw a2
        simp [hc, a1, a2, er, oD_n, oD_s, hw, P.hp, e1]
      | some v =>
        have hw := placedF_ok (inRows bs (fnd bs0 top (ns.take k))) (ns.getD k default) v m (by omega)
        have hrows : plc (ns.getD k default) v false (inRows bs (fnd bs0 top (ns.take k))) = rows := hrows
        rw [hrows] at hw
        generalize ns.getD k default = nk at hw a2
        simp [hc, a1, a2, er, oD_n, oD_s, hw, P.hp, e1]

theorem cutL_take {α : Type} (xs : List α) (j : Nat) : cutL xs none (some (j : Int)) = xs.take j := by
  unfold cutL
  rw [HT.sIx_none, HT.sIx_nat, List.drop_zero, Nat.sub_zero]
  rcases Nat.le_total j xs.length with g | g
  · rw [Nat.min_eq_left g]
  · rw [Nat.min_eq_right g, List.take_of_length_le (Nat.le_refl _), List.take_of_length_le g]
theorem rebuilt_ok {m : Mem} {p b c : Nat} {bs : List (Int × Bx)} {cs : List (Int × Int)} {K : Int} (P : PAt m p b c bs cs K) (O : Ord bs cs K) (few : ∀ i x, valG bs i = some x → x.rows.length ≤ 999) {top : Option Int} (hT : There bs top) {ns : List Str} (hn : ns.length ≤ 8)
    (K0 : 0 ≤ K) {made : Option Int} (hm : ∀ v, made = some v → ∃ y, valG bs v = some y) (l1 : bs.length < 400000) (l2 : cs.length < 400000) :
    ∃ m', m_rebuilt [.loc p, oD top, .lst (ns.map Dv.str), oD made] m = .ok (oD (rb bs top ns ns.length bs cs K made).2.2.2) m' ∧
      PAt m' p b c (rb bs top ns ns.length bs cs K made).1 (rb bs top ns ns.length bs cs K made).2.1 (rb bs top ns ns.length bs cs K made).2.2.1 ∧
      Ord (rb bs top ns ns.length bs cs K made).1 (rb bs top ns ns.length bs cs K made).2.1 (rb bs top ns ns.length bs cs K made).2.2.1 ∧ Ext bs (rb bs top ns ns.length bs cs K made).1 ∧ Fr m m' p b c := by
  have b2 : (ns.length : Int) < 4611686018427387904 := by omega
  have b3 : -4611686018427387904 ≤ (ns.length : Int) := by omega
  have hE := eLc_map (it := iR1 (aCons (eMk lenD (aCons (eVar 2) aNil)) aNil)) (j := 6) (e := le_rebuilt_1) (l := [some (.loc p), some (oD top), some (.lst (ns.map Dv.str)), some (oD made), none, none, none, none]) (m := m) (m1 := m) (ds := rng 0 ns.length) (by simp [b2, b3])
    (fun d => match d with | .int j => oD (fnd bs top (ns.take j.toNat)) | d => d)
    (fun x hx acc => by
      obtain ⟨j, hj, rfl⟩ := List.mem_map.mp hx
      have hf := found_ok (P.app [.lst acc]) O.W hT (path := .lst ((ns.take j).map Dv.str)) (names := ns.take j) rfl
      have hcut : cutL (ns.map Dv.str) none (some (j : Int)) = (ns.take j).map Dv.str := by rw [cutL_take, List.map_take]
      unfold le_rebuilt_1
      simp only [eCall_r, aCons_r, eVar_r, eSl_r, oSome_r, oNone_r, aNil_r, Int.zero_add]
      simp
      rw [hcut]
      exact hf)
    (by rw [rng_length]; simp; omega) (by unfold rng; rw [List.map_map]; exact clos_map _ _ (fun j => by simp; cases fnd bs top (ns.take j) <;> simp [oD]) _)
  have he : (rng 0 ns.length).map (fun d => match d with | .int j => oD (fnd bs top (ns.take j.toNat)) | d => d) = (List.range ns.length).map fun j => oD (fnd bs top (ns.take j)) := by
    unfold rng
    rw [List.map_map]
    apply List.map_congr_left
    intro j _
    simp
  rw [he] at hE
  obtain ⟨m1, x7, e1, P1, O1, E1, F1⟩ := rb_run O.W few hT hn (some (.loc p)) (some (oD top)) (some (oD made)) rfl ns.length fuelN m bs cs K made none (Nat.le_refl _) (by simp [fuelN]; omega) P O (Ext.refl _) K0 hm (by omega) (by omega)
  obtain ⟨m2, e2, P2, F2⟩ := fin_rtP P P1 F1 (oD (rb bs top ns ns.length bs cs K made).2.2.2)
  refine ⟨m2, ?_, P2, O1, E1, F2⟩
  unfold m_rebuilt mkFn bd_rebuilt
  generalize ((List.range ns.length).map fun j => oD (fnd bs top (ns.take j))) = passed at hE e1
  have hlen' : (ns.map Dv.str).length = ns.length := List.length_map _
  generalize ns.map Dv.str = pl at hE e1 hlen'
  simp [hE, sWhile, hlen', e1, e2]
end Law
/-! P6_k05 -/
set_option Elab.async false
set_option linter.all false
set_option maxRecDepth 100000
set_option autoImplicit false
set_option maxHeartbeats 1000000
/-! P6: the store's methods that change it -/
namespace Law
open PySem PySem.Spec PyProof.Rows L2 Sn

def SFr (m m' : Mem) (s p b c h : Nat) : Prop := m.length ≤ m'.length ∧ ∀ n, n < m.length → n ≠ s → n ≠ p → n ≠ b → n ≠ c → n ≠ h → m'[n]? = m[n]?
theorem SFr.refl (m : Mem) (s p b c h : Nat) : SFr m m s p b c h := ⟨Nat.le_refl _, fun _ _ _ _ _ _ _ => rfl⟩
theorem SFr.trans {m m' m'' : Mem} {s p b c h : Nat} (f : SFr m m' s p b c h) (g : SFr m' m'' s p b c h) : SFr m m'' s p b c h :=
  ⟨Nat.le_trans f.1 g.1, fun n hn a1 a2 a3 a4 a5 => (g.2 n (Nat.lt_of_lt_of_le hn f.1) a1 a2 a3 a4 a5).trans (f.2 n hn a1 a2 a3 a4 a5)⟩
theorem Fr.s {m m' : Mem} {s p b c h : Nat} (f : Fr m m' p b c) : SFr m m' s p b c h := ⟨f.1, fun n hn _ a2 a3 a4 _ => f.2 n hn a2 a3 a4⟩
section
variable {m m' : Mem} {s p b c h : Nat} {bs bs' : List (Int × Bx)} {cs cs' : List (Int × Int)} {k k' live live' : Int} {sh sh' : List (Int × Int)} {taken taken' : Int}
theorem SAt.ls (S : SAt m s p b c h bs cs k live sh taken) : s < m.length := lt_of_some S.hs
theorem SAt.lh (S : SAt m s p b c h bs cs k live sh taken) : h < m.length := lt_of_some S.hh
theorem SAt.step (S : SAt m s p b c h bs cs k live sh taken) (P' : PAt m' p b c bs' cs' k') (F : Fr m m' p b c) : SAt m' s p b c h bs' cs' k' live sh taken :=
  ⟨(F.2 s S.ls S.sp S.sb S.sc).trans S.hs, P', (F.2 h S.lh S.ph.symm S.bh.symm S.ch.symm).trans S.hh, S.sp, S.sb, S.sc, S.sh, S.ph, S.bh, S.ch⟩
theorem SAt.cut (S : SAt m' s p b c h bs cs k live sh taken) (ht : m'.take m.length = m) (h1 : s < m.length) (h2 : p < m.length) (h3 : b < m.length) (h4 : c < m.length) (h5 : h < m.length) : SAt m s p b c h bs cs k live sh taken := by
  have g : ∀ n, n < m.length → m[n]? = m'[n]? := fun n hn => by
    conv => lhs; rw [← ht]
    rw [List.getElem?_take, if_pos hn]
  exact ⟨(g _ h1).trans S.hs, S.P.cut ht h2 h3 h4, (g _ h5).trans S.hh, S.sp, S.sb, S.sc, S.sh, S.ph, S.bh, S.ch⟩
theorem fin_rtS (S0 : SAt m s p b c h bs cs k live sh taken) (S : SAt m' s p b c h bs' cs' k' live' sh' taken') (f : SFr m m' s p b c h) (d : Dv) : ∃ m'', fin m (.rt d m') = .ok d m'' ∧ SAt m'' s p b c h bs' cs' k' live' sh' taken' ∧ SFr m m'' s p b c h := by
  rw [fin_rt_eq]
  split
  · rename_i g
    exact ⟨m, rfl, S.cut g.1 S0.ls S0.P.lp S0.P.lb S0.P.lc S0.lh, SFr.refl _ _ _ _ _ _⟩
  · exact ⟨m', rfl, S, f⟩
/-- another top -/
theorem SAt.turn (S : SAt m s p b c h bs cs k live sh taken) (t : Int) : SAt (m.set s (.ins 1 [.loc p, .int t, .loc h, .int taken])) s p b c h bs cs k t sh taken ∧ SFr m (m.set s (.ins 1 [.loc p, .int t, .loc h, .int taken])) s p b c h := by
  refine ⟨⟨List.getElem?_set_self S.ls, S.P.keep (p' := s) (fun n _ hn => List.getElem?_set_ne (Ne.symm hn)) S.sp.symm S.sb.symm S.sc.symm, ?_, S.sp, S.sb, S.sc, S.sh, S.ph, S.bh, S.ch⟩, by simp, fun n _ a1 _ _ _ _ => List.getElem?_set_ne (Ne.symm a1)⟩
  rw [List.getElem?_set_ne S.sh]
  exact S.hh
theorem turned_ok (S : SAt m s p b c h bs cs k live sh taken) {t : Int} {x y : Bx} {n : Int} (hx : valG bs t = some x) (hn : valG cs t = some n) (hy : valG bs live = some y) (hk : ∀ i x, valG bs i = some x → ∃ n, valG cs i = some n) (hs : sz bs < 1000000) (hc : cs.length < 1000000) :
    ∃ bs' cs' g m', lg fuelN [live] bs (putG cs t (n + 1)) 0 = some (bs', cs', g) ∧ m_Store_turned [.loc s, .int t] m = .ok (.int g) m' ∧ SAt m' s p b c h bs' cs' k t sh taken ∧ SFr m m' s p b c h := by
  obtain ⟨m1, e1, P1, F1⟩ := hold_ok S.P hx hn (by omega)
  have S1 := S.step P1 F1
  obtain ⟨S2, F2⟩ := S1.turn t
  have hlen : (putG cs t (n + 1)).length = cs.length := by rw [← keys_len, keys_put_in hn, keys_len]
  obtain ⟨bs', cs', g, m3, e2, e3, P3, F3⟩ := let_go_ok S2.P hy (fun i z hz => by
    rw [valG_put]
    split
    · exact ⟨_, rfl⟩
    · exact hk i z hz) hs (by omega)
  have S3 := S2.step P3 F3
  obtain ⟨m4, e4, S4, F4⟩ := fin_rtS S S3 ((F1.s.trans F2).trans F3.s) (.int g)
  refine ⟨bs', cs', g, m4, e2, ?_, S4, F4⟩
  unfold m_Store_turned mkFn bd_Store_turned
  have hs2 := S2.hs
  simp [S.hs, S.P.hp, e1, S1.hs, S1.P.hp, setIns, putI, ↓hs2, ↓S2.P.hp, e3, e4]

theorem sz_put_new {bs : List (Int × Bx)} {i : Int} {x : Bx} (h : valG bs i = none) : sz (putG bs i x) = sz bs + x.inner.length := by
  have h' : i ∉ keys bs := valG_none.mp h
  have e : putG bs i x = bs ++ [(i, x)] := by
    unfold putG
    rw [if_neg (fun z => h' ((any_key bs i).mp z))]
  rw [e]
  unfold sz
  simp
end
/-- what the rebuilding makes -/
theorem rb_made {bs0 : List (Int × Bx)} {top : Option Int} {ns : List Str} : ∀ (k : Nat) (bs : List (Int × Bx)) (cs : List (Int × Int)) (K : Int) (made : Option Int), made = some K ∨ 0 < k → (made = some K → ∃ y, valG bs K = some y) → (made = some K → valG cs K = some 0) →
    (rb bs0 top ns k bs cs K made).2.2.2 = some (rb bs0 top ns k bs cs K made).2.2.1 ∧ (∃ y, valG (rb bs0 top ns k bs cs K made).1 (rb bs0 top ns k bs cs K made).2.2.1 = some y) ∧ valG (rb bs0 top ns k bs cs K made).2.1 (rb bs0 top ns k bs cs K made).2.2.1 = some 0 ∧
      (rb bs0 top ns k bs cs K made).2.2.1 = K + k
  | 0, bs, cs, K, made, h, h1, h2 => by
    rcases h with h | h
    · exact ⟨h, h1 h, h2 h, by show K = K + ((0 : Nat) : Int); omega⟩
    · omega
  | k + 1, bs, cs, K, made, h, h1, h2 => by
    obtain ⟨a, b, c, d⟩ := rb_made (bs0 := bs0) (top := top) (ns := ns) k (putG bs (K + 1) (.br (rbRows bs (fnd bs0 top (ns.take k)) (ns.getD k default) made)))
      (putG (heldAll cs (rbRows bs (fnd bs0 top (ns.take k)) (ns.getD k default) made)) (K + 1) 0) (K + 1) (some (K + 1)) (.inl rfl) (fun _ => ⟨_, by rw [valG_put, if_pos rfl]⟩) (fun _ => by rw [valG_put, if_pos rfl])
    exact ⟨a, b, c, by rw [show (rb bs0 top ns (k + 1) bs cs K made) = _ from rfl]; exact d.trans (by omega)⟩

theorem sz_le : ∀ {bs : List (Int × Bx)}, (∀ q ∈ bs, q.2.rows.length ≤ 1000) → sz bs ≤ 1000 * bs.length
  | [], _ => Nat.le_refl _
  | q :: r, h => by
    have h1 := sz_le (bs := r) fun z hz => h z (.tail _ hz)
    have h2 := h q (.head _)
    have h3 : q.2.inner.length = q.2.rows.length := by
      cases q.2 with
      | leaf n => rfl
      | br rows => exact List.length_map _
    unfold sz at h1 ⊢
    rw [List.map_cons, List.sum_cons, List.length_cons, Nat.mul_add]
    omega
theorem Ord.sz_le {bs : List (Int × Bx)} {cs : List (Int × Int)} {K : Int} (O : Ord bs cs K) : sz bs ≤ 1000 * bs.length :=
  Law.sz_le fun q hq => O.W.few q.1 q.2 (valG_of_mem O.nd (by cases q; exact hq))
theorem rb_len {bs0 : List (Int × Bx)} {top : Option Int} {ns : List Str} : ∀ (k : Nat) (bs : List (Int × Bx)) (cs : List (Int × Int)) (K : Int) (made : Option Int), (rb bs0 top ns k bs cs K made).1.length ≤ bs.length + k
  | 0, bs, _, _, _ => Nat.le_refl _
  | k + 1, bs, cs, K, made => by
    have h := rb_len (bs0 := bs0) (top := top) (ns := ns) k (putG bs (K + 1) (.br (rbRows bs (fnd bs0 top (ns.take k)) (ns.getD k default) made)))
      (putG (heldAll cs (rbRows bs (fnd bs0 top (ns.take k)) (ns.getD k default) made)) (K + 1) 0) (K + 1) (some (K + 1))
    have h2 := putG_len bs (K + 1) (.br (rbRows bs (fnd bs0 top (ns.take k)) (ns.getD k default) made))
    show (rb bs0 top ns k _ _ _ _).1.length ≤ _
    omega
/-- as many counts as keys: both lie between 1 and K -/
theorem nodup_len : ∀ (n : Nat) (l : List Int), l.Nodup → (∀ i ∈ l, 1 ≤ i ∧ i ≤ (n : Int)) → l.length ≤ n
  | 0, l, _, h => by
    cases l with
    | nil => exact Nat.le_refl _
    | cons a r => have := h a (.head _); omega
  | n + 1, l, nd, h => by
    have h1 := nodup_len n (l.filter fun i => decide (i ≠ (n : Int) + 1)) (nd.filter _) fun i hi => by
      obtain ⟨a, b⟩ := List.mem_filter.mp hi
      have := h i a
      have b := of_decide_eq_true b
      omega
    have h2 : ∀ l : List Int, l.Nodup → l.length ≤ (l.filter fun i => decide (i ≠ (n : Int) + 1)).length + 1 := by
      intro l
      induction l with
      | nil => intro _; simp
      | cons a r ih =>
        intro nd
        obtain ⟨x, y⟩ := List.nodup_cons.mp nd
        by_cases e : a = (n : Int) + 1
        · rw [List.filter_cons_of_neg (by simp [e])]
          have : r.filter (fun i => decide (i ≠ (n : Int) + 1)) = r := List.filter_eq_self.mpr fun i hi => decide_eq_true (by rintro rfl; exact x (by rw [e]; exact hi))
          rw [this]; simp
        · rw [List.filter_cons_of_pos (by simp [e])]
          have := ih y
          simp only [List.length_cons]; omega
    have := h2 l nd
    omega
theorem Ord.lens {bs : List (Int × Bx)} {cs : List (Int × Int)} {K : Nat} (O : Ord bs cs (K : Int)) : bs.length ≤ K ∧ cs.length ≤ K := by
  refine ⟨?_, ?_⟩
  · rw [← keys_len]; exact nodup_len K _ O.nd O.le
  · rw [← keys_len]; exact nodup_len K _ O.ndc O.lec
end Law
/-! P7_k05 -/
set_option Elab.async false
set_option linter.all false
set_option maxRecDepth 100000
set_option autoImplicit false
set_option maxHeartbeats 1000000
/-! P7: put -/
namespace Law
open PySem PySem.Spec PyProof.Rows L2 Sn

def isLf (bs : List (Int × Bx)) (o : Option Int) : Bool := match o with
  | none => false
  | some i => match valG bs i with
    | some (.leaf _) => true
    | _ => false
theorem eqD_ns (z : Str) (m : Mem) : eqD .non (.str z) m = .ok (.bl false) m := by simp [eqD, eqB, scD, scal]
theorem kind_leaf (bs : List (Int × Bx)) (o : Option Int) (m : Mem) : eqD (kindD bs o) (.str "leaf") m = .ok (.bl (isLf bs o)) m := by
  have e : ¬ (("branch" : Str) = "leaf") := by decide +kernel
  cases o with
  | none => exact eqD_ns _ _
  | some i =>
    cases hv : valG bs i with
    | none => simp [kindD, isLf, hv, e]
    | some x => cases x <;> simp [kindD, isLf, hv, e]
theorem kind_branch (bs : List (Int × Bx)) (o : Option Int) (m : Mem) : eqD (kindD bs o) (.str "branch") m = .ok (.bl (o.isSome && !isLf bs o)) m := by
  have e : ¬ (("leaf" : Str) = "branch") := by decide +kernel
  cases o with
  | none => exact eqD_ns _ _
  | some i =>
    cases hv : valG bs i with
    | none => simp [kindD, isLf, hv]
    | some x => cases x <;> simp [kindD, isLf, hv, e]
theorem gN.ok {s : Str} (h : gN s) : PyData.strOk s = true := strOk_abc fun x hx => (h.2.2 x hx).2
theorem ne_nil {ns : List Str} (h : ∀ n ∈ ns, gN n) (m : Mem) : eqD (.lst (ns.map Dv.str)) (.lst []) m = .ok (.bl (decide (ns = []))) m := by
  have hp : pln 1 (.lst (ns.map Dv.str)) = true := by
    unfold pln
    exact plns_map 0 Dv.str ns fun s hs => by simp [pln, (h s hs).ok]
  rw [eqD_pln (n := 1) (m := m) (x := .lst (ns.map Dv.str)) (y := .lst []) (by decide) hp rfl (.inl rfl)]
  congr 2
  rw [decide_eq_decide]
  show Dv.lst (ns.map Dv.str) = .lst [] ↔ _
  simp
section
variable {m : Mem} {s p b c h : Nat} {bs : List (Int × Bx)} {cs : List (Int × Int)} {k live : Int} {sh : List (Int × Int)} {taken : Int}
theorem put_loop (S : SAt m s p b c h bs cs k live sh taken) (W : Wf bs) (hT : There bs (some live)) {ns : List Str} (hn : ∀ n ∈ ns, gN n) (hl : ns.length ≤ 8) (free : ∀ j, j < ns.length → isLf bs (fnd bs (some live) (ns.take j)) = false) (x1 x2 : Option Dv) :
    ∀ (k lo : Nat) (a : Option Dv), lo + k ≤ ns.length → ∃ a', Sn.forM (tgN 4) lf_Store_put_1 (rng lo k) [some (.loc s), x1, x2, some (.lst (ns.map Dv.str)), a] m = .nx [some (.loc s), x1, x2, some (.lst (ns.map Dv.str)), a'] m
  | 0, lo, a, _ => ⟨a, rfl⟩
  | k + 1, lo, a, hlo => by
    rw [rng_cons]
    have e1 : ((lo : Int) + 1) = ((lo + 1 : Nat) : Int) := by omega
    rw [e1]
    obtain ⟨a', e⟩ := put_loop S W hT hn hl free x1 x2 k (lo + 1) (some (.int lo)) (by omega)
    refine ⟨a', (forM_cons (l2 := [some (.loc s), x1, x2, some (.lst (ns.map Dv.str)), some (.int lo)]) (m2 := m) rfl ?_).trans e⟩
    have hk := kind_ok S W (v := none) (t := live) rfl hT (x := .lst ((ns.take lo).map Dv.str)) (ns := ns.take lo) (.inl rfl) (fun n hn' => hn n (List.mem_of_mem_take hn')) (by rw [List.length_take]; omega)
    have hk : m_Store_kind [.loc s, .non, .lst ((ns.take lo).map Dv.str)] m = _ := hk
    have hcut : cutL (ns.map Dv.str) none (some (lo : Int)) = (ns.take lo).map Dv.str := by rw [cutL_take, List.map_take]
    have hf := kind_leaf bs (fnd bs (some live) (ns.take lo)) m
    rw [free lo (by omega)] at hf
    unfold lf_Store_put_1
    simp only [List.set]
    generalize ns.map Dv.str = pl at hcut
    generalize (ns.take lo).map Dv.str = pk at hk hcut
    simp [S.hs, hcut, hk, hf]

theorem abs_lt {v : Int} (h : -1000000000000000000000000000000 < v ∧ v < 1000000000000000000000000000000) : ¬ (1000000000000000000000000000000 ≤ if v < 0 then -v else v) := by split <;> omega
/-- a put that makes nothing -/
theorem put_same (S : SAt m s p b c h bs cs k live sh taken) (W : Wf bs) (hT : There bs (some live)) {x : Dv} {ns : List Str} (hx : Lt x (ns.map Dv.str)) (hn : ∀ n ∈ ns, gN n) (hne : ns ≠ []) (hl : ns.length ≤ 8) {v : Int} (hv : -1000000000000000000000000000000 < v ∧ v < 1000000000000000000000000000000)
    (free : ∀ j, j < ns.length → isLf bs (fnd bs (some live) (ns.take j)) = false) {i : Int} (hf : fnd bs (some live) ns = some i) (hy : valG bs i = some (.leaf v)) : m_Store_put [.loc s, x, .int v] m = .ok (.int 0) m := by
  have h1 := names_ok (m := m) hx hn hl
  have h2 := ne_nil hn m
  rw [decide_eq_false hne] at h2
  obtain ⟨a', e⟩ := put_loop S W hT hn hl free (some x) (some (.int v)) ns.length 0 none (by omega)
  have hk := kind_ok S W (v := none) (t := live) rfl hT (x := .lst (ns.map Dv.str)) (ns := ns) (.inl rfl) hn hl
  have hk : m_Store_kind [.loc s, .non, .lst (ns.map Dv.str)] m = _ := hk
  have hva := value_ok S W (v := none) (t := live) rfl hT (x := .lst (ns.map Dv.str)) (ns := ns) (.inl rfl) hn hl hf hy
  have hva : m_Store_value [.loc s, .non, .lst (ns.map Dv.str)] m = _ := hva
  have hlf : isLf bs (fnd bs (some live) ns) = true := by simp [isLf, hf, hy]
  have k1 := kind_leaf bs (fnd bs (some live) ns) m
  have k2 := kind_branch bs (fnd bs (some live) ns) m
  rw [hlf] at k1 k2
  rw [hf] at k2
  rw [hf] at hk k1
  have b2 : (ns.length : Int) < 4611686018427387904 := by omega
  have b3 : -4611686018427387904 ≤ (ns.length : Int) := by omega
  have hlen : (ns.map Dv.str).length = ns.length := List.length_map _
  have e : Sn.forM (tgN 4) lf_Store_put_1 (rng 0 ns.length) [some (.loc s), some x, some (.int v), some (.lst (ns.map Dv.str)), none] m = _ := e
  unfold m_Store_put mkFn bd_Store_put
  generalize ns.map Dv.str = pl at h1 h2 e hk hva hlen
  simp [h1, h2, abs_lt hv, hlen, b2, b3, e, S.hs, hk, k1, k2, hva]

/-- a put that makes boxes -/
theorem put_new {K : Nat} (S : SAt m s p b c h bs cs (K : Int) live sh taken) (O : Ord bs cs (K : Int)) (hK : K < 900) (few : ∀ i x, valG bs i = some x → x.rows.length ≤ 999) (hT : There bs (some live)) {x : Dv} {ns : List Str} (hx : Lt x (ns.map Dv.str)) (hn : ∀ n ∈ ns, gN n) (hne : ns ≠ []) (hl : ns.length ≤ 8) {v : Int}
    (hv : -1000000000000000000000000000000 < v ∧ v < 1000000000000000000000000000000) (free : ∀ j, j < ns.length → isLf bs (fnd bs (some live) (ns.take j)) = false) (nob : (fnd bs (some live) ns).isSome = true → ∃ i n, fnd bs (some live) ns = some i ∧ valG bs i = some (.leaf n) ∧ n ≠ v) :
    ∃ r bs' cs' g m', r = rb (putG bs (K + 1) (.leaf v)) (some live) ns ns.length (putG bs (K + 1) (.leaf v)) (putG cs (K + 1) 0) (K + 1) (some (K + 1)) ∧ lg fuelN [live] r.1 (putG r.2.1 r.2.2.1 (0 + 1)) 0 = some (bs', cs', g) ∧
      m_Store_put [.loc s, x, .int v] m = .ok (.int g) m' ∧ SAt m' s p b c h bs' cs' r.2.2.1 r.2.2.1 sh taken ∧ SFr m m' s p b c h := by
  have h1 := names_ok (m := m) hx hn hl
  have h2 := ne_nil hn m
  rw [decide_eq_false hne] at h2
  obtain ⟨a', e⟩ := put_loop S O.W hT hn hl free (some x) (some (.int v)) ns.length 0 none (by omega)
  have hk := kind_ok S O.W (v := none) (t := live) rfl hT (x := .lst (ns.map Dv.str)) (ns := ns) (.inl rfl) hn hl
  have hk : m_Store_kind [.loc s, .non, .lst (ns.map Dv.str)] m = _ := hk
  obtain ⟨ob, oc⟩ := O.lens
  -- the leaf
  obtain ⟨m1, l1, P1, F1⟩ := leaf_ok S.P v (by omega) (by omega)
  obtain ⟨O1, E1, V1⟩ := O.branch (by omega) (x := .leaf v) (fun r hr => by cases hr) (Nat.zero_le _)
  have O1 : Ord (putG bs ((K : Int) + 1) (.leaf v)) (putG cs ((K : Int) + 1) 0) ((K : Int) + 1) := O1
  have S1 := S.step P1 F1
  have lb := putG_len bs ((K : Int) + 1) (.leaf v)
  have lc := putG_len cs ((K : Int) + 1) 0
  obtain ⟨m2, l2, P2, O2, E2, F2⟩ := rebuilt_ok P1 O1 (fun i y hy => by
    rw [valG_put] at hy
    split at hy
    · cases hy; exact Nat.zero_le _
    · exact few i y hy) (E1.there hT) hl (by omega) (made := some ((K : Int) + 1)) (fun u hu => by cases hu; exact ⟨_, V1⟩) (by omega) (by omega)
  have S2 := S1.step P2 F2
  obtain ⟨q1, ⟨y, q2⟩, q3, q4⟩ := rb_made (bs0 := putG bs ((K : Int) + 1) (.leaf v)) (top := some live) (ns := ns) ns.length (putG bs ((K : Int) + 1) (.leaf v)) (putG cs ((K : Int) + 1) 0) ((K : Int) + 1) (some ((K : Int) + 1)) (.inl rfl) (fun _ => ⟨_, V1⟩) (fun _ => by rw [valG_put, if_pos rfl])
  have hsz := O2.sz_le
  have hln := rb_len (bs0 := putG bs ((K : Int) + 1) (.leaf v)) (top := some live) (ns := ns) ns.length (putG bs ((K : Int) + 1) (.leaf v)) (putG cs ((K : Int) + 1) 0) ((K : Int) + 1) (some ((K : Int) + 1))
  rw [q1] at l2
  obtain ⟨z, hz⟩ := (E1.trans E2).there hT live rfl
  have hlc : (rb (putG bs ((K : Int) + 1) (.leaf v)) (some live) ns ns.length (putG bs ((K : Int) + 1) (.leaf v)) (putG cs ((K : Int) + 1) 0) ((K : Int) + 1) (some ((K : Int) + 1))).2.1.length < 1000000 := by
    have : Ord (rb (putG bs ((K : Int) + 1) (.leaf v)) (some live) ns ns.length (putG bs ((K : Int) + 1) (.leaf v)) (putG cs ((K : Int) + 1) 0) ((K : Int) + 1) (some ((K : Int) + 1))).1 (rb (putG bs ((K : Int) + 1) (.leaf v)) (some live) ns ns.length (putG bs ((K : Int) + 1) (.leaf v)) (putG cs ((K : Int) + 1) 0) ((K : Int) + 1) (some ((K : Int) + 1))).2.1 ((K + 1 + ns.length : Nat) : Int) := by
      have e : ((K + 1 + ns.length : Nat) : Int) = (rb (putG bs ((K : Int) + 1) (.leaf v)) (some live) ns ns.length (putG bs ((K : Int) + 1) (.leaf v)) (putG cs ((K : Int) + 1) 0) ((K : Int) + 1) (some ((K : Int) + 1))).2.2.1 := by rw [q4]; omega
      rw [e]; exact O2
    have := this.lens
    omega
  generalize hr : rb (putG bs ((K : Int) + 1) (.leaf v)) (some live) ns ns.length (putG bs ((K : Int) + 1) (.leaf v)) (putG cs ((K : Int) + 1) 0) ((K : Int) + 1) (some ((K : Int) + 1)) = r at *
  obtain ⟨bs', cs', g, m3, l3, l4, S3, F3⟩ := turned_ok S2 q2 q3 hz O2.hk (by omega) hlc
  obtain ⟨m4, l5, S4, F4⟩ := fin_rtS S S3 ((F1.s.trans F2.s).trans F3) (.int g)
  refine ⟨r, bs', cs', g, m4, rfl, l3, ?_, S4, F4⟩
  have k1 := kind_leaf bs (fnd bs (some live) ns) m
  have k2 := kind_branch bs (fnd bs (some live) ns) m
  have b2 : (ns.length : Int) < 4611686018427387904 := by omega
  have b3 : -4611686018427387904 ≤ (ns.length : Int) := by omega
  have hlen : (ns.map Dv.str).length = ns.length := List.length_map _
  have e : Sn.forM (tgN 4) lf_Store_put_1 (rng 0 ns.length) [some (.loc s), some x, some (.int v), some (.lst (ns.map Dv.str)), none] m = _ := e
  have l2 : m_rebuilt [.loc p, .int live, .lst (ns.map Dv.str), .int ((K : Int) + 1)] m1 = .ok (.int r.2.2.1) m2 := l2
  unfold m_Store_put mkFn bd_Store_put
  cases hf : fnd bs (some live) ns with
  | none =>
    rw [hf] at hk k1 k2
    have k1 : eqD (kindD bs none) (.str "leaf") m = .ok (.bl false) m := k1
    have k2 : eqD (kindD bs none) (.str "branch") m = .ok (.bl false) m := k2
    generalize ns.map Dv.str = pl at h1 h2 e hk l2 hlen
    simp [h1, h2, abs_lt hv, hlen, b2, b3, e, S.hs, hk, k1, k2, S.P.hp, l1, l2, l4, l5]
  | some i =>
    obtain ⟨i', n, e1, e2, e3⟩ := nob (by rw [hf] <;> rfl)
    rw [hf] at e1
    cases e1
    have hva := value_ok S O.W (v := none) (t := live) rfl hT (x := .lst (ns.map Dv.str)) (ns := ns) (.inl rfl) hn hl hf e2
    have hva : m_Store_value [.loc s, .non, .lst (ns.map Dv.str)] m = _ := hva
    have hlf : isLf bs (some i) = true := by simp [isLf, e2]
    rw [hf] at hk k1 k2
    rw [hlf] at k1 k2
    generalize ns.map Dv.str = pl at h1 h2 e hk l2 hva hlen
    simp [h1, h2, abs_lt hv, hlen, b2, b3, e, S.hs, hk, k1, k2, hva, e3, S.P.hp, l1, l2, l4, l5]
end
end Law
/-! P8_k05 -/
set_option Elab.async false
set_option linter.all false
set_option maxRecDepth 100000
set_option autoImplicit false
set_option maxHeartbeats 1000000
/-! P8: a new store -/
namespace Law
open PySem PySem.Spec PyProof.Rows L2 Sn

theorem store_init_ok (m : Mem) : ∃ m' p b c h, m_Store_init [.loc m.length] (m ++ [.ins 1 []]) = .ok .non m' ∧ SAt m' m.length p b c h [(1, .br [])] [(1, 1)] 1 1 [] 0 ∧ (∀ n, n < m.length → m'[n]? = m[n]?) ∧ m.length < p ∧ m.length < b ∧ m.length < c ∧ m.length < h := by
  obtain ⟨m1, i1, P1, G1⟩ := init_ok (m := m ++ [.ins 1 []])
  have hL : (m ++ [MO.ins 1 []]).length = m.length + 1 := by simp
  rw [hL] at i1 P1 G1
  have s1 : m1[m.length]? = some (.ins 1 []) := by rw [G1 _ (by omega)]; simp
  have P2 : PAt (m1.set m.length (.ins 1 [.loc (m.length + 1)])) (m.length + 1) (m.length + 1 + 1) (m.length + 1 + 2) [] [] 0 := P1.keep (p' := m.length) (fun n _ hn => List.getElem?_set_ne (Ne.symm hn)) (by omega) (by omega) (by omega)
  have s2 : (m1.set m.length (.ins 1 [.loc (m.length + 1)]))[m.length]? = some (.ins 1 [.loc (m.length + 1)]) := List.getElem?_set_self (lt_of_some s1)
  have G2 : ∀ n, n < m.length → (m1.set m.length (.ins 1 [.loc (m.length + 1)]))[n]? = m[n]? := fun n hn => by
    rw [List.getElem?_set_ne (by omega), G1 n (by omega), List.getElem?_append_left hn]
  generalize hm2 : m1.set m.length (.ins 1 [.loc (m.length + 1)]) = m2 at P2 s2 G2
  obtain ⟨m3, e3, P3, F3, _⟩ := branch_ok P2 [] (fun r hr => by cases hr) (fun i x hx => by cases hx) (by decide) (by decide) (by decide)
  have e3 : m_Pile_branch [.loc (m.length + 1), .lst []] m2 = .ok (.int 1) m3 := e3
  have P3 : PAt m3 (m.length + 1) (m.length + 1 + 1) (m.length + 1 + 2) [(1, .br [])] [(1, 0)] 1 := P3
  have s3 : m3[m.length]? = some (.ins 1 [.loc (m.length + 1)]) := (F3.2 _ (lt_of_some s2) (by omega) (by omega) (by omega)).trans s2
  have G3 : ∀ n, n < m.length → m3[n]? = m[n]? := fun n hn => (F3.2 n (by have := lt_of_some s2; omega) (by omega) (by omega) (by omega)).trans (G2 n hn)
  have P4 : PAt (m3.set m.length (.ins 1 [.loc (m.length + 1), .int 1])) (m.length + 1) (m.length + 1 + 1) (m.length + 1 + 2) [(1, .br [])] [(1, 0)] 1 := P3.keep (p' := m.length) (fun n _ hn => List.getElem?_set_ne (Ne.symm hn)) (by omega) (by omega) (by omega)
  have s4 : (m3.set m.length (.ins 1 [.loc (m.length + 1), .int 1]))[m.length]? = some (.ins 1 [.loc (m.length + 1), .int 1]) := List.getElem?_set_self (lt_of_some s3)
  have G4 : ∀ n, n < m.length → (m3.set m.length (.ins 1 [.loc (m.length + 1), .int 1]))[n]? = m[n]? := fun n hn => by rw [List.getElem?_set_ne (by omega), G3 n hn]
  generalize hm4 : m3.set m.length (.ins 1 [.loc (m.length + 1), .int 1]) = m4 at P4 s4 G4
  obtain ⟨m5, e5, P5, F5⟩ := hold_ok P4 (i := 1) (x := .br []) (n := 0) rfl rfl (by decide)
  have P5 : PAt m5 (m.length + 1) (m.length + 1 + 1) (m.length + 1 + 2) [(1, .br [])] [(1, 1)] 1 := P5
  have s5 : m5[m.length]? = some (.ins 1 [.loc (m.length + 1), .int 1]) := (F5.2 _ (lt_of_some s4) (by omega) (by omega) (by omega)).trans s4
  have G5 : ∀ n, n < m.length → m5[n]? = m[n]? := fun n hn => (F5.2 n (by have := lt_of_some s4; omega) (by omega) (by omega) (by omega)).trans (G4 n hn)
  have l5 := lt_of_some s5
  have lp := P5.lp
  have lb := P5.lb
  have lc := P5.lc
  have P6 := P5.app [.dic []]
  have s6 : (m5 ++ [MO.dic []])[m.length]? = some (.ins 1 [.loc (m.length + 1), .int 1]) := by rw [List.getElem?_append_left l5]; exact s5
  have P7 : PAt ((m5 ++ [MO.dic []]).set m.length (.ins 1 [.loc (m.length + 1), .int 1, .loc m5.length, .int 0])) (m.length + 1) (m.length + 1 + 1) (m.length + 1 + 2) [(1, .br [])] [(1, 1)] 1 := P6.keep (p' := m.length) (fun n _ hn => List.getElem?_set_ne (Ne.symm hn)) (by omega) (by omega) (by omega)
  have s7 : ((m5 ++ [MO.dic []]).set m.length (.ins 1 [.loc (m.length + 1), .int 1, .loc m5.length]))[m.length]? = some (.ins 1 [.loc (m.length + 1), .int 1, .loc m5.length]) := List.getElem?_set_self (by simp; omega)
  refine ⟨(m5 ++ [MO.dic []]).set m.length (.ins 1 [.loc (m.length + 1), .int 1, .loc m5.length, .int 0]), m.length + 1, m.length + 1 + 1, m.length + 1 + 2, m5.length, ?_, ⟨List.getElem?_set_self (by simp; omega), P7, ?_, by omega, by omega, by omega, by omega, by omega, by omega, by omega⟩, fun n hn => ?_, by omega, by omega, by omega, by omega⟩
  · unfold m_Store_init mkFn bd_Store_init
    have i1' : m_Pile_init [.loc (m.length + 1)] (m ++ [.ins 1 [], .ins 0 []]) = .ok .non m1 := by simpa using i1
    simp [i1', setIns, putI, ↓s1, hm2, ↓s2, ↓P2.hp, e3, ↓s3, hm4, ↓s4, ↓P4.hp, e5, ↓s5, ↓s6, ↓s7]
    rw [fin_nx_eq, if_neg]
    intro z
    have := congrArg (fun q : Mem => q[m.length]?) z
    rw [List.getElem?_take, if_pos (by simp), List.getElem?_set_self (by simp; omega)] at this
    simp at this
  · rw [List.getElem?_set_ne (by omega), List.getElem?_append_right (Nat.le_refl _)]; simp; rfl
  · rw [List.getElem?_set_ne (by omega), List.getElem?_append_left (by omega), G5 n hn]
end Law
/-! T1_k05 -/
set_option Elab.async false
set_option linter.all false
set_option maxRecDepth 100000
set_option autoImplicit false
set_option maxHeartbeats 1000000
/-! T1: who holds what, counted -/
namespace Law
open PySem PySem.Spec PyProof.Rows L2 Sn

/-- how many rows lead to i -/
def refs (bs : List (Int × Bx)) (i : Int) : Nat := (bs.map fun p => p.2.inner.count i).sum
theorem refs_cons (p : Int × Bx) (bs : List (Int × Bx)) (i : Int) : refs (p :: bs) i = p.2.inner.count i + refs bs i := rfl
theorem refs_append (a b : List (Int × Bx)) (i : Int) : refs (a ++ b) i = refs a i + refs b i := by
  unfold refs
  rw [List.map_append, List.sum_append]
theorem mem_keys_of {κ α : Type} [DecidableEq κ] {kvs : List (κ × α)} {k : κ} {v : α} (h : valG kvs k = some v) : k ∈ keys kvs := Classical.byContradiction fun z => by rw [valG_none.mpr z] at h; cases h
theorem of_mem_keys {κ α : Type} [DecidableEq κ] {kvs : List (κ × α)} {k : κ} (h : k ∈ keys kvs) : ∃ v, valG kvs k = some v := by
  cases e : valG kvs k with
  | none => exact absurd h (valG_none.mp e)
  | some v => exact ⟨v, rfl⟩
theorem drop_self {κ α : Type} [DecidableEq κ] {kvs : List (κ × α)} {k : κ} (h : k ∉ keys kvs) : dropG kvs k = kvs := by
  unfold dropG
  refine List.filter_eq_self.mpr fun a ha => decide_eq_true ?_
  rintro rfl
  exact h (List.mem_map.mpr ⟨a, ha, rfl⟩)
theorem put_end {κ α : Type} [DecidableEq κ] {kvs : List (κ × α)} {k : κ} (v : α) (h : k ∉ keys kvs) : putG kvs k v = kvs ++ [(k, v)] := by
  unfold putG
  rw [if_neg (fun z => h ((any_key kvs k).mp z))]
theorem refs_drop {bs : List (Int × Bx)} (nd : (keys bs).Nodup) {one : Int} {x : Bx} (h : valG bs one = some x) (i : Int) : refs (dropG bs one) i + x.inner.count i = refs bs i := by
  induction bs with
  | nil => cases h
  | cons p r ih =>
    have nd' : p.1 ∉ keys r ∧ (keys r).Nodup := List.nodup_cons.mp nd
    rw [valG_cons] at h
    by_cases e : p.1 = one
    · rw [if_pos e] at h
      cases h
      have e1 : dropG (p :: r) one = r := by
        unfold dropG
        rw [List.filter_cons_of_neg (by simp [e])]
        exact drop_self (by rw [← e]; exact nd'.1)
      rw [e1, refs_cons]
      omega
    · rw [if_neg e] at h
      have e1 : dropG (p :: r) one = p :: dropG r one := by
        unfold dropG
        rw [List.filter_cons_of_pos (by simp [e])]
      rw [e1, refs_cons, refs_cons, ← ih nd'.2 h]
      omega
theorem len_drop {bs : List (Int × Bx)} (nd : (keys bs).Nodup) {one : Int} {x : Bx} (h : valG bs one = some x) : (dropG bs one).length + 1 = bs.length := by
  induction bs with
  | nil => cases h
  | cons p r ih =>
    have nd' : p.1 ∉ keys r ∧ (keys r).Nodup := List.nodup_cons.mp nd
    rw [valG_cons] at h
    by_cases e : p.1 = one
    · have e1 : dropG (p :: r) one = r := by
        unfold dropG
        rw [List.filter_cons_of_neg (by simp [e])]
        exact drop_self (by rw [← e]; exact nd'.1)
      rw [e1]; rfl
    · rw [if_neg e] at h
      have e1 : dropG (p :: r) one = p :: dropG r one := by
        unfold dropG
        rw [List.filter_cons_of_pos (by simp [e])]
      rw [e1, List.length_cons, List.length_cons, ih nd'.2 h]
theorem refs_put {bs : List (Int × Bx)} {k : Int} (x : Bx) (h : k ∉ keys bs) (i : Int) : refs (putG bs k x) i = refs bs i + x.inner.count i := by
  rw [put_end _ h, refs_append, refs_cons]
  rfl
theorem refs_mem {bs : List (Int × Bx)} {j : Int} {x : Bx} {i : Int} (h : (j, x) ∈ bs) : x.inner.count i ≤ refs bs i := by
  induction bs with
  | nil => cases h
  | cons p r ih =>
    rw [refs_cons]
    rcases List.mem_cons.mp h with rfl | h
    · show x.inner.count i ≤ x.inner.count i + _
      omega
    · have := ih h
      omega
theorem refs_of {bs : List (Int × Bx)} {i : Int} (h : 1 ≤ refs bs i) : ∃ p ∈ bs, i ∈ p.2.inner := by
  induction bs with
  | nil => exact absurd h (by unfold refs; simp)
  | cons p r ih =>
    rw [refs_cons] at h
    by_cases e : i ∈ p.2.inner
    · exact ⟨p, .head _, e⟩
    · rw [List.count_eq_zero_of_not_mem e] at h
      obtain ⟨q, hq, z⟩ := ih (by omega)
      exact ⟨q, .tail _ hq, z⟩
theorem inner_rows (x : Bx) : x.inner = x.rows.map (·.2) := by cases x <;> rfl
/-- the counts are what they should be, R the holders from outside -/
structure Exa (bs : List (Int × Bx)) (cs : List (Int × Int)) (R : List Int) : Prop where
  nd : (keys bs).Nodup
  ndc : (keys cs).Nodup
  kc : ∀ i, i ∈ keys cs ↔ i ∈ keys bs
  ex : ∀ i, i ∈ keys bs → valG cs i = some ((refs bs i + R.count i : Nat) : Int)
  rt : ∀ i ∈ R, i ∈ keys bs
  wf : ∀ i x, valG bs i = some x → ∀ j ∈ x.inner, j ∈ keys bs
/-- each box is held -/
def Pos (bs : List (Int × Bx)) (R : List Int) : Prop := ∀ i ∈ keys bs, 1 ≤ refs bs i + R.count i
theorem Exa.perm {bs : List (Int × Bx)} {cs : List (Int × Int)} {R R' : List Int} (E : Exa bs cs R) (h : R.Perm R') : Exa bs cs R' :=
  ⟨E.nd, E.ndc, E.kc, fun i hi => by rw [E.ex i hi, h.count_eq], fun i hi => E.rt i (h.mem_iff.mpr hi), E.wf⟩
theorem Pos.perm {bs : List (Int × Bx)} {R R' : List Int} (E : Pos bs R) (h : R.Perm R') : Pos bs R' := fun i hi => by rw [← h.count_eq]; exact E i hi
theorem filter_keys {α : Type} (bs : List (Int × α)) (f : Int → Bool) (one : Int) : dropG (bs.filter fun p => f p.1) one = bs.filter fun p => (f p.1 && decide (p.1 ≠ one)) := by
  unfold dropG
  rw [List.filter_filter]
  apply List.filter_congr
  intro a _
  rw [Bool.and_comm]
theorem lg_exact (roots : List Int) : ∀ (n : Nat) (st : List Int) (bs : List (Int × Bx)) (cs : List (Int × Int)) (g : Int), Exa bs cs (roots ++ st) → Pos bs (roots ++ st) → st.length + sz bs < n →
    ∃ (keep : Int → Bool) (cs' : List (Int × Int)) (g' : Int), lg n st bs cs g = some (bs.filter (fun p => keep p.1), cs', g') ∧ g' + ((bs.filter fun p => keep p.1).length : Int) = g + bs.length ∧ Exa (bs.filter fun p => keep p.1) cs' roots ∧ Pos (bs.filter fun p => keep p.1) roots := by
  intro n
  induction n with
  | zero => intro st bs cs g _ _ h; omega
  | succ n ih =>
    intro st bs cs g E P hn
    rcases List.eq_nil_or_concat st with rfl | ⟨rest, one, rfl⟩
    · refine ⟨fun _ => true, cs, g, ?_, ?_, ?_, ?_⟩
      · have e : bs.filter (fun p => (fun _ => true) p.1) = bs := List.filter_eq_self.mpr fun _ _ => rfl
        rw [e]
        rfl
      · have e : bs.filter (fun p => (fun _ => true) p.1) = bs := List.filter_eq_self.mpr fun _ _ => rfl
        rw [e]
      · have e : bs.filter (fun p => (fun _ => true) p.1) = bs := List.filter_eq_self.mpr fun _ _ => rfl
        rw [e]
        rw [List.append_nil] at E
        exact E
      · have e : bs.filter (fun p => (fun _ => true) p.1) = bs := List.filter_eq_self.mpr fun _ _ => rfl
        rw [e]
        rw [List.append_nil] at P
        exact P
    · simp only [List.concat_eq_append] at *
      have gl : (rest ++ [one]).getLast? = some one := by simp
      have dl : (rest ++ [one]).dropLast = rest := by simp
      have hm : one ∈ keys bs := E.rt one (by simp)
      have hq := E.ex one hm
      have hp := P one hm
      have hc1 : ∀ i, (roots ++ (rest ++ [one])).count i = (roots ++ rest).count i + [one].count i := fun i => by rw [← List.append_assoc, List.count_append]
      have hc2 : ∀ i, i ≠ one → [one].count i = 0 := fun i hi => List.count_eq_zero_of_not_mem (by simpa using hi)
      have hc3 : [one].count one = 1 := by simp
      simp only [List.length_append, List.length_cons, List.length_nil] at hn
      unfold lg
      simp only [gl, dl, hq, Option.getD_some]
      by_cases c : 1 < ((refs bs one + (roots ++ (rest ++ [one])).count one : Nat) : Int)
      · rw [if_pos c]
        have E' : Exa bs (putG cs one (((refs bs one + (roots ++ (rest ++ [one])).count one : Nat) : Int) - 1)) (roots ++ rest) := by
          refine ⟨E.nd, nodup_put E.ndc _ _, fun i => ?_, fun i hi => ?_, fun i hi => E.rt i ?_, E.wf⟩
          · rw [mem_keys_put, E.kc]
            constructor
            · rintro (rfl | h)
              · exact hm
              · exact h
            · exact .inr
          · rw [valG_put]
            split
            · rename_i e
              subst e
              rw [hc1, hc3]
              congr 1
              omega
            · rename_i e
              rw [E.ex i hi, hc1, hc2 i e]
              rfl
          · rw [← List.append_assoc]
            exact List.mem_append_left _ hi
        refine ih rest bs _ g E' (fun i hi => ?_) (by omega)
        by_cases e : i = one
        · subst e
          rw [hc1, hc3] at c
          omega
        · have := P i hi
          rw [hc1, hc2 i e] at this
          exact this
      · rw [if_neg c]
        obtain ⟨x, hx⟩ := of_mem_keys hm
        have hz : refs bs one = 0 ∧ (roots ++ rest).count one = 0 := by
          rw [hc1, hc3] at c
          omega
        have nin : one ∉ roots ++ rest := fun z => by
          have := List.count_pos_iff.mpr z
          omega
        have nref : ∀ i y, valG bs i = some y → one ∉ y.inner := fun i y hy z => by
          have h1 := List.count_pos_iff.mpr z
          have h2 := refs_mem (i := one) (valG_mem hy)
          omega
        have hsz := sz_drop hx
        have hln := len_drop E.nd hx
        have E' : Exa (dropG bs one) (dropG cs one) (roots ++ (rest ++ x.inner)) := by
          refine ⟨nodup_drop E.nd _, nodup_drop E.ndc _, fun i => ?_, fun i hi => ?_, fun i hi => ?_, fun i y hy j hj => ?_⟩
          · rw [keys_drop, keys_drop, List.mem_filter, List.mem_filter, E.kc]
          · rw [keys_drop, List.mem_filter] at hi
            have ne : i ≠ one := of_decide_eq_true hi.2
            have h4 : (roots ++ (rest ++ x.inner)).count i = (roots ++ rest).count i + x.inner.count i := by rw [← List.append_assoc, List.count_append]
            rw [valG_drop, if_neg ne, E.ex i hi.1, hc1, hc2 i ne, h4]
            have := refs_drop E.nd hx i
            congr 1
            omega
          · rw [keys_drop, List.mem_filter]
            rw [← List.append_assoc] at hi
            rcases List.mem_append.mp hi with hi | hi
            · refine ⟨E.rt i (by rw [← List.append_assoc]; exact List.mem_append_left _ hi), decide_eq_true ?_⟩
              rintro rfl
              exact nin hi
            · refine ⟨E.wf one x hx i hi, decide_eq_true ?_⟩
              rintro rfl
              exact nref _ x hx hi
          · rw [valG_drop] at hy
            split at hy
            · cases hy
            · rw [keys_drop, List.mem_filter]
              refine ⟨E.wf i y hy j hj, decide_eq_true ?_⟩
              rintro rfl
              exact nref i y hy hj
        obtain ⟨keep, cs', g', e1, e2, e3, e4⟩ := ih (rest ++ x.inner) (dropG bs one) (dropG cs one) (g + 1) E' (fun i hi => by
          rw [keys_drop, List.mem_filter] at hi
          have ne : i ≠ one := of_decide_eq_true hi.2
          have h1 := P i hi.1
          rw [hc1, hc2 i ne] at h1
          have h2 := refs_drop E.nd hx i
          have h4 : (roots ++ (rest ++ x.inner)).count i = (roots ++ rest).count i + x.inner.count i := by rw [← List.append_assoc, List.count_append]
          rw [h4]
          omega) (by rw [List.length_append]; omega)
        have eq : (dropG bs one).filter (fun p => keep p.1) = bs.filter (fun p => (keep p.1 && decide (p.1 ≠ one))) := by
          unfold dropG
          rw [List.filter_filter]
        rw [eq] at e1 e2 e3 e4
        refine ⟨fun i => keep i && decide (i ≠ one), cs', g', ?_, ?_, e3, e4⟩
        · simp only [hx]
          exact e1
        · have e2 : g' + ((bs.filter (fun p => (fun i => keep i && decide (i ≠ one)) p.1)).length : Int) = g + 1 + ((dropG bs one).length : Int) := e2
          rw [e2]
          omega
theorem valG_filter {α : Type} (bs : List (Int × α)) (f : Int → Bool) (i : Int) : valG (bs.filter fun p => f p.1) i = if f i = true then valG bs i else none := by
  induction bs with
  | nil => simp [valG_nil]
  | cons p r ih =>
    by_cases h : f p.1 = true
    · rw [List.filter_cons_of_pos (p := fun p : Int × α => f p.1) h, valG_cons, valG_cons, ih]
      by_cases e : p.1 = i
      · subst e; simp [h]
      · rw [if_neg e, if_neg e]
    · rw [List.filter_cons_of_neg (p := fun p : Int × α => f p.1) h, ih, valG_cons]
      by_cases e : p.1 = i
      · subst e; simp [h]
      · rw [if_neg e]
theorem heldAll_val : ∀ (rows : List (Str × Int)) (cs : List (Int × Int)) (i : Int), (∀ r ∈ rows, r.2 ∈ keys cs) → valG (heldAll cs rows) i = (valG cs i).map fun n => n + ((rows.map (·.2)).count i : Int)
  | [], cs, i, _ => by
    show valG cs i = _
    cases valG cs i <;> simp
  | r :: rs, cs, i, h => by
    obtain ⟨n, hn⟩ := of_mem_keys (h r (.head _))
    have e : heldAll cs (r :: rs) = heldAll (putG cs r.2 (n + 1)) rs := by unfold heldAll; simp [hn]
    rw [e, heldAll_val rs _ i fun z hz => mem_keys_put.mpr (.inr (h z (.tail _ hz))), valG_put, List.map_cons, List.count_cons]
    by_cases g : i = r.2
    · subst g
      rw [if_pos rfl, hn]
      simp
      omega
    · rw [if_neg g]
      have : (r.2 == i) = false := by simpa using fun z => g z.symm
      rw [this]
      simp
theorem heldAll_keys' : ∀ (rows : List (Str × Int)) (cs : List (Int × Int)), (∀ r ∈ rows, r.2 ∈ keys cs) → keys (heldAll cs rows) = keys cs
  | [], _, _ => rfl
  | r :: rs, cs, h => by
    obtain ⟨n, hn⟩ := of_mem_keys (h r (.head _))
    have e : heldAll cs (r :: rs) = heldAll (putG cs r.2 (n + 1)) rs := by unfold heldAll; simp [hn]
    rw [e, heldAll_keys' rs _ fun z hz => mem_keys_put.mpr (.inr (h z (.tail _ hz))), keys_put_in hn]
/-- a new box: nobody holds it, and it holds its rows' boxes -/
theorem Exa.make {bs : List (Int × Bx)} {cs : List (Int × Int)} {R : List Int} (E : Exa bs cs R) {k : Int} {x : Bx} (hk : k ∉ keys bs) (hr : ∀ r ∈ x.rows, r.2 ∈ keys bs) :
    Exa (putG bs k x) (putG (heldAll cs x.rows) k 0) R ∧ refs (putG bs k x) k + R.count k = 0 ∧ ∀ i, refs (putG bs k x) i = refs bs i + (x.rows.map (·.2)).count i := by
  have hrc : ∀ r ∈ x.rows, r.2 ∈ keys cs := fun r h => (E.kc _).mpr (hr r h)
  have hR : k ∉ R := fun z => hk (E.rt k z)
  have r1 := fun i => refs_put x hk i
  have r0 : refs bs k = 0 := by
    rcases Nat.eq_zero_or_pos (refs bs k) with h | h
    · exact h
    · obtain ⟨p, hp, hi⟩ := refs_of h
      exact absurd (E.wf p.1 p.2 (valG_of_mem E.nd hp) k hi) hk
  have r2 : x.inner.count k = 0 := List.count_eq_zero_of_not_mem fun z => by
    rw [inner_rows] at z
    obtain ⟨r, hr', rfl⟩ := List.mem_map.mp z
    exact hk (hr r hr')
  have r3 : refs (putG bs k x) k + R.count k = 0 := by
    rw [r1, r0, r2, List.count_eq_zero_of_not_mem hR]
  refine ⟨⟨nodup_put E.nd _ _, nodup_put (by rw [heldAll_keys' _ _ hrc]; exact E.ndc) _ _, fun i => ?_, fun i hi => ?_, fun i hi => mem_keys_put.mpr (.inr (E.rt i hi)), fun i y hy j hj => ?_⟩, r3, fun i => by rw [r1, inner_rows]⟩
  · rw [mem_keys_put, mem_keys_put, heldAll_keys' _ _ hrc, E.kc]
  · rw [valG_put]
    split
    · rename_i e
      subst e
      rw [r3]
      rfl
    · rename_i e
      have hi : i ∈ keys bs := (mem_keys_put.mp hi).resolve_left e
      rw [heldAll_val _ _ _ hrc, E.ex i hi, r1, inner_rows]
      simp only [Option.map_some]
      congr 1
      omega
  · rw [valG_put] at hy
    split at hy
    · cases hy
      rw [inner_rows] at hj
      obtain ⟨r, hr', rfl⟩ := List.mem_map.mp hj
      exact mem_keys_put.mpr (.inr (hr r hr'))
    · exact mem_keys_put.mpr (.inr (E.wf i y hy j hj))
/-- held once more -/
theorem Exa.held {bs : List (Int × Bx)} {cs : List (Int × Int)} {R : List Int} (E : Exa bs cs R) {t n : Int} (ht : t ∈ keys bs) (hn : valG cs t = some n) : Exa bs (putG cs t (n + 1)) (t :: R) := by
  refine ⟨E.nd, nodup_put E.ndc _ _, fun i => ?_, fun i hi => ?_, fun i hi => ?_, E.wf⟩
  · rw [mem_keys_put, E.kc]
    constructor
    · rintro (rfl | h)
      · exact ht
      · exact h
    · exact .inr
  · rw [valG_put, List.count_cons]
    split
    · rename_i e
      subst e
      rw [E.ex _ hi] at hn
      cases hn
      simp
      omega
    · rename_i e
      have : (t == i) = false := by simpa using fun z => e z.symm
      rw [E.ex i hi, this]
      simp
  · rcases List.mem_cons.mp hi with rfl | h
    · exact ht
    · exact E.rt i h
end Law
/-! T2_k05 -/
set_option Elab.async false
set_option linter.all false
set_option maxRecDepth 100000
set_option autoImplicit false
set_option maxHeartbeats 1000000
/-! T2: trees, and what a way made anew changes -/
namespace Law
open PySem PySem.Spec PyProof.Rows L2 Sn

/-- a box in order: its rows lead down, their names are names and rise, and are not more than its number -/
structure Bok (i : Int) (x : Bx) : Prop where
  dn : ∀ r ∈ x.rows, r.2 < i
  gn : ∀ r ∈ x.rows, gN r.1
  srt : Srt x.rows
  few : (x.rows.length : Int) ≤ i
def TabOk (bs : List (Int × Bx)) : Prop := ∀ i x, valG bs i = some x → Bok i x
theorem TabOk.filter {bs : List (Int × Bx)} (h : TabOk bs) (f : Int → Bool) : TabOk (bs.filter fun p => f p.1) := fun i x e => by
  rw [valG_filter] at e
  split at e
  · exact h i x e
  · cases e
theorem TabOk.put {bs : List (Int × Bx)} (h : TabOk bs) {k : Int} {x : Bx} (hx : Bok k x) : TabOk (putG bs k x) := fun i y e => by
  rw [valG_put] at e
  split at e
  · rename_i g; cases e; rw [g]; exact hx
  · exact h i y e
theorem Ext.filter (bs : List (Int × Bx)) (f : Int → Bool) : Ext (bs.filter fun p => f p.1) bs := fun i x e => by
  rw [valG_filter] at e
  split at e
  · exact e
  · cases e
theorem inRows_of {bs : List (Int × Bx)} {i : Int} {x : Bx} (h : valG bs i = some x) : inRows bs (some i) = x.rows := by
  unfold inRows
  simp only [h]
theorem inRows_no {bs : List (Int × Bx)} {i : Int} (h : valG bs i = none) : inRows bs (some i) = [] := by
  unfold inRows
  simp only [h]
theorem fnd_none (bs : List (Int × Bx)) : ∀ q : List Str, fnd bs none q = none
  | [] => rfl
  | n :: r => fnd_none bs r
theorem fnd_app (bs : List (Int × Bx)) : ∀ (a b : List Str) (o : Option Int), fnd bs o (a ++ b) = fnd bs (fnd bs o a) b
  | [], _, _ => rfl
  | n :: r, b, o => fnd_app bs r b _
theorem fnd_leaf {bs : List (Int × Bx)} {i v : Int} (h : valG bs i = some (.leaf v)) : ∀ q : List Str, q ≠ [] → fnd bs (some i) q = none
  | [], z => absurd rfl z
  | n :: r, _ => by
    show fnd bs (valG (inRows bs (some i)) n) r = none
    have : inRows bs (some i) = [] := by unfold inRows; simp only [h]; rfl
    rw [this]
    exact fnd_none bs r
/-- what stands at a path: nothing, a branch, a leaf's number -/
def kvB (bs : List (Int × Bx)) : Option Int → Option (Option Int)
  | none => none
  | some i => match valG bs i with
    | some (.leaf v) => some (some v)
    | some (.br _) => some none
    | none => none
def kv (bs : List (Int × Bx)) (o : Option Int) (q : List Str) : Option (Option Int) := kvB bs (fnd bs o q)
theorem kv_none (bs : List (Int × Bx)) (q : List Str) : kv bs none q = none := by unfold kv; rw [fnd_none] <;> rfl
theorem kv_cons (bs : List (Int × Bx)) (o : Option Int) (n : Str) (r : List Str) : kv bs o (n :: r) = kv bs (valG (inRows bs o) n) r := rfl
theorem kv_app (bs : List (Int × Bx)) (o : Option Int) (a b : List Str) : kv bs o (a ++ b) = kv bs (fnd bs o a) b := by unfold kv; rw [fnd_app]
theorem kv_ext {bs0 bs : List (Int × Bx)} (e : Ext bs0 bs) (W : Wf bs0) {o : Option Int} (h : There bs0 o) (q : List Str) : kv bs o q = kv bs0 o q := by
  unfold kv
  rw [e.fnd W q h]
  have ht := h.fnd W q
  cases g : fnd bs0 o q with
  | none => rfl
  | some i =>
    obtain ⟨x, hx⟩ := ht i g
    unfold kvB
    simp only [hx, e i x hx]
theorem kv_leaf {bs : List (Int × Bx)} {i v : Int} (h : valG bs i = some (.leaf v)) (q : List Str) : kv bs (some i) q = if q = [] then some (some v) else none := by
  by_cases e : q = []
  · rw [if_pos e, e]
    show kvB bs (some i) = _
    unfold kvB
    simp only [h]
  · rw [if_neg e]
    unfold kv
    rw [fnd_leaf h q e] <;> rfl
theorem kv_is_leaf {bs : List (Int × Bx)} {o : Option Int} {q : List Str} {v : Int} (h : kv bs o q = some (some v)) : ∃ i, fnd bs o q = some i ∧ valG bs i = some (.leaf v) := by
  unfold kv at h
  cases g : fnd bs o q with
  | none => rw [g] at h; cases h
  | some i =>
    rw [g] at h
    refine ⟨i, rfl, ?_⟩
    unfold kvB at h
    simp only at h
    split at h
    · rename_i w e; cases h; exact e
    · cases h
    · cases h
theorem kv_is_br {bs : List (Int × Bx)} {o : Option Int} {q : List Str} (h : kv bs o q = some none) : ∃ i rows, fnd bs o q = some i ∧ valG bs i = some (.br rows) := by
  unfold kv at h
  cases g : fnd bs o q with
  | none => rw [g] at h; cases h
  | some i =>
    rw [g] at h
    unfold kvB at h
    simp only at h
    split at h
    · cases h
    · rename_i w e; exact ⟨i, w, rfl, e⟩
    · cases h
theorem kv_is_none {bs : List (Int × Bx)} (W : Wf bs) {o : Option Int} (ht : There bs o) {q : List Str} (h : kv bs o q = none) : fnd bs o q = none := by
  have hq := ht.fnd W q
  unfold kv at h
  cases g : fnd bs o q with
  | none => rfl
  | some i =>
    obtain ⟨x, hx⟩ := hq i g
    rw [g] at h
    unfold kvB at h
    simp only [hx] at h
    cases x <;> cases h
theorem valG_rbRows {bs0 : List (Int × Bx)} (T0 : TabOk bs0) (pk : Option Int) (nk : Str) (made : Option Int) (n : Str) : valG (rbRows bs0 pk nk made) n = if n = nk then made else valG (inRows bs0 pk) n := by
  have hs : Srt (inRows bs0 pk) := by
    cases pk with
    | none => exact List.Pairwise.nil
    | some i =>
      cases g : valG bs0 i with
      | none => rw [inRows_no g]; exact List.Pairwise.nil
      | some x => rw [inRows_of g]; exact (T0 i x g).srt
  unfold rbRows
  cases made with
  | none => show valG (dropG _ _) n = _; rw [valG_drop]
  | some v => show valG (plc _ _ _ _) n = _; rw [(plc_srt hs).2]
/-- the way made anew, as the table B behind it has it -/
structure Way (bs0 B : List (Int × Bx)) (top : Option Int) (ns : List Str) (T : Int) (made : Option Int) : Prop where
  W0 : Wf bs0
  T0 : TabOk bs0
  ht : There bs0 top
  ext : Ext bs0 B
  at_ : ∀ j, j < ns.length → valG B (T - j) = some (.br (rbRows bs0 (fnd bs0 top (ns.take j)) (ns.getD j default) (if j + 1 < ns.length then some (T - (j + 1 : Nat)) else made)))
theorem Way.kv {bs0 B : List (Int × Bx)} {top : Option Int} {ns : List Str} {T : Int} {made : Option Int} (w : Way bs0 B top ns T made) : ∀ (q : List Str) (j : Nat), j ≤ ns.length →
    Law.kv B (if j < ns.length then some (T - j) else made) q = if ns.drop j <+: q then Law.kv B made (q.drop (ns.length - j)) else if q <+: ns.drop j then some none else Law.kv bs0 (fnd bs0 top (ns.take j)) q := by
  intro q
  induction q with
  | nil =>
    intro j hj
    by_cases h : j < ns.length
    · rw [if_pos h]
      have e : ns.drop j = ns[j] :: ns.drop (j + 1) := List.drop_eq_getElem_cons h
      have h1 : ¬ ns.drop j <+: [] := by
        rw [e]
        intro z
        have := z.length_le
        simp only [List.length_cons, List.length_nil] at this
        omega
      rw [if_neg h1, if_pos (List.nil_prefix)]
      show kvB B (some (T - j)) = _
      unfold kvB
      simp only [w.at_ j h]
    · rw [if_neg h]
      have e : ns.drop j = [] := List.drop_eq_nil_of_le (by omega)
      rw [e, if_pos (List.nil_prefix)]
      simp
  | cons n r ih =>
    intro j hj
    by_cases h : j < ns.length
    · rw [if_pos h]
      have e : ns.drop j = ns[j] :: ns.drop (j + 1) := List.drop_eq_getElem_cons h
      have hg : ns.getD j default = ns[j] := by simp [h]
      have ei : inRows B (some (T - j)) = rbRows bs0 (fnd bs0 top (ns.take j)) (ns.getD j default) (if j + 1 < ns.length then some (T - (j + 1 : Nat)) else made) := by
        unfold inRows
        simp only [w.at_ j h]
        rfl
      rw [kv_cons, ei, valG_rbRows w.T0, hg, e]
      by_cases g : n = ns[j]
      · rw [if_pos g, ih (j + 1) (by omega)]
        have e1 : (ns[j] :: ns.drop (j + 1) <+: n :: r) ↔ ns.drop (j + 1) <+: r := by rw [g, List.cons_prefix_cons]; exact ⟨fun z => z.2, fun z => ⟨rfl, z⟩⟩
        have e2 : (n :: r <+: ns[j] :: ns.drop (j + 1)) ↔ r <+: ns.drop (j + 1) := by rw [g, List.cons_prefix_cons]; exact ⟨fun z => z.2, fun z => ⟨rfl, z⟩⟩
        have e3 : (n :: r).drop (ns.length - j) = r.drop (ns.length - (j + 1)) := by
          have : ns.length - j = (ns.length - (j + 1)) + 1 := by omega
          rw [this]
          rfl
        have e4 : Law.kv bs0 (fnd bs0 top (ns.take (j + 1))) r = Law.kv bs0 (fnd bs0 top (ns.take j)) (n :: r) := by
          rw [List.take_succ_eq_append_getElem h, fnd_app, kv_cons, g]
          rfl
        simp only [e1, e2, e3, e4]
      · rw [if_neg g]
        have e1 : ¬ (ns[j] :: ns.drop (j + 1) <+: n :: r) := by
          rw [List.cons_prefix_cons]
          rintro ⟨z, _⟩
          exact g z.symm
        have e2 : ¬ (n :: r <+: ns[j] :: ns.drop (j + 1)) := by
          rw [List.cons_prefix_cons]
          rintro ⟨z, _⟩
          exact g z
        rw [if_neg e1, if_neg e2]
        have h1 : There bs0 (fnd bs0 top (ns.take j)) := w.ht.fnd w.W0 _
        rw [kv_ext w.ext w.W0 (h1.step w.W0 n), ← kv_cons]
    · rw [if_neg h]
      have e : ns.drop j = [] := List.drop_eq_nil_of_le (by omega)
      have e2 : ns.length - j = 0 := by omega
      rw [e, if_pos (List.nil_prefix), e2]
      rfl
/-- the tree behind it -/
theorem Way.top {bs0 B : List (Int × Bx)} {top : Option Int} {ns : List Str} {T : Int} {made : Option Int} (w : Way bs0 B top ns T made) (hne : ns ≠ []) (q : List Str) :
    Law.kv B (some T) q = if ns <+: q then Law.kv B made (q.drop ns.length) else if q <+: ns then some none else Law.kv bs0 top q := by
  have hl : 0 < ns.length := List.length_pos_iff.mpr hne
  have := w.kv q 0 (by omega)
  rw [if_pos hl] at this
  have e : T - ((0 : Nat) : Int) = T := by omega
  rw [e] at this
  exact this
/-- the boxes that nobody holds: at most the one made last -/
def Pend (bs : List (Int × Bx)) (R : List Int) (made : Option Int) : Prop := ∀ i ∈ keys bs, some i = made ∨ 1 ≤ refs bs i + R.count i
theorem mem_inRows {bs : List (Int × Bx)} (W : Wf bs) {o : Option Int} (h : There bs o) {r : Str × Int} (hr : r ∈ inRows bs o) : ∃ y, valG bs r.2 = some y := by
  cases q : o with
  | none => rw [q] at hr; cases hr
  | some i =>
    obtain ⟨x, hx⟩ := h i q
    rw [q] at hr
    simp only [inRows, hx] at hr
    exact W.there i x hx r hr
theorem inRows_bok {bs : List (Int × Bx)} (T : TabOk bs) {K : Int} (hK : ∀ i ∈ keys bs, i ≤ K) (K0 : 0 ≤ K) (o : Option Int) : (∀ r ∈ inRows bs o, r.2 < K + 1 ∧ gN r.1) ∧ Srt (inRows bs o) ∧ ((inRows bs o).length : Int) ≤ K := by
  cases o with
  | none => exact ⟨fun r h => (by cases h), List.Pairwise.nil, K0⟩
  | some i =>
    cases g : valG bs i with
    | none => rw [inRows_no g]; exact ⟨fun r h => (by cases h), List.Pairwise.nil, K0⟩
    | some x =>
      rw [inRows_of g]
      have b := T i x g
      have hi := hK i (mem_keys_of g)
      exact ⟨fun r h => ⟨by have := b.dn r h; omega, b.gn r h⟩, b.srt, by have := b.few; show (x.rows.length : Int) ≤ K; omega⟩
theorem rbRows_bok {bs : List (Int × Bx)} (T : TabOk bs) {K : Int} (hK : ∀ i ∈ keys bs, i ≤ K) (K0 : 0 ≤ K) (pk : Option Int) {nk : Str} (hn : gN nk) {made : Option Int} (hm : ∀ v, made = some v → v ≤ K) : Bok (K + 1) (.br (rbRows bs pk nk made)) := by
  obtain ⟨h1, h2, h3⟩ := inRows_bok T hK K0 pk
  cases made with
  | none =>
    refine ⟨fun r hr => (h1 r (List.mem_filter.mp hr).1).1, fun r hr => (h1 r (List.mem_filter.mp hr).1).2, h2.sublist (List.filter_sublist ..), ?_⟩
    have : (dropG (inRows bs pk) nk).length ≤ (inRows bs pk).length := List.length_filter_le ..
    show ((dropG (inRows bs pk) nk).length : Int) ≤ K + 1
    omega
  | some v =>
    have hv := hm v rfl
    refine ⟨fun r hr => ?_, fun r hr => ?_, (plc_srt h2).1, ?_⟩
    · rcases mem_plc (show r ∈ plc nk v false (inRows bs pk) from hr) with h | h
      · exact (h1 r h).1
      · omega
    · have hr : r ∈ plc nk v false (inRows bs pk) := hr
      have e := valG_of_mem (plc_srt h2).1.nd (show (r.1, r.2) ∈ plc nk v false (inRows bs pk) from hr)
      rw [(plc_srt h2).2] at e
      split at e
      · rename_i z; rw [z]; exact hn
      · exact (h1 _ (valG_mem e)).2
    · have := plc_len nk v (inRows bs pk) false
      show ((plc nk v false (inRows bs pk)).length : Int) ≤ K + 1
      omega
theorem rb_inv {bs0 : List (Int × Bx)} {top : Option Int} {ns : List Str} {R : List Int} (W0 : Wf bs0) (hT : There bs0 top) (hn : ∀ n ∈ ns, gN n) : ∀ (k : Nat) (bs : List (Int × Bx)) (cs : List (Int × Int)) (K : Int) (made : Option Int), k ≤ ns.length → Ext bs0 bs → TabOk bs → Exa bs cs R →
    (∀ i ∈ keys bs, i ≤ K) → 0 ≤ K → (∀ v, made = some v → v ∈ keys bs) → Pend bs R made →
    TabOk (rb bs0 top ns k bs cs K made).1 ∧ Exa (rb bs0 top ns k bs cs K made).1 (rb bs0 top ns k bs cs K made).2.1 R ∧ Pend (rb bs0 top ns k bs cs K made).1 R (rb bs0 top ns k bs cs K made).2.2.2 ∧ Ext bs (rb bs0 top ns k bs cs K made).1 ∧
      (∀ i, i ∈ keys (rb bs0 top ns k bs cs K made).1 ↔ i ∈ keys bs ∨ (K < i ∧ i ≤ K + k)) ∧
      (∀ j : Nat, j < k → valG (rb bs0 top ns k bs cs K made).1 (K + 1 + j) = some (.br (rbRows bs0 (fnd bs0 top (ns.take (k - 1 - j))) (ns.getD (k - 1 - j) default) (if j = 0 then made else some (K + j))))) ∧
      (rb bs0 top ns k bs cs K made).1.length = bs.length + k
  | 0, bs, cs, K, made, _, e, T, E, hK, K0, hm, P => ⟨T, E, P, Ext.refl _, fun i => ⟨.inl, fun h => h.elim id fun z => by omega⟩, fun j hj => absurd hj (Nat.not_lt_zero j), rfl⟩
  | k + 1, bs, cs, K, made, hk, e, T, E, hK, K0, hm, P => by
    have hkl : k < ns.length := by omega
    have hnk : gN (ns.getD k default) := by
      have : ns.getD k default = ns[k] := by simp [hkl]
      rw [this]
      exact hn _ (List.getElem_mem hkl)
    have hpk : There bs0 (fnd bs0 top (ns.take k)) := hT.fnd W0 _
    have hin := e.inRows hpk
    have hW : ∀ r ∈ inRows bs (fnd bs0 top (ns.take k)), r.2 ∈ keys bs := fun r hr => by
      rw [hin] at hr
      obtain ⟨y, hy⟩ := mem_inRows W0 hpk hr
      exact mem_keys_of (e _ _ hy)
    have hrows0 : rbRows bs (fnd bs0 top (ns.take k)) (ns.getD k default) made = rbRows bs0 (fnd bs0 top (ns.take k)) (ns.getD k default) made := by
      unfold rbRows
      rw [hin]
    have hb := rbRows_bok T hK K0 (fnd bs0 top (ns.take k)) hnk (made := made) fun v hv => hK v (hm v hv)
    have hr : ∀ r ∈ rbRows bs (fnd bs0 top (ns.take k)) (ns.getD k default) made, r.2 ∈ keys bs := fun r hr => by
      unfold rbRows at hr
      cases made with
      | none => exact hW r (List.mem_filter.mp hr).1
      | some v =>
        rcases mem_plc hr with h | h
        · exact hW r h
        · rw [h]; exact hm v rfl
    have hmd : ∀ v, made = some v → v ∈ (rbRows bs (fnd bs0 top (ns.take k)) (ns.getD k default) made).map (·.2) := fun v hv => by
      have hs := (inRows_bok T hK K0 (fnd bs0 top (ns.take k))).2.1
      subst hv
      have e1 : valG (plc (ns.getD k default) v false (inRows bs (fnd bs0 top (ns.take k)))) (ns.getD k default) = some v := by rw [(plc_srt hs).2, if_pos rfl]
      exact List.mem_map.mpr ⟨_, valG_mem e1, rfl⟩
    generalize hgen : rbRows bs (fnd bs0 top (ns.take k)) (ns.getD k default) made = rows at *
    have hnew : K + 1 ∉ keys bs := fun z => by have := hK _ z; omega
    obtain ⟨E1, z1, r1⟩ := E.make (k := K + 1) (x := .br rows) hnew hr
    have E1 : Exa (putG bs (K + 1) (.br rows)) (putG (heldAll cs rows) (K + 1) 0) R := E1
    have r1 : ∀ i, refs (putG bs (K + 1) (.br rows)) i = refs bs i + (rows.map (·.2)).count i := r1
    have X1 : Ext bs (putG bs (K + 1) (.br rows)) := fun i y h => by
      rw [valG_put, if_neg]
      · exact h
      · rintro rfl; exact hnew (mem_keys_of h)
    obtain ⟨a1, a2, a3, a4, a5, a6, a7⟩ := rb_inv (R := R) W0 hT hn k (putG bs (K + 1) (.br rows)) (putG (heldAll cs rows) (K + 1) 0) (K + 1) (some (K + 1)) (by omega) (e.trans X1) (T.put hb) E1 (fun i hi => by
      rcases mem_keys_put.mp hi with rfl | h
      · omega
      · have := hK i h; omega) (by omega) (fun v hv => by cases hv; exact mem_keys_put.mpr (.inl rfl)) (fun i hi => by
      rcases mem_keys_put.mp hi with rfl | h
      · exact .inl rfl
      · right
        rw [r1]
        rcases P i h with h | h
        · have := List.count_pos_iff.mpr (hmd i h.symm)
          omega
        · omega)
    have eq : rb bs0 top ns (k + 1) bs cs K made = rb bs0 top ns k (putG bs (K + 1) (.br rows)) (putG (heldAll cs rows) (K + 1) 0) (K + 1) (some (K + 1)) := by
      conv => lhs; unfold rb
      rw [hgen]
    rw [eq]
    refine ⟨a1, a2, a3, X1.trans a4, fun i => ?_, fun j hj => ?_, ?_⟩
    · rw [a5, mem_keys_put]
      constructor
      · rintro ((h | h) | h)
        · right; omega
        · exact .inl h
        · right; omega
      · rintro (h | h)
        · exact .inl (.inr h)
        · by_cases z : i = K + 1
          · exact .inl (.inl z)
          · right; omega
    · cases j with
      | zero =>
        have e1 : K + 1 + ((0 : Nat) : Int) = K + 1 := by omega
        rw [e1, a4 (K + 1) (.br rows) (by rw [valG_put, if_pos rfl])]
        simp only [Nat.sub_zero, Nat.add_sub_cancel, if_true]
        rw [hrows0]
      | succ j =>
        have e1 : K + 1 + ((j + 1 : Nat) : Int) = K + 1 + 1 + j := by omega
        rw [e1, a6 j (by omega)]
        have e2 : k + 1 - 1 - (j + 1) = k - 1 - j := by omega
        rw [e2, if_neg (Nat.succ_ne_zero j)]
        by_cases z : j = 0
        · subst z
          rw [if_pos rfl]
          have e3 : K + 1 = K + ((0 + 1 : Nat) : Int) := by omega
          rw [← e3]
        · rw [if_neg z]
          have e3 : K + 1 + (j : Int) = K + ((j + 1 : Nat) : Int) := by omega
          rw [e3]
    · rw [a7, put_end _ hnew, List.length_append]
      simp
      omega
end Law
/-! T3_k05 -/
set_option Elab.async false
set_option linter.all false
set_option maxRecDepth 100000
set_option autoImplicit false
set_option maxHeartbeats 1000000
/-! T3: a store in order, and what a deed makes of it -/
namespace Law
open PySem PySem.Spec PyProof.Rows L2 Sn

def vals {κ α : Type} (d : List (κ × α)) : List α := d.map (·.2)
theorem mem_vals {κ α : Type} [DecidableEq κ] {d : List (κ × α)} {k : κ} {v : α} (h : valG d k = some v) : v ∈ vals d := List.mem_map.mpr ⟨_, valG_mem h, rfl⟩
structure SI (bs : List (Int × Bx)) (cs : List (Int × Int)) (K : Nat) (live : Int) (sh : List (Int × Int)) (taken : Nat) : Prop where
  E : Exa bs cs (live :: vals sh)
  P : Pos bs (live :: vals sh)
  T : TabOk bs
  le : ∀ i ∈ keys bs, 1 ≤ i ∧ i ≤ (K : Int)
  br : ∀ t ∈ live :: vals sh, ∃ rows, valG bs t = some (.br rows)
  shn : (keys sh).Nodup
  shk : ∀ i ∈ keys sh, 1 ≤ i ∧ i ≤ (taken : Int)
theorem wf_of {bs : List (Int × Bx)} {cs : List (Int × Int)} {R : List Int} (E : Exa bs cs R) (T : TabOk bs) {K : Nat} (le : ∀ i ∈ keys bs, 1 ≤ i ∧ i ≤ (K : Int)) (hK : K ≤ 1000) : Wf bs := by
  refine ⟨fun i x h r hr => ?_, fun i x h => ?_⟩
  · exact of_mem_keys (E.wf i x h r.2 (by rw [inner_rows]; exact List.mem_map.mpr ⟨r, hr, rfl⟩))
  · have h1 := (T i x h).few
    have h2 := (le i (mem_keys_of h)).2
    omega
theorem ord_of {bs : List (Int × Bx)} {cs : List (Int × Int)} {R : List Int} (E : Exa bs cs R) (T : TabOk bs) {K : Nat} (le : ∀ i ∈ keys bs, 1 ≤ i ∧ i ≤ (K : Int)) (hK : K ≤ 1000) : Ord bs cs (K : Int) :=
  ⟨wf_of E T le hK, fun i x h => ⟨_, E.ex i (mem_keys_of h)⟩, le, fun i h => le i ((E.kc i).mp h), E.nd, E.ndc⟩
section
variable {bs : List (Int × Bx)} {cs : List (Int × Int)} {K : Nat} {live : Int} {sh : List (Int × Int)} {taken : Nat}
theorem SI.ord (I : SI bs cs K live sh taken) (hK : K ≤ 1000) : Ord bs cs (K : Int) := ord_of I.E I.T I.le hK
theorem SI.wf (I : SI bs cs K live sh taken) (hK : K ≤ 1000) : Wf bs := wf_of I.E I.T I.le hK
theorem SI.few (I : SI bs cs K live sh taken) (hK : K ≤ 999) : ∀ i x, valG bs i = some x → x.rows.length ≤ 999 := fun i x h => by
  have h1 := (I.T i x h).few
  have h2 := (I.le i (mem_keys_of h)).2
  omega
theorem SI.there (I : SI bs cs K live sh taken) {t : Int} (h : t ∈ live :: vals sh) : There bs (some t) := fun i e => by
  cases e
  obtain ⟨rows, hr⟩ := I.br t h
  exact ⟨_, hr⟩
theorem SI.tl (I : SI bs cs K live sh taken) : There bs (some live) := I.there (.head _)
end
theorem keys_filter {α : Type} (bs : List (Int × α)) (f : Int → Bool) : keys (bs.filter fun p => f p.1) = (keys bs).filter f := by
  unfold keys
  rw [List.filter_map]
  rfl
/-- the tree turned to t, the top before let go -/
theorem turn_plain {bs : List (Int × Bx)} {cs : List (Int × Int)} {live t n : Int} {V : List Int} (E : Exa bs cs (live :: V)) (P : Pend bs (live :: V) (some t)) (ht : t ∈ keys bs) (hn : valG cs t = some n) (hs : sz bs < 1000000) :
    ∃ (keep : Int → Bool) (cs' : List (Int × Int)) (g : Int), lg fuelN [live] bs (putG cs t (n + 1)) 0 = some (bs.filter (fun p => keep p.1), cs', g) ∧ g + ((bs.filter fun p => keep p.1).length : Int) = bs.length ∧ Exa (bs.filter fun p => keep p.1) cs' (t :: V) ∧ Pos (bs.filter fun p => keep p.1) (t :: V) := by
  have hp : (t :: live :: V).Perm ((t :: V) ++ [live]) := by
    refine (List.Perm.swap live t V).trans ?_
    exact List.perm_append_comm (l₁ := [live]) (l₂ := t :: V)
  have E1 := (E.held ht hn).perm hp
  have P1 : Pos bs ((t :: V) ++ [live]) := Pos.perm (R := t :: live :: V) (fun i hi => by
    rw [List.count_cons]
    rcases P i hi with h | h
    · cases h
      simp
      omega
    · omega) hp
  obtain ⟨keep, cs', g', e1, e2, e3, e4⟩ := lg_exact (t :: V) fuelN [live] bs _ 0 E1 P1 (by simp [fuelN]; omega)
  exact ⟨keep, cs', g', e1, by omega, e3, e4⟩
theorem Exa.len_eq {bs : List (Int × Bx)} {cs : List (Int × Int)} {R : List Int} (E : Exa bs cs R) : bs.length = (keys bs).length := (keys_len bs).symm
theorem len_split {α : Type} (f : α → Bool) : ∀ l : List α, (l.filter f).length + (l.filter fun i => !f i).length = l.length
  | [] => rfl
  | a :: r => by
    have ih := len_split f r
    cases h : f a with
    | true => rw [List.filter_cons_of_pos h, List.filter_cons_of_neg (by simp [h]), List.length_cons, List.length_cons]; omega
    | false => rw [List.filter_cons_of_neg (by simp [h]), List.filter_cons_of_pos (by simp [h]), List.length_cons, List.length_cons]; omega
/-- how many are gone -/
theorem gone_count {B bs' : List (Int × Bx)} {ks : List Int} {keep : Int → Bool} {g : Int} (nd : (keys B).Nodup) (ndk : ks.Nodup) (hb : bs' = B.filter fun p => keep p.1) (hg : g + (bs'.length : Int) = B.length) (h1 : ∀ i ∈ ks, i ∈ keys B) (h2 : ∀ i ∈ keys B, i ∈ ks ∨ i ∈ keys bs') :
    g = ((ks.filter fun i => decide (i ∉ keys bs')).length : Int) := by
  have hk : keys bs' = (keys B).filter keep := by rw [hb, keys_filter]
  have e1 : ((keys B).filter keep).length + ((keys B).filter fun i => !keep i).length = (keys B).length := len_split keep _
  have hp : (ks.filter fun i => decide (i ∉ keys bs')).Perm ((keys B).filter fun i => !keep i) := by
    refine (List.perm_ext_iff_of_nodup (ndk.filter _) (nd.filter _)).mpr fun i => ?_
    rw [List.mem_filter, List.mem_filter, decide_eq_true_iff]
    constructor
    · rintro ⟨a, b⟩
      refine ⟨h1 i a, ?_⟩
      cases q : keep i with
      | false => rfl
      | true => exact absurd (by rw [hk, List.mem_filter]; exact ⟨h1 i a, q⟩) b
    · rintro ⟨a, b⟩
      have q : keep i = false := by simpa using b
      have c : i ∉ keys bs' := by
        rw [hk, List.mem_filter, q]
        rintro ⟨_, z⟩
        cases z
      exact ⟨(h2 i a).resolve_right c, c⟩
  rw [hp.length_eq]
  rw [← keys_len bs', ← keys_len B, hk] at hg
  omega
/-- what a put (w: the number) or a cut (w: none) at ns makes of the tables -/
structure Eff (bs : List (Int × Bx)) (K : Nat) (live : Int) (sh : List (Int × Int)) (ns : List Str) (w : Option Int) (bs' : List (Int × Bx)) (K' : Nat) (g : Int) : Prop where
  hK : K' = K + (if w.isSome then 1 else 0) + ns.length
  old : ∀ i x, valG bs' i = some x → i ≤ (K : Int) → valG bs i = some x
  tree : ∀ q, kv bs' (some (K' : Int)) q = if ns <+: q then (if q = ns then w.map some else none) else if q <+: ns then some none else kv bs (some live) q
  oth : ∀ t ∈ vals sh, ∀ q, kv bs' (some t) q = kv bs (some t) q
  gone : g = (((keys bs).filter fun i => decide (i ∉ keys bs')).length : Int)
  new : ∀ i : Int, (K : Int) < i → i ≤ (K' : Int) → i ∈ keys bs'
  leaf : ∀ v, w = some v → valG bs' ((K : Int) + 1) = some (.leaf v)
  rows : ∀ j, j < ns.length → valG bs' ((K' : Int) - j) = some (.br (rbRows bs (fnd bs (some live) (ns.take j)) (ns.getD j default) (if j + 1 < ns.length then some ((K' : Int) - (j + 1 : Nat)) else w.map fun _ => (K : Int) + 1)))
/-- the tables with the leaf of a put -/
def bsW (bs : List (Int × Bx)) (K : Nat) : Option Int → List (Int × Bx)
  | none => bs
  | some v => putG bs ((K : Int) + 1) (.leaf v)
def csW (cs : List (Int × Int)) (K : Nat) : Option Int → List (Int × Int)
  | none => cs
  | some _ => putG cs ((K : Int) + 1) 0
def KW (K : Nat) : Option Int → Nat
  | none => K
  | some _ => K + 1
def mW (K : Nat) : Option Int → Option Int
  | none => none
  | some _ => some ((K : Int) + 1)
theorem eff_plain {bs : List (Int × Bx)} {cs : List (Int × Int)} {K : Nat} {live : Int} {sh : List (Int × Int)} {taken : Nat} (I : SI bs cs K live sh taken) (hK : K ≤ 980) {ns : List Str} (hn : ∀ n ∈ ns, gN n) (hne : ns ≠ []) (hl : ns.length ≤ 8) (w : Option Int) {r : List (Int × Bx) × List (Int × Int) × Int × Option Int}
    (hr : r = rb (bsW bs K w) (some live) ns ns.length (bsW bs K w) (csW cs K w) (KW K w : Nat) (mW K w)) :
    r.2.2.1 = (KW K w + ns.length : Nat) ∧ r.2.2.2 = some r.2.2.1 ∧ valG r.2.1 r.2.2.1 = some 0 ∧ sz r.1 < 1000000 ∧ r.2.1.length < 1000000 ∧ (∃ y, valG r.1 r.2.2.1 = some y) ∧ (∃ y, valG r.1 live = some y) ∧ (∀ i x, valG r.1 i = some x → ∃ n, valG r.2.1 i = some n) ∧
      ∃ bs' cs' g, lg fuelN [live] r.1 (putG r.2.1 r.2.2.1 (0 + 1)) 0 = some (bs', cs', g) ∧ SI bs' cs' (KW K w + ns.length) ((KW K w + ns.length : Nat) : Int) sh taken ∧ Eff bs K live sh ns w bs' (KW K w + ns.length) g := by
  have hlen : 0 < ns.length := List.length_pos_iff.mpr hne
  have hnew : (K : Int) + 1 ∉ keys bs := fun z => by have := (I.le _ z).2; omega
  have W := I.wf (by omega)
  -- the tables with the leaf
  have hKW : (KW K w : Int) = K + (if w.isSome then 1 else 0) := by cases w <;> simp [KW]
  have X0 : Ext bs (bsW bs K w) := by
    cases w with
    | none => exact Ext.refl _
    | some v =>
      intro i x h
      show valG (putG _ _ _) i = _
      rw [valG_put, if_neg]
      · exact h
      · rintro rfl; exact hnew (mem_keys_of h)
  have T0 : TabOk (bsW bs K w) := by
    cases w with
    | none => exact I.T
    | some v => exact I.T.put ⟨fun r hr => (by cases hr), fun r hr => (by cases hr), List.Pairwise.nil, (by show ((0 : Nat) : Int) ≤ (K : Int) + 1; omega)⟩
  have E0 : Exa (bsW bs K w) (csW cs K w) (live :: vals sh) ∧ Pend (bsW bs K w) (live :: vals sh) (mW K w) := by
    cases w with
    | none => exact ⟨I.E, fun i hi => .inr (I.P i hi)⟩
    | some v =>
      obtain ⟨e1, e2, e3⟩ := I.E.make (x := .leaf v) hnew (fun r hr => by cases hr)
      refine ⟨e1, fun i hi => ?_⟩
      rcases mem_keys_put.mp hi with rfl | h
      · exact .inl rfl
      · right
        show 1 ≤ refs (putG bs ((K : Int) + 1) (.leaf v)) i + _
        have h1 : refs (putG bs ((K : Int) + 1) (.leaf v)) i = refs bs i + ([] : List Int).count i := e3 i
        have := I.P i h
        rw [h1]
        simp only [List.count_nil]
        omega
  have k0 : ∀ i, i ∈ keys (bsW bs K w) ↔ i ∈ keys bs ∨ ((K : Int) < i ∧ i ≤ (KW K w : Int)) := fun i => by
    cases w with
    | none => exact ⟨.inl, fun h => h.elim id fun z => by simp only [KW] at z; omega⟩
    | some v =>
      show i ∈ keys (putG _ _ _) ↔ _
      rw [mem_keys_put]
      constructor
      · rintro (h | h)
        · right; simp only [KW]; omega
        · exact .inl h
      · rintro (h | h)
        · exact .inr h
        · left; simp only [KW] at h; omega
  have le0 : ∀ i ∈ keys (bsW bs K w), 1 ≤ i ∧ i ≤ (KW K w : Int) := fun i hi => by
    rcases (k0 i).mp hi with h | h
    · have := I.le i h
      have : (K : Int) ≤ KW K w := by cases w <;> simp [KW]; omega
      omega
    · omega
  have hKb : KW K w ≤ K + 1 := by cases w <;> simp [KW]
  have W0 : Wf (bsW bs K w) := wf_of E0.1 T0 le0 (by omega)
  have hT0 : There (bsW bs K w) (some live) := X0.there I.tl
  have m0 : ∀ v, mW K w = some v → v ∈ keys (bsW bs K w) := fun v hv => by
    cases w with
    | none => cases hv
    | some u => cases hv; exact mem_keys_put.mpr (.inl rfl)
  -- the way
  obtain ⟨a1, a2, a3, a4, a5, a6, a7⟩ := rb_inv W0 hT0 hn ns.length (bsW bs K w) (csW cs K w) (KW K w : Nat) (mW K w) (Nat.le_refl _) (Ext.refl _) T0 E0.1 (fun i hi => (le0 i hi).2) (by omega) m0 E0.2
  obtain ⟨q1, ⟨y, q2⟩, q3, q4⟩ := rb_made (bs0 := bsW bs K w) (top := some live) (ns := ns) ns.length (bsW bs K w) (csW cs K w) (KW K w : Nat) (mW K w) (.inr hlen) (fun h => by
    cases w with
    | none => cases h
    | some v =>
      have h : some ((K : Int) + 1) = some ((KW K (some v) : Nat) : Int) := h
      exact of_mem_keys (m0 _ h)) (fun h => by
    cases w with
    | none => cases h
    | some v =>
      have e : ((KW K (some v) : Nat) : Int) = (K : Int) + 1 := by simp [KW]
      show valG (putG _ _ _) _ = _
      rw [e, valG_put, if_pos rfl])
  rw [← hr] at a1 a2 a3 a4 a5 a6 a7 q1 q2 q3 q4
  have hT : r.2.2.1 = ((KW K w + ns.length : Nat) : Int) := by rw [q4]; omega
  have le1 : ∀ i ∈ keys r.1, 1 ≤ i ∧ i ≤ ((KW K w + ns.length : Nat) : Int) := fun i hi => by
    rcases (a5 i).mp hi with h | h
    · have := le0 i h; omega
    · omega
  have O1 := ord_of a2 a1 le1 (by omega)
  have hsz := O1.sz_le
  obtain ⟨ob, oc⟩ := O1.lens
  have hlv := (X0.trans a4).there I.tl live rfl
  refine ⟨hT, q1, q3, by omega, by omega, ⟨y, q2⟩, hlv, O1.hk, ?_⟩
  rw [q1] at a3
  obtain ⟨keep, cs', g, e1, e2, e3, e4⟩ := turn_plain a2 a3 (mem_keys_of q2) q3 (by omega)
  have hX' := Ext.filter r.1 keep
  have T' := a1.filter keep
  have hkk := keys_filter r.1 keep
  refine ⟨_, cs', g, e1, ?_, ?_⟩
  · rw [hT] at e3 e4
    refine ⟨e3, e4, T', fun i hi => ?_, fun t ht => ?_, I.shn, I.shk⟩
    · rw [hkk] at hi
      exact le1 i (List.mem_filter.mp hi).1
    · obtain ⟨z, hz⟩ := of_mem_keys (e3.rt t ht)
      rcases List.mem_cons.mp ht with rfl | ht'
      · have h6 := a6 (ns.length - 1) (by omega)
        have eK : (KW K w : Int) + 1 + ((ns.length - 1 : Nat) : Int) = ((KW K w + ns.length : Nat) : Int) := by omega
        rw [eK, hX' _ _ hz] at h6
        exact ⟨_, by rw [hz, Option.some.inj h6]⟩
      · obtain ⟨rows, hrw⟩ := I.br t (.tail _ ht')
        have := hX' _ _ hz
        rw [a4 _ _ (X0 _ _ hrw)] at this
        exact ⟨rows, by rw [hz, ← Option.some.inj this]⟩
  · rw [hT] at e3 e4
    have le' : ∀ i ∈ keys (r.1.filter fun p => keep p.1), 1 ≤ i ∧ i ≤ ((KW K w + ns.length : Nat) : Int) := fun i hi => by
      rw [hkk] at hi
      exact le1 i (List.mem_filter.mp hi).1
    have W' := wf_of e3 T' le' (by omega)
    have Wr : Wf r.1 := O1.W
    have hw : Way (bsW bs K w) r.1 (some live) ns ((KW K w + ns.length : Nat) : Int) (mW K w) := by
      refine ⟨W0, T0, hT0, a4, fun j hj => ?_⟩
      have h6 := a6 (ns.length - 1 - j) (by omega)
      have x1 : (KW K w : Int) + 1 + ((ns.length - 1 - j : Nat) : Int) = ((KW K w + ns.length : Nat) : Int) - j := by omega
      have x2 : ns.length - 1 - (ns.length - 1 - j) = j := by omega
      rw [x1, x2] at h6
      rw [h6]
      by_cases z : j + 1 < ns.length
      · rw [if_pos z, if_neg (by omega)]
        have x3 : (KW K w : Int) + ((ns.length - 1 - j : Nat) : Int) = ((KW K w + ns.length : Nat) : Int) - ((j + 1 : Nat) : Int) := by omega
        rw [x3]
      · rw [if_neg z, if_pos (by omega)]
    -- places of the way are the same in bs
    have hf0 : ∀ q, fnd (bsW bs K w) (some live) q = fnd bs (some live) q := fun q => X0.fnd W q I.tl
    have hrow : ∀ j, rbRows (bsW bs K w) (fnd (bsW bs K w) (some live) (ns.take j)) = rbRows bs (fnd bs (some live) (ns.take j)) := fun j => by
      funext a b
      unfold rbRows
      rw [hf0, X0.inRows (I.tl.fnd W _)]
    have stay : ∀ j, j < ns.length → (((KW K w + ns.length : Nat) : Int) - j) ∈ keys (r.1.filter fun p => keep p.1) := fun j => by
      induction j with
      | zero =>
        intro _
        have := e3.rt _ (.head _)
        have x1 : ((KW K w + ns.length : Nat) : Int) - ((0 : Nat) : Int) = ((KW K w + ns.length : Nat) : Int) := by omega
        rw [x1]; exact this
      | succ j ih =>
        intro hj
        obtain ⟨z, hz⟩ := of_mem_keys (ih (by omega))
        have h1 := hw.at_ j (by omega)
        rw [hX' _ _ hz] at h1
        rw [if_pos hj] at h1
        have h2 : valG (rbRows (bsW bs K w) (fnd (bsW bs K w) (some live) (ns.take j)) (ns.getD j default) (some (((KW K w + ns.length : Nat) : Int) - ((j + 1 : Nat) : Int)))) (ns.getD j default) = some (((KW K w + ns.length : Nat) : Int) - ((j + 1 : Nat) : Int)) := by rw [valG_rbRows T0, if_pos rfl]
        refine e3.wf _ _ hz _ ?_
        rw [Option.some.inj h1, inner_rows]
        exact List.mem_map.mpr ⟨_, valG_mem h2, rfl⟩
    have stayL : ∀ v, mW K w = some v → v ∈ keys (r.1.filter fun p => keep p.1) := fun v hv => by
      obtain ⟨z, hz⟩ := of_mem_keys (stay (ns.length - 1) (by omega))
      have h1 := hw.at_ (ns.length - 1) (by omega)
      rw [hX' _ _ hz, if_neg (by omega), hv] at h1
      have h2 : valG (rbRows (bsW bs K w) (fnd (bsW bs K w) (some live) (ns.take (ns.length - 1))) (ns.getD (ns.length - 1) default) (some v)) (ns.getD (ns.length - 1) default) = some v := by rw [valG_rbRows T0, if_pos rfl]
      refine e3.wf _ _ hz _ ?_
      rw [Option.some.inj h1, inner_rows]
      exact List.mem_map.mpr ⟨_, valG_mem h2, rfl⟩
    have newK : ∀ i : Int, (K : Int) < i → i ≤ ((KW K w + ns.length : Nat) : Int) → i ∈ keys (r.1.filter fun p => keep p.1) := fun i h1 h2 => by
      by_cases z : i ≤ (KW K w : Int)
      · cases w with
        | none => simp only [KW] at z; omega
        | some v =>
          have : i = (K : Int) + 1 := by simp only [KW] at z; omega
          rw [this]
          exact stayL _ rfl
      · have := stay (((KW K w + ns.length : Nat) : Int) - i).toNat (by omega)
        have x1 : ((KW K w + ns.length : Nat) : Int) - ((((KW K w + ns.length : Nat) : Int) - i).toNat : Int) = i := by omega
        rw [x1] at this
        exact this
    have kvX : ∀ t, t ∈ keys (r.1.filter fun p => keep p.1) → ∀ q, kv (r.1.filter fun p => keep p.1) (some t) q = kv r.1 (some t) q := fun t ht q => (kv_ext hX' W' (fun i hi => by cases hi; exact of_mem_keys ht) q).symm
    refine ⟨by cases w <;> simp [KW], fun i x hx hi => ?_, fun q => ?_, fun t ht q => ?_, ?_, newK, fun v hv => ?_, fun j hj => ?_⟩
    · have h1 := hX' _ _ hx
      rcases (a5 i).mp (mem_keys_of h1) with h | h
      · rcases (k0 i).mp h with h | h
        · obtain ⟨z, hz⟩ := of_mem_keys h
          rw [a4 _ _ (X0 _ _ hz)] at h1
          rw [hz, Option.some.inj h1]
        · omega
      · have : (K : Int) ≤ KW K w := by cases w <;> simp [KW]; omega
        omega
    · rw [kvX _ (newK _ (by omega) (Int.le_refl _)), hw.top hne]
      by_cases h1 : ns <+: q
      · rw [if_pos h1, if_pos h1]
        have hq : q = ns ↔ q.drop ns.length = [] := by
          obtain ⟨s, rfl⟩ := h1
          rw [List.drop_left]
          simp
        cases w with
        | none =>
          show kv r.1 none _ = _
          rw [kv_none]
          split <;> rfl
        | some v =>
          have hlf : valG r.1 ((K : Int) + 1) = some (.leaf v) := a4 _ _ (by show valG (putG _ _ _) _ = _; rw [valG_put, if_pos rfl])
          show kv r.1 (some ((K : Int) + 1)) _ = _
          rw [kv_leaf hlf]
          by_cases z : q = ns
          · rw [if_pos (hq.mp z), if_pos z]; rfl
          · rw [if_neg (fun g => z (hq.mpr g)), if_neg z]
      · rw [if_neg h1, if_neg h1]
        split
        · rfl
        · exact kv_ext X0 W I.tl q
    · have ht2 := e3.rt t (.tail _ ht)
      rw [kvX t ht2]
      exact kv_ext (X0.trans a4) W (I.there (.tail _ ht)) q
    · refine gone_count a2.nd I.E.nd rfl e2 (fun i hi => (a5 i).mpr (.inl ((k0 i).mpr (.inl hi)))) fun i hi => ?_
      by_cases z : i ∈ keys bs
      · exact .inl z
      · refine .inr (newK i ?_ (le1 i hi).2)
        rcases (a5 i).mp hi with h | h
        · rcases (k0 i).mp h with h | h
          · exact absurd h z
          · omega
        · have : (K : Int) ≤ KW K w := by cases w <;> simp [KW]; omega
          omega
    · subst hv
      obtain ⟨z, hz⟩ := of_mem_keys (stayL _ rfl)
      have hlf : valG r.1 ((K : Int) + 1) = some (.leaf v) := a4 _ _ (by show valG (putG _ _ _) _ = _; rw [valG_put, if_pos rfl])
      have h1 := hX' _ _ hz
      rw [hlf] at h1
      rw [hz, ← Option.some.inj h1]
    · obtain ⟨z, hz⟩ := of_mem_keys (stay j hj)
      have h1 := hw.at_ j hj
      rw [hX' _ _ hz] at h1
      rw [hz, Option.some.inj h1, hrow]
      congr 3
      cases w <;> rfl
end Law
/-! P9_k05 -/
set_option Elab.async false
set_option linter.all false
set_option maxRecDepth 100000
set_option autoImplicit false
set_option maxHeartbeats 1000000
/-! P9: the deeds of a store in order -/
namespace Law
open PySem PySem.Spec PyProof.Rows L2 Sn

/-- a store in the memory, in order -/
structure SX (m : Mem) (s p b c h : Nat) (bs : List (Int × Bx)) (cs : List (Int × Int)) (K : Nat) (live : Int) (sh : List (Int × Int)) (taken : Nat) : Prop where
  S : SAt m s p b c h bs cs (K : Int) live sh (taken : Int)
  I : SI bs cs K live sh taken
section
variable {m : Mem} {s p b c h : Nat} {bs : List (Int × Bx)} {cs : List (Int × Int)} {K : Nat} {live : Int} {sh : List (Int × Int)} {taken : Nat}
theorem isLf_kv {bs : List (Int × Bx)} {o : Option Int} {q : List Str} : isLf bs (fnd bs o q) = true ↔ ∃ u, kv bs o q = some (some u) := by
  unfold kv isLf kvB
  cases fnd bs o q with
  | none => simp
  | some i =>
    simp only
    cases valG bs i with
    | none => simp
    | some x => cases x <;> simp
theorem put_loop_no {taken : Int} {k : Int} (S : SAt m s p b c h bs cs k live sh taken) (W : Wf bs) (hT : There bs (some live)) {ns : List Str} (hn : ∀ n ∈ ns, gN n) (hl : ns.length ≤ 8) (x1 x2 : Option Dv) :
    ∀ (k lo : Nat) (a : Option Dv), lo + k = ns.length → (∃ j, lo ≤ j ∧ j < ns.length ∧ isLf bs (fnd bs (some live) (ns.take j)) = true) → ∃ l', Sn.forM (tgN 4) lf_Store_put_1 (rng lo k) [some (.loc s), x1, x2, some (.lst (ns.map Dv.str)), a] m = .exc 4 l' m
  | 0, lo, a, h1, ⟨j, h2, h3, _⟩ => by omega
  | k + 1, lo, a, h1, ⟨j, h2, h3, h4⟩ => by
    rw [rng_cons]
    have e1 : ((lo : Int) + 1) = ((lo + 1 : Nat) : Int) := by omega
    rw [e1]
    have hk := kind_ok S W (v := none) (t := live) rfl hT (x := .lst ((ns.take lo).map Dv.str)) (ns := ns.take lo) (.inl rfl) (fun n hn' => hn n (List.mem_of_mem_take hn')) (by rw [List.length_take]; omega)
    have hk : m_Store_kind [.loc s, .non, .lst ((ns.take lo).map Dv.str)] m = _ := hk
    have hcut : cutL (ns.map Dv.str) none (some (lo : Int)) = (ns.take lo).map Dv.str := by rw [cutL_take, List.map_take]
    have hf := kind_leaf bs (fnd bs (some live) (ns.take lo)) m
    by_cases g : isLf bs (fnd bs (some live) (ns.take lo)) = true
    · rw [g] at hf
      refine ⟨[some (.loc s), x1, x2, some (.lst (ns.map Dv.str)), some (.int lo)], ?_⟩
      have hb : lf_Store_put_1 [some (.loc s), x1, x2, some (.lst (ns.map Dv.str)), some (.int lo)] m = .exc 4 [some (.loc s), x1, x2, some (.lst (ns.map Dv.str)), some (.int lo)] m := by
        unfold lf_Store_put_1
        generalize ns.map Dv.str = pl at hcut
        generalize (ns.take lo).map Dv.str = pk at hk hcut
        simp [S.hs, hcut, hk, hf]
      unfold Sn.forM
      simp [hb]
    · have g' : isLf bs (fnd bs (some live) (ns.take lo)) = false := by simpa using g
      rw [g'] at hf
      have hj : j ≠ lo := by rintro rfl; exact g h4
      obtain ⟨l', e⟩ := put_loop_no S W hT hn hl x1 x2 k (lo + 1) (some (.int lo)) (by omega) ⟨j, by omega, h3, h4⟩
      refine ⟨l', (forM_cons (l2 := [some (.loc s), x1, x2, some (.lst (ns.map Dv.str)), some (.int lo)]) (m2 := m) rfl ?_).trans e⟩
      unfold lf_Store_put_1
      simp only [List.set]
      generalize ns.map Dv.str = pl at hcut
      generalize (ns.take lo).map Dv.str = pk at hk hcut
      simp [S.hs, hcut, hk, hf]
theorem put_above {taken : Int} {k : Int} (S : SAt m s p b c h bs cs k live sh taken) (W : Wf bs) (hT : There bs (some live)) {x : Dv} {ns : List Str} (hx : Lt x (ns.map Dv.str)) (hn : ∀ n ∈ ns, gN n) (hne : ns ≠ []) (hl : ns.length ≤ 8) {v : Int} (hv : -1000000000000000000000000000000 < v ∧ v < 1000000000000000000000000000000)
    (hj : ∃ j, j < ns.length ∧ isLf bs (fnd bs (some live) (ns.take j)) = true) : m_Store_put [.loc s, x, .int v] m = .exc 4 m := by
  have h1 := names_ok (m := m) hx hn hl
  have h2 := ne_nil hn m
  rw [decide_eq_false hne] at h2
  obtain ⟨j, hj1, hj2⟩ := hj
  obtain ⟨l', e⟩ := put_loop_no S W hT hn hl (some x) (some (.int v)) ns.length 0 none (by omega) ⟨j, by omega, hj1, hj2⟩
  have b2 : (ns.length : Int) < 4611686018427387904 := by omega
  have b3 : -4611686018427387904 ≤ (ns.length : Int) := by omega
  have hlen : (ns.map Dv.str).length = ns.length := List.length_map _
  have e : Sn.forM (tgN 4) lf_Store_put_1 (rng 0 ns.length) [some (.loc s), some x, some (.int v), some (.lst (ns.map Dv.str)), none] m = _ := e
  unfold m_Store_put mkFn bd_Store_put
  generalize ns.map Dv.str = pl at h1 h2 e hlen
  simp [h1, h2, abs_lt hv, hlen, b2, b3, e]
theorem put_branch {taken : Int} {k : Int} (S : SAt m s p b c h bs cs k live sh taken) (W : Wf bs) (hT : There bs (some live)) {x : Dv} {ns : List Str} (hx : Lt x (ns.map Dv.str)) (hn : ∀ n ∈ ns, gN n) (hne : ns ≠ []) (hl : ns.length ≤ 8) {v : Int} (hv : -1000000000000000000000000000000 < v ∧ v < 1000000000000000000000000000000)
    (free : ∀ j, j < ns.length → isLf bs (fnd bs (some live) (ns.take j)) = false) (hb : kv bs (some live) ns = some none) : m_Store_put [.loc s, x, .int v] m = .exc 5 m := by
  have h1 := names_ok (m := m) hx hn hl
  have h2 := ne_nil hn m
  rw [decide_eq_false hne] at h2
  obtain ⟨a', e⟩ := put_loop S W hT hn hl free (some x) (some (.int v)) ns.length 0 none (by omega)
  have hk := kind_ok S W (v := none) (t := live) rfl hT (x := .lst (ns.map Dv.str)) (ns := ns) (.inl rfl) hn hl
  have hk : m_Store_kind [.loc s, .non, .lst (ns.map Dv.str)] m = _ := hk
  obtain ⟨i, rows, f1, f2⟩ := kv_is_br hb
  have k2 := kind_branch bs (fnd bs (some live) ns) m
  have k3 : ((fnd bs (some live) ns).isSome && !isLf bs (fnd bs (some live) ns)) = true := by rw [f1]; simp [isLf, f2]
  rw [k3] at k2
  have b2 : (ns.length : Int) < 4611686018427387904 := by omega
  have b3 : -4611686018427387904 ≤ (ns.length : Int) := by omega
  have hlen : (ns.map Dv.str).length = ns.length := List.length_map _
  have e : Sn.forM (tgN 4) lf_Store_put_1 (rng 0 ns.length) [some (.loc s), some x, some (.int v), some (.lst (ns.map Dv.str)), none] m = _ := e
  unfold m_Store_put mkFn bd_Store_put
  generalize ns.map Dv.str = pl at h1 h2 e hlen hk
  simp [h1, h2, abs_lt hv, hlen, b2, b3, e, S.hs, hk, k2]
/-- a put, all ways -/
theorem put_eff (X : SX m s p b c h bs cs K live sh taken) (hK : K ≤ 890) {x : Dv} {ns : List Str} (hx : Lt x (ns.map Dv.str)) (hn : ∀ n ∈ ns, gN n) (hne : ns ≠ []) (hl : ns.length ≤ 8) {v : Int} (hv : -1000000000000000000000000000000 < v ∧ v < 1000000000000000000000000000000) :
    ((∃ j, j < ns.length ∧ ∃ u, kv bs (some live) (ns.take j) = some (some u)) ∧ m_Store_put [.loc s, x, .int v] m = .exc 4 m) ∨
    ((∀ j, j < ns.length → ∀ u, kv bs (some live) (ns.take j) ≠ some (some u)) ∧
      ((kv bs (some live) ns = some none ∧ m_Store_put [.loc s, x, .int v] m = .exc 5 m) ∨
       (kv bs (some live) ns = some (some v) ∧ m_Store_put [.loc s, x, .int v] m = .ok (.int 0) m) ∨
       (kv bs (some live) ns ≠ some none ∧ kv bs (some live) ns ≠ some (some v) ∧ ∃ bs' cs' g m', m_Store_put [.loc s, x, .int v] m = .ok (.int g) m' ∧ SX m' s p b c h bs' cs' (K + 1 + ns.length) ((K + 1 + ns.length : Nat) : Int) sh taken ∧ SFr m m' s p b c h ∧
          Eff bs K live sh ns (some v) bs' (K + 1 + ns.length) g))) := by
  obtain ⟨S, I⟩ := X
  have O := I.ord (by omega)
  have W := O.W
  have hT := I.tl
  by_cases hj : ∃ j, j < ns.length ∧ isLf bs (fnd bs (some live) (ns.take j)) = true
  · left
    refine ⟨?_, put_above S W hT hx hn hne hl hv hj⟩
    obtain ⟨j, h1, h2⟩ := hj
    exact ⟨j, h1, isLf_kv.mp h2⟩
  · right
    have free : ∀ j, j < ns.length → isLf bs (fnd bs (some live) (ns.take j)) = false := fun j h1 => by
      cases q : isLf bs (fnd bs (some live) (ns.take j)) with
      | false => rfl
      | true => exact absurd ⟨j, h1, q⟩ hj
    refine ⟨fun j h1 u h2 => hj ⟨j, h1, isLf_kv.mpr ⟨u, h2⟩⟩, ?_⟩
    by_cases hb : kv bs (some live) ns = some none
    · exact .inl ⟨hb, put_branch S W hT hx hn hne hl hv free hb⟩
    · right
      by_cases hs : kv bs (some live) ns = some (some v)
      · left
        obtain ⟨i, f1, f2⟩ := kv_is_leaf hs
        exact ⟨hs, put_same S W hT hx hn hne hl hv free f1 f2⟩
      · right
        refine ⟨hb, hs, ?_⟩
        obtain ⟨r, bs', cs', g, m', e1, e2, e3, e4, e5⟩ := put_new S O (by omega) (I.few (by omega)) hT hx hn hne hl hv free (fun z => by
          cases f : fnd bs (some live) ns with
          | none => rw [f] at z; cases z
          | some i =>
            obtain ⟨y, hy⟩ := hT.fnd W ns i f
            cases y with
            | leaf u =>
              refine ⟨i, u, rfl, hy, ?_⟩
              rintro rfl
              apply hs
              unfold kv kvB
              simp only [f, hy]
            | br rows =>
              exfalso
              apply hb
              unfold kv kvB
              simp only [f, hy])
        have eK : ((KW K (some v) : Nat) : Int) = (K : Int) + 1 := by simp [KW]
        obtain ⟨q1, q2, q3, q4, q5, q6, q7, q8, bs2, cs2, g2, u1, u2, u3⟩ := eff_plain I (by omega) hn hne hl (some v) (r := r) (by rw [e1, eK]; rfl)
        rw [u1] at e2
        cases e2
        rw [q1] at e4
        exact ⟨_, _, _, m', e3, ⟨e4, u2⟩, e5, u3⟩
/-- a cut, all ways -/
theorem cut_eff (X : SX m s p b c h bs cs K live sh taken) (hK : K ≤ 890) {x : Dv} {ns : List Str} (hx : Lt x (ns.map Dv.str)) (hn : ∀ n ∈ ns, gN n) (hne : ns ≠ []) (hl : ns.length ≤ 8) :
    (kv bs (some live) ns = none ∧ m_Store_cut [.loc s, x] m = .exc 3 m) ∨
    (kv bs (some live) ns ≠ none ∧ ∃ bs' cs' g m', m_Store_cut [.loc s, x] m = .ok (.int g) m' ∧ SX m' s p b c h bs' cs' (K + ns.length) ((K + ns.length : Nat) : Int) sh taken ∧ SFr m m' s p b c h ∧ Eff bs K live sh ns none bs' (K + ns.length) g) := by
  obtain ⟨S, I⟩ := X
  have O := I.ord (by omega)
  have W := O.W
  have hT := I.tl
  have h1 := names_ok (m := m) hx hn hl
  have h2 := ne_nil hn m
  rw [decide_eq_false hne] at h2
  have h3 := found_ok S.P W hT (path := .lst (ns.map Dv.str)) (names := ns) rfl
  have h3 : m_found [.loc p, .int live, .lst (ns.map Dv.str)] m = _ := h3
  cases f : fnd bs (some live) ns with
  | none =>
    left
    have hk : kv bs (some live) ns = none := by unfold kv; rw [f] <;> rfl
    refine ⟨hk, ?_⟩
    rw [f, oD_n] at h3
    unfold m_Store_cut mkFn bd_Store_cut
    generalize ns.map Dv.str = pl at h1 h2 h3
    simp [h1, h2, S.hs, h3]
  | some i =>
    right
    rw [f, oD_s] at h3
    have hk : kv bs (some live) ns ≠ none := fun z => by
      have := kv_is_none W hT z
      rw [f] at this
      cases this
    refine ⟨hk, ?_⟩
    obtain ⟨ob, oc⟩ := O.lens
    obtain ⟨m2, l2, P2, O2, E2, F2⟩ := rebuilt_ok S.P O (I.few (by omega)) hT hl (by omega) (made := none) (fun u hu => by cases hu) (by omega) (by omega)
    have S2 := S.step P2 F2
    obtain ⟨q1, q2, q3, q4, q5, ⟨y, q6⟩, ⟨z, q7⟩, q8, bs2, cs2, g2, u1, u2, u3⟩ := eff_plain I (by omega) hn hne hl none rfl
    simp only [bsW, csW, KW, mW] at q1 q2 q3 q4 q5 q6 q7 q8 u1 u2 u3
    rw [q2] at l2
    obtain ⟨bs', cs', g, m3, l3, l4, S3, F3⟩ := turned_ok S2 q6 q3 q7 q8 q4 q5
    rw [u1] at l3
    cases l3
    obtain ⟨m4, l5, S4, F4⟩ := fin_rtS S S3 (F2.s.trans F3) (.int g2)
    rw [q1] at S4 l2 l4
    refine ⟨bs2, cs2, g2, m4, ?_, ⟨S4, u2⟩, F4, u3⟩
    have l2 : m_rebuilt [.loc p, .int live, .lst (ns.map Dv.str), .non] m = .ok (.int ((K + ns.length : Nat) : Int)) m2 := l2
    unfold m_Store_cut mkFn bd_Store_cut
    generalize ns.map Dv.str = pl at h1 h2 h3 l2
    generalize ((K + ns.length : Nat) : Int) = kk at l2 l4
    simp [h1, h2, S.hs, h3, S.P.hp, l2, l4, l5]

/-! ### snapshots -/
theorem vals_drop {d : List (Int × Int)} {i t : Int} (nd : (keys d).Nodup) (h : valG d i = some t) : (vals d).Perm (t :: vals (dropG d i)) := by
  induction d with
  | nil => cases h
  | cons q r ih =>
    have nd' : q.1 ∉ keys r ∧ (keys r).Nodup := List.nodup_cons.mp nd
    rw [valG_cons] at h
    by_cases e : q.1 = i
    · rw [if_pos e] at h
      cases h
      have e1 : dropG (q :: r) i = r := by
        unfold dropG
        rw [List.filter_cons_of_neg (by simp [e])]
        exact drop_self (by rw [← e]; exact nd'.1)
      rw [e1]
      exact List.Perm.refl _
    · rw [if_neg e] at h
      have e1 : dropG (q :: r) i = q :: dropG r i := by
        unfold dropG
        rw [List.filter_cons_of_pos (by simp [e])]
      rw [e1]
      show (q.2 :: vals r).Perm (t :: q.2 :: vals (dropG r i))
      exact ((ih nd'.2 h).cons q.2).trans (List.Perm.swap ..)
theorem vals_sub {d : List (Int × Int)} {i t : Int} (h : t ∈ vals (dropG d i)) : t ∈ vals d := by
  obtain ⟨q, hq, rfl⟩ := List.mem_map.mp h
  exact List.mem_map.mpr ⟨q, (List.mem_filter.mp hq).1, rfl⟩
/-- nothing new; g are gone; what the tops R' tell is as before -/
structure Gon (bs bs' : List (Int × Bx)) (R' : List Int) (g : Int) : Prop where
  sub : Ext bs' bs
  gone : g = (((keys bs).filter fun i => decide (i ∉ keys bs')).length : Int)
  oth : ∀ t ∈ R', ∀ q, kv bs' (some t) q = kv bs (some t) q
theorem gon_of {bs : List (Int × Bx)} {cs' : List (Int × Int)} {R' : List Int} {K : Nat} {keep : Int → Bool} {g : Int} (nd : (keys bs).Nodup) (hK : K ≤ 1000) (T : TabOk bs) (le : ∀ i ∈ keys bs, 1 ≤ i ∧ i ≤ (K : Int)) (E : Exa (bs.filter fun p => keep p.1) cs' R') (hg : g + ((bs.filter fun p => keep p.1).length : Int) = bs.length) : Gon bs (bs.filter fun p => keep p.1) R' g := by
  have le' : ∀ i ∈ keys (bs.filter fun p => keep p.1), 1 ≤ i ∧ i ≤ (K : Int) := fun i hi => by
    rw [keys_filter] at hi
    exact le i (List.mem_filter.mp hi).1
  have W' := wf_of E (T.filter keep) le' hK
  exact ⟨Ext.filter bs keep, gone_count nd nd rfl hg (fun _ h => h) (fun i h => .inl h), fun t ht q => (kv_ext (Ext.filter bs keep) W' (fun i hi => by cases hi; exact of_mem_keys (E.rt t ht)) q).symm⟩
theorem SI.sub {bs : List (Int × Bx)} {cs cs' : List (Int × Int)} {K : Nat} {live live' : Int} {sh sh' : List (Int × Int)} {taken : Nat} {keep : Int → Bool} (I : SI bs cs K live sh taken) (E : Exa (bs.filter fun p => keep p.1) cs' (live' :: vals sh')) (P : Pos (bs.filter fun p => keep p.1) (live' :: vals sh'))
    (hR : ∀ t ∈ live' :: vals sh', t ∈ live :: vals sh) (n1 : (keys sh').Nodup) (n2 : ∀ i ∈ keys sh', 1 ≤ i ∧ i ≤ (taken : Int)) : SI (bs.filter fun p => keep p.1) cs' K live' sh' taken := by
  refine ⟨E, P, I.T.filter keep, fun i hi => ?_, fun t ht => ?_, n1, n2⟩
  · rw [keys_filter] at hi
    exact I.le i (List.mem_filter.mp hi).1
  · obtain ⟨z, hz⟩ := of_mem_keys (E.rt t ht)
    obtain ⟨rows, hr⟩ := I.br t (hR t ht)
    have := Ext.filter bs keep _ _ hz
    rw [hr] at this
    exact ⟨rows, by rw [hz, ← Option.some.inj this]⟩
/-- the tree made that of a snapshot -/
theorem back_eff (X : SX m s p b c h bs cs K live sh taken) (hK : K ≤ 900) {i t : Int} (ht : valG sh i = some t) :
    ∃ bs' cs' g m', m_Store_back [.loc s, .int i] m = .ok (.int g) m' ∧ SX m' s p b c h bs' cs' K t sh taken ∧ SFr m m' s p b c h ∧ Gon bs bs' (t :: vals sh) g := by
  obtain ⟨S, I⟩ := X
  have O := I.ord (by omega)
  obtain ⟨ob, oc⟩ := O.lens
  have hsz := O.sz_le
  have htR : t ∈ live :: vals sh := .tail _ (mem_vals ht)
  obtain ⟨rows, hrw⟩ := I.br t htR
  obtain ⟨z, hz⟩ := I.tl live rfl
  have hn := I.E.ex t (mem_keys_of hrw)
  obtain ⟨keep, cs', g, e1, e2, e3, e4⟩ := turn_plain I.E (fun j hj => .inr (I.P j hj)) (mem_keys_of hrw) hn (by omega)
  obtain ⟨bs2, cs2, g2, m', u1, u2, u3, u4⟩ := turned_ok S hrw hn hz O.hk (by omega) (by omega)
  rw [e1] at u1
  cases u1
  obtain ⟨m4, l5, S4, F4⟩ := fin_rtS S u3 u4 (.int g)
  refine ⟨_, _, g, m4, ?_, ⟨S4, I.sub e3 e4 (fun j hj => ?_) I.shn I.shk⟩, F4, gon_of I.E.nd (by omega) I.T I.le e3 e2⟩
  · have h1 := top_ok S (v := some i) (t := t) ht
    have h1 : m_Store_top [.loc s, .int i] m = .ok (.int t) m := h1
    unfold m_Store_back mkFn bd_Store_back
    simp [S.hs, h1, u2, l5]
  · rcases List.mem_cons.mp hj with rfl | hj
    · exact htR
    · exact .tail _ hj
/-- a snapshot ended -/
theorem drop_eff (X : SX m s p b c h bs cs K live sh taken) (hK : K ≤ 900) {i t : Int} (ht : valG sh i = some t) :
    ∃ bs' cs' g m', m_Store_drop [.loc s, .int i] m = .ok (.int g) m' ∧ SX m' s p b c h bs' cs' K live (dropG sh i) taken ∧ SFr m m' s p b c h ∧ Gon bs bs' (live :: vals (dropG sh i)) g := by
  obtain ⟨S, I⟩ := X
  have O := I.ord (by omega)
  obtain ⟨ob, oc⟩ := O.lens
  have hsz := O.sz_le
  have htR : t ∈ live :: vals sh := .tail _ (mem_vals ht)
  obtain ⟨rows, hrw⟩ := I.br t htR
  have hp : (live :: vals sh).Perm ((live :: vals (dropG sh i)) ++ [t]) := ((vals_drop I.shn ht).cons live).trans (by
    refine (List.Perm.swap t live _).trans ?_
    exact List.perm_append_comm (l₁ := [t]))
  obtain ⟨keep, cs', g', e1, e2, e3, e4⟩ := lg_exact (live :: vals (dropG sh i)) fuelN [t] bs cs 0 (I.E.perm hp) (I.P.perm hp) (by simp [fuelN]; omega)
  -- the snapshot's row goes
  have Sd : SAt (m.set h (.dic (kC (dropG sh i)))) s p b c h bs cs (K : Int) live (dropG sh i) (taken : Int) := by
    refine ⟨?_, S.P.keep (p' := h) (fun n _ hn => List.getElem?_set_ne (Ne.symm hn)) S.ph S.bh S.ch, List.getElem?_set_self S.lh, S.sp, S.sb, S.sc, S.sh, S.ph, S.bh, S.ch⟩
    rw [List.getElem?_set_ne S.sh.symm]
    exact S.hs
  have Fd : SFr m (m.set h (.dic (kC (dropG sh i)))) s p b c h := ⟨by simp, fun n _ _ _ _ _ a5 => List.getElem?_set_ne (Ne.symm a5)⟩
  obtain ⟨bs2, cs2, g2, m3, u1, u2, u3, u4⟩ := let_go_ok Sd.P hrw O.hk (by omega) (by omega)
  rw [e1] at u1
  cases u1
  have S3 := Sd.step u3 u4
  obtain ⟨m4, l5, S4, F4⟩ := fin_rtS S S3 (Fd.trans u4.s) (.int g')
  refine ⟨_, _, g', m4, ?_, ⟨S4, I.sub e3 e4 (fun j hj => ?_) (nodup_drop I.shn i) (fun j hj => ?_)⟩, F4, gon_of I.E.nd (by omega) I.T I.le e3 (by omega)⟩
  · have h1 := top_ok S (v := some i) (t := t) ht
    have h1 : m_Store_top [.loc s, .int i] m = .ok (.int t) m := h1
    have hs2 := Sd.hs
    unfold m_Store_drop mkFn bd_Store_drop
    simp [S.hs, h1, ↓S.hh, valG_kC, ht, dropG_kC, ↓hs2, ↓Sd.P.hp, u2, l5]
  · rcases List.mem_cons.mp hj with rfl | hj
    · exact .head _
    · exact .tail _ (vals_sub hj)
  · rw [keys_drop, List.mem_filter] at hj
    exact I.shk j hj.1
/-- a new snapshot -/
theorem snap_eff (X : SX m s p b c h bs cs K live sh taken) (hK : K ≤ 900) (hsh : sh.length < 1000000) :
    ∃ cs' m', m_Store_snap [.loc s] m = .ok (.int ((taken + 1 : Nat) : Int)) m' ∧ SX m' s p b c h bs cs' K live (sh ++ [(((taken + 1 : Nat) : Int), live)]) (taken + 1) ∧ SFr m m' s p b c h := by
  obtain ⟨S, I⟩ := X
  have O := I.ord (by omega)
  obtain ⟨ob, oc⟩ := O.lens
  obtain ⟨z, hz⟩ := I.tl live rfl
  have hn := I.E.ex live (mem_keys_of hz)
  have hnew : ((taken + 1 : Nat) : Int) ∉ keys sh := fun z => by have := (I.shk _ z).2; omega
  have hput : putG sh ((taken + 1 : Nat) : Int) live = sh ++ [(((taken + 1 : Nat) : Int), live)] := put_end _ hnew
  have ek : ((taken + 1 : Nat) : Int) = (taken : Int) + 1 := by omega
  -- its number
  have S1 : SAt (m.set s (.ins 1 [.loc p, .int live, .loc h, .int ((taken : Int) + 1)])) s p b c h bs cs (K : Int) live sh ((taken : Int) + 1) := by
    refine ⟨List.getElem?_set_self S.ls, S.P.keep (p' := s) (fun n _ hn => List.getElem?_set_ne (Ne.symm hn)) S.sp.symm S.sb.symm S.sc.symm, ?_, S.sp, S.sb, S.sc, S.sh, S.ph, S.bh, S.ch⟩
    rw [List.getElem?_set_ne S.sh]
    exact S.hh
  have F1 : SFr m (m.set s (.ins 1 [.loc p, .int live, .loc h, .int ((taken : Int) + 1)])) s p b c h := ⟨by simp, fun n _ a1 _ _ _ _ => List.getElem?_set_ne (Ne.symm a1)⟩
  generalize hm1 : m.set s (.ins 1 [.loc p, .int live, .loc h, .int ((taken : Int) + 1)]) = m1 at S1 F1
  have S2 : SAt (m1.set h (.dic (kC (putG sh ((taken : Int) + 1) live)))) s p b c h bs cs (K : Int) live (putG sh ((taken : Int) + 1) live) ((taken : Int) + 1) := by
    refine ⟨?_, S1.P.keep (p' := h) (fun n _ hn => List.getElem?_set_ne (Ne.symm hn)) S.ph S.bh S.ch, List.getElem?_set_self S1.lh, S.sp, S.sb, S.sc, S.sh, S.ph, S.bh, S.ch⟩
    rw [List.getElem?_set_ne S.sh.symm]
    exact S1.hs
  have F2 : SFr m1 (m1.set h (.dic (kC (putG sh ((taken : Int) + 1) live)))) s p b c h := ⟨by simp, fun n _ _ _ _ _ a5 => List.getElem?_set_ne (Ne.symm a5)⟩
  generalize hm2 : m1.set h (.dic (kC (putG sh ((taken : Int) + 1) live))) = m2 at S2 F2
  obtain ⟨m3, u1, u2, u3⟩ := hold_ok S2.P hz hn (by omega)
  have S3 := S2.step u2 u3
  obtain ⟨m4, l5, S4, F4⟩ := fin_rtS S S3 ((F1.trans F2).trans u3.s) (.int ((taken : Int) + 1))
  rw [← ek] at S4
  rw [hput] at S4
  refine ⟨_, m4, ?_, ⟨S4, ⟨?_, ?_, I.T, I.le, fun t ht => ?_, ?_, fun j hj => ?_⟩⟩, F4⟩
  · have hs1 := S1.hs
    have hs2 := S2.hs
    have hs3 := S3.hs
    have hh1 := S1.hh
    have hsh' : sh.length < 16777216 := by omega
    rw [ek]
    unfold m_Store_snap mkFn bd_Store_snap
    simp [↓S.hs, setIns, putI, hm1, ↓hs1, ↓hh1, hsh', putG_kC, hm2, ↓hs2, ↓S2.P.hp, u1, ↓hs3, l5]
  · refine (I.E.held (mem_keys_of hz) hn).perm ?_
    show (live :: live :: vals sh).Perm (live :: vals (sh ++ [_]))
    unfold vals
    rw [List.map_append]
    exact (List.perm_append_comm (l₁ := [live]) (l₂ := sh.map (·.2))).cons live
  · intro i hi
    have h1 := I.P i hi
    have h2 : (live :: vals (sh ++ [(((taken + 1 : Nat) : Int), live)])) = (live :: vals sh) ++ [live] := by unfold vals; rw [List.map_append] <;> rfl
    rw [h2, List.count_append]
    omega
  · have h2 : (live :: vals (sh ++ [(((taken + 1 : Nat) : Int), live)])) = (live :: vals sh) ++ [live] := by unfold vals; rw [List.map_append] <;> rfl
    rw [h2] at ht
    rcases List.mem_append.mp ht with ht | ht
    · exact I.br t ht
    · rw [List.mem_singleton] at ht
      subst ht
      exact I.br _ (.head _)
  · rw [← hput]
    exact nodup_put I.shn _ _
  · rw [← hput] at hj
    rcases mem_keys_put.mp hj with rfl | hj
    · omega
    · have := I.shk j hj
      omega
end
end Law
/-! Q2 -/
set_option Elab.async false
set_option linter.all false
set_option maxRecDepth 100000
set_option autoImplicit false
set_option maxHeartbeats 1000000
/-! Q2: lists of numbers, of texts, compared -/
namespace Sn
open PySem PySem.Spec PyProof.Rows L2
theorem ints_inj {xs ys : List Int} : xs.map Dv.int = ys.map Dv.int ↔ xs = ys := by
  constructor
  · intro h
    induction xs generalizing ys with
    | nil =>
      cases ys with
      | nil => rfl
      | cons y ys => cases h
    | cons x xs ih =>
      cases ys with
      | nil => cases h
      | cons y ys =>
        rw [List.map_cons, List.map_cons, List.cons.injEq] at h
        cases h.1
        rw [ih h.2]
  · rintro rfl; rfl
theorem strs_inj {xs ys : List Str} : xs.map Dv.str = ys.map Dv.str ↔ xs = ys := by
  constructor
  · intro h
    induction xs generalizing ys with
    | nil =>
      cases ys with
      | nil => rfl
      | cons y ys => cases h
    | cons x xs ih =>
      cases ys with
      | nil => cases h
      | cons y ys =>
        rw [List.map_cons, List.map_cons, List.cons.injEq] at h
        cases h.1
        rw [ih h.2]
  · rintro rfl; rfl
theorem pln_ints (n : Nat) (xs : List Int) : pln (n + 1) (.lst (xs.map Dv.int)) = true := by
  unfold pln
  exact plns_map n Dv.int xs fun s hs => by simp [pln]
theorem pln_strs (n : Nat) (xs : List Str) (h : ∀ s ∈ xs, PyData.strOk s = true) : pln (n + 1) (.lst (xs.map Dv.str)) = true := by
  unfold pln
  exact plns_map n Dv.str xs fun s hs => by simp [pln, h s hs]
open Classical in
theorem eqD_ints (xs ys : List Int) (m : Mem) : eqD (.lst (xs.map Dv.int)) (.lst (ys.map Dv.int)) m = .ok (.bl (decide (xs = ys))) m := by
  rw [eqD_pln (n := 1) (m := m) (x := .lst (xs.map Dv.int)) (y := .lst (ys.map Dv.int)) (by decide) (pln_ints 0 xs) (pln_ints 0 ys) (.inl rfl)]
  congr 2
  rw [decide_eq_decide]
  show Dv.lst _ = .lst _ ↔ _
  rw [Dv.lst.injEq, ints_inj]
open Classical in
theorem neD_ints (xs ys : List Int) (m : Mem) : neD (.lst (xs.map Dv.int)) (.lst (ys.map Dv.int)) m = .ok (.bl (!decide (xs = ys))) m := by
  rw [neD_pln (n := 1) (m := m) (x := .lst (xs.map Dv.int)) (y := .lst (ys.map Dv.int)) (by decide) (pln_ints 0 xs) (pln_ints 0 ys) (.inl rfl)]
  congr 3
  rw [decide_eq_decide]
  show Dv.lst _ = .lst _ ↔ _
  rw [Dv.lst.injEq, ints_inj]
open Classical in
theorem eqD_strs {xs ys : List Str} (h : ∀ s ∈ xs, PyData.strOk s = true) (g : ∀ s ∈ ys, PyData.strOk s = true) (m : Mem) : eqD (.lst (xs.map Dv.str)) (.lst (ys.map Dv.str)) m = .ok (.bl (decide (xs = ys))) m := by
  rw [eqD_pln (n := 1) (m := m) (x := .lst (xs.map Dv.str)) (y := .lst (ys.map Dv.str)) (by decide) (pln_strs 0 xs h) (pln_strs 0 ys g) (.inl rfl)]
  congr 2
  rw [decide_eq_decide]
  show Dv.lst _ = .lst _ ↔ _
  rw [Dv.lst.injEq, strs_inj]
open Classical in
theorem neD_strs {xs ys : List Str} (h : ∀ s ∈ xs, PyData.strOk s = true) (g : ∀ s ∈ ys, PyData.strOk s = true) (m : Mem) : neD (.lst (xs.map Dv.str)) (.lst (ys.map Dv.str)) m = .ok (.bl (!decide (xs = ys))) m := by
  rw [neD_pln (n := 1) (m := m) (x := .lst (xs.map Dv.str)) (y := .lst (ys.map Dv.str)) (by decide) (pln_strs 0 xs h) (pln_strs 0 ys g) (.inl rfl)]
  congr 3
  rw [decide_eq_decide]
  show Dv.lst _ = .lst _ ↔ _
  rw [Dv.lst.injEq, strs_inj]
theorem srtI_id {xs : List Int} (h : xs.Pairwise (· ≤ ·)) : xs.mergeSort ile = xs := by
  apply List.mergeSort_of_pairwise
  exact h.imp fun {a b} z => decide_eq_true z
end Sn
/-! A1_k05 -/
set_option Elab.async false
set_option linter.all false
set_option maxRecDepth 100000
set_option autoImplicit false
set_option maxHeartbeats 1000000
/-! A1: names, paths and numbers by a cell -/
namespace Law
open PySem PySem.Spec PyProof.Rows L2 Sn

def AZ (s : Str) : Prop := ∀ x ∈ tx s, 97 ≤ x ∧ x ≤ 122
theorem abc_at (j : Int) (h0 : 0 ≤ j) (h1 : j < 26) : ∃ x : Nat, atI abc.cps.toList j = some x ∧ 97 ≤ x ∧ x ≤ 122 := by
  obtain ⟨x, hx, hm⟩ := at_some (xs := abc.cps.toList) (i := j) h0 (by show _ < ((tx abc).length : Int); rw [← len_tx, abc_len]; omega)
  exact ⟨x, hx, (mem_abc x).mp hm⟩
theorem tx_cut_lo (s : Str) (j : Nat) : tx (cutS s none (some (j : Int))) = (tx s).take j := by
  unfold cutS
  show ((s.cps.toList.drop _).take _) = _
  rw [HT.sIx_none, HT.sIx_nat, List.drop_zero, Nat.sub_zero]
  rcases Nat.le_total j s.length with g | g
  · rw [Nat.min_eq_left g]
  · rw [Nat.min_eq_right g, List.take_of_length_le (Nat.le_of_eq (len_tx s).symm), List.take_of_length_le (by rw [← len_tx]; exact g)]
theorem tx_cut_hi (s : Str) (j : Nat) : tx (cutS s (some (j : Int)) none) = (tx s).drop j := by
  unfold cutS
  show ((s.cps.toList.drop _).take _) = _
  rw [HT.sIx_none, HT.sIx_nat]
  rcases Nat.le_total j s.length with g | g
  · rw [Nat.min_eq_left g, List.take_of_length_le (by rw [List.length_drop]; exact Nat.le_of_eq (congrArg (· - j) (len_tx s).symm))]
  · rw [Nat.min_eq_right g, List.drop_eq_nil_of_le (Nat.le_of_eq (len_tx s).symm), List.drop_eq_nil_of_le (by rw [← len_tx]; exact g)]
    exact List.take_nil
theorem put_in_name {s : Str} (h : AZ s) (hl : s.length ≤ 7) {x : Nat} (hx : 97 ≤ x ∧ x ≤ 122) (j : Nat) : gN (cutS s none (some (j : Int)) ++ ⟨#[x]⟩ ++ cutS s (some (j : Int)) none) := by
  have e : tx (cutS s none (some (j : Int)) ++ ⟨#[x]⟩ ++ cutS s (some (j : Int)) none) = (tx s).take j ++ [x] ++ (tx s).drop j := by
    rw [tx_append, tx_append, tx_cut_lo, tx_cut_hi]
  have el : (cutS s none (some (j : Int)) ++ ⟨#[x]⟩ ++ cutS s (some (j : Int)) none).length = s.length + 1 := by
    rw [len_tx, e, len_tx s]
    simp only [List.length_append, List.length_take, List.length_drop, List.length_cons, List.length_nil]
    omega
  refine ⟨by omega, by omega, fun y hy => ?_⟩
  rw [e] at hy
  rcases List.mem_append.mp hy with hy | hy
  · rcases List.mem_append.mp hy with hy | hy
    · exact h y (List.mem_of_mem_take hy)
    · rw [List.mem_singleton] at hy; rw [hy]; exact hx
  · exact h y (List.mem_of_mem_drop hy)
theorem one_name {x : Nat} (hx : 97 ≤ x ∧ x ≤ 122) : gN ⟨#[x]⟩ := ⟨by show 1 ≤ 1; decide, by show 1 ≤ 8; decide, fun y hy => by
  have : y = x := by simpa [tx] using hy
  rw [this]; exact hx⟩
theorem shots_ok {m : Mem} {s p b c h : Nat} {bs : List (Int × Bx)} {cs : List (Int × Int)} {K live taken : Int} {sh : List (Int × Int)} (S : SAt m s p b c h bs cs K live sh taken) : m_Store_shot_numbers [.loc s] m = .ok (.lst (((keys sh).mergeSort ile).map Dv.int)) m := by
  unfold m_Store_shot_numbers mkFn bd_Store_shot_numbers
  simp [S.hs, sortKiD_ok S.hh]
end Law
/-! A2_k05 -/
set_option Elab.async false
set_option linter.all false
set_option maxRecDepth 100000
set_option autoImplicit false
set_option maxHeartbeats 1000000
/-! A2: a drawn deed at a store -/
namespace Law
open PySem PySem.Spec PyProof.Rows L2 Sn

/-- from one table of boxes to the next -/
structure Nx (bs : List (Int × Bx)) (K : Nat) (bs' : List (Int × Bx)) (g : Int) : Prop where
  old : ∀ i x, valG bs' i = some x → i ≤ (K : Int) → valG bs i = some x
  gone : g = (((keys bs).filter fun i => decide (i ∉ keys bs')).length : Int)
theorem Nx.same (bs : List (Int × Bx)) (K : Nat) : Nx bs K bs 0 := by
  refine ⟨fun _ _ h _ => h, ?_⟩
  rw [List.filter_eq_nil_iff.mpr]
  · rfl
  · intro a ha
    simp [ha]
theorem Eff.nx {bs : List (Int × Bx)} {K : Nat} {live : Int} {sh : List (Int × Int)} {ns : List Str} {w : Option Int} {bs' : List (Int × Bx)} {K' : Nat} {g : Int} (e : Eff bs K live sh ns w bs' K' g) : Nx bs K bs' g := ⟨e.old, e.gone⟩
theorem Gon.nx {bs bs' : List (Int × Bx)} {R' : List Int} {g : Int} (e : Gon bs bs' R' g) (K : Nat) : Nx bs K bs' g := ⟨fun i x h _ => e.sub i x h, e.gone⟩
def isPut (cell more : Int) (sh : List (Int × Int)) : Prop := cell % 8 < 4 ∨ (5 < cell % 8 ∧ (sh = [] ∨ more % 5 = 0))
open Classical in
noncomputable def dueOf (cell more : Int) (bs : List (Int × Bx)) (live : Int) (sh : List (Int × Int)) (ns : List Str) (v : Int) : Nat :=
  if isPut cell more sh then (if kv bs (some live) ns = some (some v) then 0 else ns.length + 1) else if cell % 8 = 4 then ns.length else 0
theorem keys_nil {κ α : Type} {d : List (κ × α)} : keys d = [] ↔ d = [] := by unfold keys; simp
theorem shots_nil (sh : List (Int × Int)) : ((keys sh).mergeSort ile = []) ↔ sh = [] := by
  constructor
  · intro h
    have := congrArg List.length h
    rw [List.length_mergeSort, keys_len] at this
    exact List.length_eq_zero_iff.mp this
  · rintro rfl
    simp [keys]
section
variable {m : Mem} {s p b c h : Nat} {bs : List (Int × Bx)} {cs : List (Int × Int)} {K : Nat} {live : Int} {sh : List (Int × Int)} {taken : Nat}
theorem shot_at (X : SX m s p b c h bs cs K live sh taken) (hne : sh ≠ []) (j : Int) : ∃ i t, atI (((keys sh).mergeSort ile).map Dv.int) (j % ((((keys sh).mergeSort ile).map Dv.int).length : Int)) = some (.int i) ∧ valG sh i = some t := by
  have hl : 0 < (((keys sh).mergeSort ile).map Dv.int).length := by
    rw [List.length_map, List.length_mergeSort, keys_len]
    exact List.length_pos_iff.mpr hne
  obtain ⟨x, h1, h2⟩ := at_some (xs := ((keys sh).mergeSort ile).map Dv.int) (i := j % ((((keys sh).mergeSort ile).map Dv.int).length : Int)) (Int.emod_nonneg _ (by omega)) (Int.emod_lt_of_pos _ (by omega))
  obtain ⟨i, hi, rfl⟩ := List.mem_map.mp h2
  have hi : i ∈ keys sh := List.mem_mergeSort.mp hi
  obtain ⟨t, ht⟩ := of_mem_keys hi
  exact ⟨i, t, h1, ht⟩
/-- what a drawn deed does -/
structure Did (m : Mem) (s p b c h : Nat) (bs : List (Int × Bx)) (K : Nat) (sh : List (Int × Int)) (due : Nat) (g : Int) (bs' : List (Int × Bx)) (cs' : List (Int × Int)) (live' : Int) (sh' : List (Int × Int)) (taken' : Nat) (m' : Mem) : Prop where
  X : SX m' s p b c h bs' cs' (K + due) live' sh' taken'
  F : SFr m m' s p b c h
  top : 0 < due → live' = ((K + due : Nat) : Int)
  len : sh'.length ≤ sh.length + 33
  nx : Nx bs K bs' g
theorem fin_rtX (X0 : SX m s p b c h bs cs K live sh taken) {m' : Mem} {bs' : List (Int × Bx)} {cs' : List (Int × Int)} {K' : Nat} {live' : Int} {sh' : List (Int × Int)} {taken' : Nat} (X : SX m' s p b c h bs' cs' K' live' sh' taken') (f : SFr m m' s p b c h) (d : Dv) :
    ∃ m'', fin m (.rt d m') = .ok d m'' ∧ SX m'' s p b c h bs' cs' K' live' sh' taken' ∧ SFr m m'' s p b c h := by
  obtain ⟨m'', e, S, F⟩ := fin_rtS X0.S X.S f d
  exact ⟨m'', e, ⟨S, X.I⟩, F⟩
/-- the put of a drawn deed -/
theorem put_did (X : SX m s p b c h bs cs K live sh taken) (hK : K ≤ 880) {ns : List Str} (hn : ∀ n ∈ ns, gN n) (hne : ns ≠ []) (hl : ns.length ≤ 8) {v : Int} (hv : -1000000000000000000000000000000 < v ∧ v < 1000000000000000000000000000000) {due : Nat} (hd : due = open Classical in if kv bs (some live) ns = some (some v) then 0 else ns.length + 1) :
    (∃ e, (e = 4 ∨ e = 5) ∧ m_Store_put [.loc s, .lst (ns.map Dv.str), .int v] m = .exc e m) ∨
    ∃ g bs' cs' live' sh' taken' m', m_Store_put [.loc s, .lst (ns.map Dv.str), .int v] m = .ok (.int g) m' ∧ Did m s p b c h bs K sh due g bs' cs' live' sh' taken' m' := by
  rcases put_eff X (by omega) (x := .lst (ns.map Dv.str)) (.inl rfl) hn hne hl hv with ⟨_, e⟩ | ⟨_, ⟨_, e⟩ | ⟨hs, e⟩ | ⟨_, hs, bs', cs', g, m', e, X', F, E⟩⟩
  · exact .inl ⟨4, .inl rfl, e⟩
  · exact .inl ⟨5, .inr rfl, e⟩
  · rw [if_pos hs] at hd
    subst hd
    exact .inr ⟨0, bs, cs, live, sh, taken, m, e, X, SFr.refl _ _ _ _ _ _, fun z => absurd z (Nat.lt_irrefl 0), by omega, Nx.same bs K⟩
  · rw [if_neg hs] at hd
    have hd' : K + 1 + ns.length = K + due := by omega
    rw [hd'] at X'
    exact .inr ⟨g, bs', cs', _, sh, taken, m', e, X', F, fun _ => rfl, by omega, E.nx⟩
end
end Law
/-! A3_k05 -/
set_option Elab.async false
set_option linter.all false
set_option maxRecDepth 100000
set_option autoImplicit false
set_option maxHeartbeats 1000000
/-! A3: a new store in order; puts at one path; ends of defs; numbers in lists -/
namespace Law
open PySem PySem.Spec PyProof.Rows L2 Sn

theorem fin_rtG {m m' : Mem} (d : Dv) (hl : m.length ≤ m'.length) : ∃ m'', fin m (.rt d m') = .ok d m'' ∧ m.length ≤ m''.length ∧ ∀ n, n < m.length → m''[n]? = m'[n]? := by
  rw [fin_rt_eq]
  split
  · rename_i g
    refine ⟨m, rfl, Nat.le_refl _, fun n hn => ?_⟩
    conv => lhs; rw [← g.1]
    rw [List.getElem?_take, if_pos hn]
  · exact ⟨m', rfl, hl, fun _ _ => rfl⟩
theorem SAt.of {m m' : Mem} {s p b c h : Nat} {bs : List (Int × Bx)} {cs : List (Int × Int)} {k live taken : Int} {sh : List (Int × Int)} (S : SAt m s p b c h bs cs k live sh taken) (hm : ∀ n, n = s ∨ n = p ∨ n = b ∨ n = c ∨ n = h → m'[n]? = m[n]?) : SAt m' s p b c h bs cs k live sh taken :=
  ⟨(hm _ (.inl rfl)).trans S.hs, ⟨(hm _ (.inr (.inl rfl))).trans S.P.hp, (hm _ (.inr (.inr (.inl rfl)))).trans S.P.hb, (hm _ (.inr (.inr (.inr (.inl rfl))))).trans S.P.hc, S.P.pb, S.P.pc, S.P.bc⟩, (hm _ (.inr (.inr (.inr (.inr rfl))))).trans S.hh, S.sp, S.sb, S.sc, S.sh, S.ph, S.bh, S.ch⟩
theorem SX.of {m m' : Mem} {s p b c h : Nat} {bs : List (Int × Bx)} {cs : List (Int × Int)} {K taken : Nat} {live : Int} {sh : List (Int × Int)} (X : SX m s p b c h bs cs K live sh taken) (hm : ∀ n, n = s ∨ n = p ∨ n = b ∨ n = c ∨ n = h → m'[n]? = m[n]?) : SX m' s p b c h bs cs K live sh taken := ⟨X.S.of hm, X.I⟩
/-- a place is not one of the store's -/
def Off (d s p b c h : Nat) : Prop := d ≠ s ∧ d ≠ p ∧ d ≠ b ∧ d ≠ c ∧ d ≠ h
theorem SX.keep {m m' : Mem} {s p b c h : Nat} {bs : List (Int × Bx)} {cs : List (Int × Int)} {K taken : Nat} {live : Int} {sh : List (Int × Int)} (X : SX m s p b c h bs cs K live sh taken) {d : Nat} (off : Off d s p b c h) (hm : ∀ n, n < m.length → n ≠ d → m'[n]? = m[n]?) : SX m' s p b c h bs cs K live sh taken :=
  X.of fun n hn => by
    obtain ⟨a1, a2, a3, a4, a5⟩ := off
    rcases hn with rfl | rfl | rfl | rfl | rfl
    · exact hm _ X.S.ls (Ne.symm a1)
    · exact hm _ X.S.P.lp (Ne.symm a2)
    · exact hm _ X.S.P.lb (Ne.symm a3)
    · exact hm _ X.S.P.lc (Ne.symm a4)
    · exact hm _ X.S.lh (Ne.symm a5)
theorem SFr.at {m m' : Mem} {s p b c h : Nat} (f : SFr m m' s p b c h) {d : Nat} (off : Off d s p b c h) (hd : d < m.length) : m'[d]? = m[d]? := f.2 d hd off.1 off.2.1 off.2.2.1 off.2.2.2.1 off.2.2.2.2
/-! numbers in lists -/
theorem inV_int (i : Int) (xs : List Int) : inV (.int i) (xs.map V.int) = decide (i ∈ xs) := by
  induction xs with
  | nil => rfl
  | cons x r ih =>
    rw [List.map_cons]
    unfold inV at ih ⊢
    simp only [List.any_cons, ih]
    rw [Bool.eq_iff_iff]
    simp only [Bool.or_eq_true, decide_eq_true_eq, List.mem_cons]
    constructor
    · rintro (z | z)
      · left
        have z : decide (x = i) = true := z
        exact (of_decide_eq_true z).symm
      · exact .inr z
    · rintro (rfl | z)
      · left
        show decide (i = i) = true
        exact decide_eq_true rfl
      · exact .inr z
theorem fl_ints (xs : List Int) : fl (xs.map Dv.int) = some (xs.map V.int) := by
  induction xs with
  | nil => rfl
  | cons x r ih => rw [List.map_cons, List.map_cons]; unfold fl; rw [ih] <;> rfl
theorem inB_int (i : Int) {x : Dv} {xs : List Int} {m : Mem} (h : sq m x = some (xs.map Dv.int)) : inB m (.int i) x = some (decide (i ∈ xs)) := by
  unfold inB
  split
  · exact absurd ‹Dv.int i = Dv.str _› (by intro z; cases z)
  · rw [h]
    show (match some (V.int i), fl (xs.map Dv.int) with | some v, some vs => some (inV v vs) | _, _ => none) = _
    rw [fl_ints]
    show some (inV _ _) = _
    rw [inV_int]
theorem inD_int (i : Int) (xs : List Int) (m : Mem) : inD (.int i) (.lst (xs.map Dv.int)) m = .ok (.bl (decide (i ∈ xs))) m := by
  unfold inD; rw [inB_int i (x := .lst (xs.map Dv.int)) rfl]
theorem ninD_int (i : Int) (xs : List Int) (m : Mem) : ninD (.int i) (.lst (xs.map Dv.int)) m = .ok (.bl (!decide (i ∈ xs))) m := by
  unfold ninD; rw [inB_int i (x := .lst (xs.map Dv.int)) rfl]
/-! lists of numbers in order -/
theorem iext : ∀ {xs ys : List Int}, xs.Pairwise (· < ·) → ys.Pairwise (· < ·) → (∀ i, i ∈ xs ↔ i ∈ ys) → xs = ys
  | [], [], _, _, _ => rfl
  | [], y :: ys, _, _, h => by have := (h y).mpr (.head _); cases this
  | x :: xs, [], _, _, h => by have := (h x).mp (.head _); cases this
  | x :: xs, y :: ys, hx, hy, h => by
    obtain ⟨a1, a2⟩ := List.pairwise_cons.mp hx
    obtain ⟨b1, b2⟩ := List.pairwise_cons.mp hy
    have e : x = y := by
      rcases List.mem_cons.mp ((h x).mp (.head _)) with e | e
      · exact e
      · have u1 := b1 x e
        rcases List.mem_cons.mp ((h y).mpr (.head _)) with e' | e'
        · exact e'.symm
        · have u2 := a1 y e'
          omega
    subst e
    rw [iext a2 b2 fun i => ?_]
    constructor
    · intro hi
      have := a1 i hi
      rcases List.mem_cons.mp ((h i).mp (.tail _ hi)) with e | e
      · omega
      · exact e
    · intro hi
      have := b1 i hi
      rcases List.mem_cons.mp ((h i).mpr (.tail _ hi)) with e | e
      · omega
      · exact e
theorem sort_lt {xs : List Int} (nd : xs.Nodup) : (xs.mergeSort ile).Pairwise (· < ·) := by
  have h1 : (xs.mergeSort ile).Pairwise fun a b => ile a b = true := List.pairwise_mergeSort (fun a b c h1 h2 => by unfold ile at *; simp at *; omega) (fun a b => by unfold ile; simp; omega) xs
  have h2 : (xs.mergeSort ile).Nodup := (List.mergeSort_perm xs ile).nodup_iff.mpr nd
  rw [List.nodup_iff_pairwise_ne] at h2
  exact (h1.and h2).imp fun {a b} h => by have := of_decide_eq_true h.1; have := h.2; omega
theorem sort_is {xs ys : List Int} (nd : xs.Nodup) (hy : ys.Pairwise (· < ·)) (h : ∀ i, i ∈ xs ↔ i ∈ ys) : xs.mergeSort ile = ys := iext (sort_lt nd) hy fun i => by rw [List.mem_mergeSort]; exact h i
theorem sort_congr {xs ys : List Int} (nd : xs.Nodup) (nd2 : ys.Nodup) (h : ∀ i, i ∈ xs ↔ i ∈ ys) : xs.mergeSort ile = ys.mergeSort ile := sort_is nd (sort_lt nd2) fun i => by rw [List.mem_mergeSort]; exact h i
/-! a new store -/
theorem si0 : SI [(1, .br [])] [(1, 1)] 1 1 [] 0 := by
  have hv : ∀ i x, valG [((1 : Int), Bx.br [])] i = some x → i = 1 ∧ x = .br [] := fun i x h => by
    rw [valG_cons, valG_nil] at h
    split at h
    · rename_i e; cases h; exact ⟨e.symm, rfl⟩
    · cases h
  have hk : ∀ i, i ∈ keys [((1 : Int), Bx.br [])] ↔ i = 1 := fun i => by simp [keys]
  refine ⟨⟨by simp [keys], by simp [keys], fun i => by simp [keys], fun i hi => ?_, fun i hi => ?_, fun i x h j hj => ?_⟩, fun i hi => ?_, fun i x h => ?_, fun i hi => ?_, fun t ht => ?_, by simp [keys], fun i hi => by simp [keys] at hi⟩
  · rw [hk] at hi
    subst hi
    rfl
  · rw [hk]
    simpa [vals] using hi
  · obtain ⟨_, rfl⟩ := hv i x h
    cases hj
  · rw [hk] at hi
    subst hi
    decide
  · obtain ⟨rfl, rfl⟩ := hv i x h
    exact ⟨fun r hr => (by cases hr), fun r hr => (by cases hr), List.Pairwise.nil, by decide⟩
  · rw [hk] at hi
    subst hi
    decide
  · have : t = 1 := by simpa [vals] using ht
    subst this
    exact ⟨[], rfl⟩
/-- i puts at the path a -/
structure AP (i : Nat) (m : Mem) (s p b c h : Nat) (bs : List (Int × Bx)) (cs : List (Int × Int)) : Prop where
  X : SX m s p b c h bs cs (1 + 2 * i) ((1 + 2 * i : Nat) : Int) [] 0
  ks : ∀ j, j ∈ keys bs ↔ (j = ((1 + 2 * i : Nat) : Int) ∨ (0 < i ∧ j = ((2 * i : Nat) : Int)))
  top : inRows bs (some ((1 + 2 * i : Nat) : Int)) = if i = 0 then [] else [(("a" : Str), ((2 * i : Nat) : Int))]
  kva : kv bs (some ((1 + 2 * i : Nat) : Int)) [("a" : Str)] = if i = 0 then none else some (some ((i : Int) - 1))
theorem gN_a : gN "a" := ⟨by decide +kernel, by decide +kernel, by decide +kernel⟩
theorem plc_a (v w : Int) : plc ("a" : Str) v false [(("a" : Str), w)] = [(("a" : Str), v)] := by
  have : ¬ slt ("a" : Str) ("a" : Str) := slt_irrefl _
  simp [plc, this]
theorem ap_step {i : Nat} {m : Mem} {s p b c h : Nat} {bs : List (Int × Bx)} {cs : List (Int × Int)} (A : AP i m s p b c h bs cs) (hi : i < 400) :
    ∃ bs' cs' m', m_Store_put [.loc s, .lst [.str "a"], .int i] m = .ok (.int (if i = 0 then 1 else 2)) m' ∧ AP (i + 1) m' s p b c h bs' cs' ∧ SFr m m' s p b c h := by
  have hK : (1 + 2 * i) ≤ 890 := by omega
  rcases put_eff A.X hK (x := .lst [.str "a"]) (ns := ["a"]) (.inl rfl) (fun n hn => by rw [List.mem_singleton] at hn; rw [hn]; exact gN_a) (by simp) (by simp) (v := i) (by omega) with ⟨⟨j, hj, u, e⟩, _⟩ | ⟨_, ⟨e, _⟩ | ⟨e, _⟩ | ⟨_, _, bs', cs', g, m', e, X', F, E⟩⟩
  · have : j = 0 := by simpa using hj
    subst this
    obtain ⟨rows, hr⟩ := A.X.I.br _ (.head _)
    have e : kvB bs (some ((1 + 2 * i : Nat) : Int)) = some (some u) := e
    unfold kvB at e
    simp only [hr] at e
    cases e
  · rw [A.kva] at e
    split at e <;> cases e
  · rw [A.kva] at e
    split at e
    · cases e
    · have := Option.some.inj (Option.some.inj e)
      omega
  · have eK : 1 + 2 * i + 1 + [("a" : Str)].length = 1 + 2 * (i + 1) := by simp; omega
    rw [eK] at X' E
    have hrow := E.rows 0 (by simp)
    have hlf := E.leaf i rfl
    have e1 : ((1 + 2 * i : Nat) : Int) + 1 = ((2 * (i + 1) : Nat) : Int) := by omega
    have e2 : ((1 + 2 * (i + 1) : Nat) : Int) - ((0 : Nat) : Int) = ((1 + 2 * (i + 1) : Nat) : Int) := by omega
    rw [e1] at hlf
    rw [e2] at hrow
    have hrow : valG bs' ((1 + 2 * (i + 1) : Nat) : Int) = some (.br [("a", ((2 * (i + 1) : Nat) : Int))]) := by
      rw [hrow]
      simp only [List.length_singleton, Nat.zero_add, Nat.lt_irrefl, if_false, Option.map_some, List.take_zero, e1]
      show some (Bx.br (rbRows bs (some _) "a" (some _))) = _
      unfold rbRows
      rw [A.top]
      congr 2
      show plc _ _ _ _ = _
      split
      · rfl
      · exact plc_a _ _
    have hks : ∀ j, j ∈ keys bs' ↔ (j = ((1 + 2 * (i + 1) : Nat) : Int) ∨ (0 < i + 1 ∧ j = ((2 * (i + 1) : Nat) : Int))) := fun j => by
      constructor
      · intro hj
        -- from above
        have : ∀ n : Nat, ∀ j, j ∈ keys bs' → ((1 + 2 * (i + 1) : Nat) : Int) - j < n → (j = ((1 + 2 * (i + 1) : Nat) : Int) ∨ (0 < i + 1 ∧ j = ((2 * (i + 1) : Nat) : Int))) := by
          intro n
          induction n with
          | zero => intro j hj h; have := (X'.I.le j hj).2; omega
          | succ n ih =>
            intro j hj h
            by_cases z : j = ((1 + 2 * (i + 1) : Nat) : Int)
            · exact .inl z
            · right
              have hp := X'.I.P j hj
              have h0 : (((1 + 2 * (i + 1) : Nat) : Int) :: vals ([] : List (Int × Int))).count j = 0 := List.count_eq_zero_of_not_mem (by simpa [vals] using z)
              rw [h0] at hp
              obtain ⟨q, hq, hin⟩ := refs_of (bs := bs') (i := j) (by omega)
              have hv := valG_of_mem X'.I.E.nd (show (q.1, q.2) ∈ bs' from hq)
              rw [inner_rows] at hin
              obtain ⟨r, hr, hr2⟩ := List.mem_map.mp hin
              have hd := (X'.I.T _ _ hv).dn r hr
              have hq1 := ih q.1 (mem_keys_of hv) (by omega)
              rcases hq1 with hq1 | ⟨_, hq1⟩
              · rw [hq1, hrow] at hv
                rw [← Option.some.inj hv] at hr
                have hr : r = (("a" : Str), ((2 * (i + 1) : Nat) : Int)) := List.mem_singleton.mp hr
                refine ⟨by omega, ?_⟩
                rw [← hr2, hr]
              · rw [hq1, hlf] at hv
                rw [← Option.some.inj hv] at hr
                cases hr
        exact this (2 * (i + 1) + 2) j hj (by have := (X'.I.le j hj).1; omega)
      · rintro (rfl | ⟨_, rfl⟩)
        · exact mem_keys_of hrow
        · exact mem_keys_of hlf
    have hg : g = if i = 0 then 1 else 2 := by
      rw [E.gone]
      have hall : (keys bs).filter (fun i => decide (i ∉ keys bs')) = keys bs := by
        refine List.filter_eq_self.mpr fun j hj => decide_eq_true ?_
        intro z
        have h1 := (A.ks j).mp hj
        have h2 := (hks j).mp z
        omega
      rw [hall]
      by_cases z : i = 0
      · subst z
        have hp : (keys bs).Perm [1] := (List.perm_ext_iff_of_nodup A.X.I.E.nd (by simp)).mpr fun j => by rw [A.ks]; simp
        rw [hp.length_eq]
        rfl
      · have hp : (keys bs).Perm [((1 + 2 * i : Nat) : Int), ((2 * i : Nat) : Int)] := (List.perm_ext_iff_of_nodup A.X.I.E.nd (by simp; omega)).mpr fun j => by
          rw [A.ks]
          simp only [List.mem_cons, List.not_mem_nil, or_false]
          omega
        rw [hp.length_eq, if_neg z]
        rfl
    rw [hg] at e
    refine ⟨bs', cs', m', e, ⟨X', hks, ?_, ?_⟩, F⟩
    · rw [inRows_of hrow, if_neg (by omega)]
      rfl
    · rw [kv_cons, inRows_of hrow]
      show kv bs' (valG [(("a" : Str), ((2 * (i + 1) : Nat) : Int))] "a") [] = _
      rw [valG_cons, if_pos rfl, kv_leaf hlf, if_pos rfl, if_neg (by omega)]
      congr 2
      omega
theorem ap0 {m : Mem} {s p b c h : Nat} (S : SAt m s p b c h [(1, .br [])] [(1, 1)] 1 1 [] 0) : AP 0 m s p b c h [(1, .br [])] [(1, 1)] :=
  ⟨⟨S, si0⟩, fun j => by simp [keys], rfl, rfl⟩
theorem ap_kept {i : Nat} {m : Mem} {s p b c h : Nat} {bs : List (Int × Bx)} {cs : List (Int × Int)} (A : AP (i + 1) m s p b c h bs cs) : (keys bs).mergeSort ile = [((2 * i : Nat) : Int) + 2, ((2 * i : Nat) : Int) + 3] :=
  sort_is A.X.I.E.nd (by simp) fun j => by
    rw [A.ks]
    simp only [List.mem_cons, List.not_mem_nil, or_false]
    omega
end Law
/-! A4_k05 -/
set_option Elab.async false
set_option linter.all false
set_option maxRecDepth 100000
set_option autoImplicit false
set_option maxHeartbeats 1000000
/-! A4: a store filled by puts, refused ones left out -/
namespace Law
open PySem PySem.Spec PyProof.Rows L2 Sn

theorem fin_loc {m m' : Mem} {n : Nat} (h : m.length ≤ n) : fin m (.rt (.loc n) m') = .ok (.loc n) m' := by
  rw [fin_rt_eq, if_neg]
  rintro ⟨_, z⟩
  have := of_decide_eq_true z
  omega
theorem SX.lt {m : Mem} {s p b c h : Nat} {bs : List (Int × Bx)} {cs : List (Int × Int)} {K taken : Nat} {live : Int} {sh : List (Int × Int)} (X : SX m s p b c h bs cs K live sh taken) : ∀ k, k = s ∨ k = p ∨ k = b ∨ k = c ∨ k = h → k < m.length := by
  have l1 := X.S.ls
  have l2 := X.S.P.lp
  have l3 := X.S.P.lb
  have l4 := X.S.P.lc
  have l5 := X.S.lh
  rintro k (rfl | rfl | rfl | rfl | rfl) <;> assumption
theorem SX.app {m : Mem} {s p b c h : Nat} {bs : List (Int × Bx)} {cs : List (Int × Int)} {K taken : Nat} {live : Int} {sh : List (Int × Int)} (X : SX m s p b c h bs cs K live sh taken) (x : Mem) : SX (m ++ x) s p b c h bs cs K live sh taken := X.of fun k hk => List.getElem?_append_left (X.lt k hk)
end Law
/-! L_k05 -/
set_option Elab.async false
set_option linter.all false
set_option maxRecDepth 100000
set_option autoImplicit false
set_option maxHeartbeats 1000000
namespace Law
open PySem PySem.Spec PyProof.Rows L2 Sn

/-! ### what is refused -/
section
variable {m : Mem} {s p b c h : Nat} {bs : List (Int × Bx)} {cs : List (Int × Int)} {K : Nat} {live : Int} {sh : List (Int × Int)} {taken : Nat}
/-- what top refuses -/
def OddV (m : Mem) (sh : List (Int × Int)) (d : Dv) : Prop := (∃ t, tyOf m d = some t ∧ t ≠ .int ∧ t ≠ .bool ∧ Sn.isNon d = false) ∨ (∃ x, d = .bl x) ∨ ∃ i, d = .int i ∧ valG sh i = none
theorem top_no (S : SAt m s p b c h bs cs (K : Int) live sh (taken : Int)) {d : Dv} (hd : OddV m sh d) : m_Store_top [.loc s, d] m = .exc 6 m := by
  unfold m_Store_top mkFn bd_Store_top
  rcases hd with ⟨t, h1, h2, h3, h4⟩ | ⟨x, rfl⟩ | ⟨i, rfl, h⟩
  · simp [h1, h2, h3, h4]
  · simp
  · simp [↓S.hs, ↓S.hh, valG_kC, h]
theorem oddV_non {d : Dv} (hd : OddV m sh d) : Sn.isNon d = false := by
  rcases hd with ⟨t, _, _, _, h4⟩ | ⟨x, rfl⟩ | ⟨i, rfl, _⟩
  · exact h4
  · rfl
  · rfl
theorem drop_no (S : SAt m s p b c h bs cs (K : Int) live sh (taken : Int)) {d : Dv} (hd : d = .non ∨ OddV m sh d) : m_Store_drop [.loc s, d] m = .exc 6 m := by
  unfold m_Store_drop mkFn bd_Store_drop
  rcases hd with rfl | hd
  · simp
  · have := oddV_non hd
    simp [this, S.hs, top_no S hd]
theorem back_no (S : SAt m s p b c h bs cs (K : Int) live sh (taken : Int)) {d : Dv} (hd : d = .non ∨ OddV m sh d) : m_Store_back [.loc s, d] m = .exc 6 m := by
  unfold m_Store_back mkFn bd_Store_back
  rcases hd with rfl | hd
  · simp
  · have := oddV_non hd
    simp [this, S.hs, top_no S hd]
theorem kind_noV (S : SAt m s p b c h bs cs (K : Int) live sh (taken : Int)) {d x : Dv} (hd : OddV m sh d) : m_Store_kind [.loc s, d, x] m = .exc 6 m := by
  unfold m_Store_kind mkFn bd_Store_kind
  simp [S.hs, top_no S hd]
theorem kind_noP (S : SAt m s p b c h bs cs (K : Int) live sh (taken : Int)) {v : Option Int} {t : Int} (hv : vw0 live sh v = some t) {x : Dv} (hx : m_checked [x] m = .exc 1 m) : m_Store_kind [.loc s, oD v, x] m = .exc 1 m := by
  have h1 := top_ok S hv
  unfold m_Store_kind mkFn bd_Store_kind
  simp [S.hs, h1, hx]
theorem value_exc {d x : Dv} {e : XC} (hk : m_Store_kind [.loc s, d, x] m = .exc e m) (hs : ∃ C ds, m[s]? = some (.ins C ds) ∧ C = 1) : m_Store_value [.loc s, d, x] m = .exc e m := by
  obtain ⟨C, ds, h1, rfl⟩ := hs
  unfold m_Store_value mkFn bd_Store_value
  simp [h1, hk]
theorem names_exc {d x : Dv} {e : XC} (hk : m_Store_kind [.loc s, d, x] m = .exc e m) (hs : ∃ C ds, m[s]? = some (.ins C ds) ∧ C = 1) : m_Store_names [.loc s, d, x] m = .exc e m := by
  obtain ⟨C, ds, h1, rfl⟩ := hs
  unfold m_Store_names mkFn bd_Store_names
  simp [h1, hk]
theorem put_noP {x v : Dv} (hx : m_checked [x] m = .exc 1 m) : m_Store_put [.loc s, x, v] m = .exc 1 m := by
  unfold m_Store_put mkFn bd_Store_put
  simp [hx]
theorem cut_noP {x : Dv} (hx : m_checked [x] m = .exc 1 m) : m_Store_cut [.loc s, x] m = .exc 1 m := by
  unfold m_Store_cut mkFn bd_Store_cut
  simp [hx]
theorem chk_nil (m : Mem) : m_checked [.lst []] m = .ok (.lst []) m := by
  have := checked_ok (m := m) (x := .lst []) (ds := []) (.inl rfl) (fun d hd => by cases hd)
  exact this
theorem put_top {v : Dv} : m_Store_put [.loc s, .lst [], v] m = .exc 1 m := by
  have := ne_nil (ns := []) (fun n hn => by cases hn) m
  have : eqD (.lst []) (.lst []) m = .ok (.bl true) m := by simpa using this
  unfold m_Store_put mkFn bd_Store_put
  simp [chk_nil, this]
theorem cut_top : m_Store_cut [.loc s, .lst []] m = .exc 1 m := by
  have := ne_nil (ns := []) (fun n hn => by cases hn) m
  have : eqD (.lst []) (.lst []) m = .ok (.bl true) m := by simpa using this
  unfold m_Store_cut mkFn bd_Store_cut
  simp [chk_nil, this]
/-- what put refuses as a number -/
def OddN (m : Mem) (d : Dv) : Prop := (∃ t, tyOf m d = some t ∧ t ≠ .int ∧ t ≠ .bool) ∨ (∃ x, d = .bl x) ∨ ∃ i, d = .int i ∧ (i ≤ -1000000000000000000000000000000 ∨ 1000000000000000000000000000000 ≤ i)
theorem put_noN {q : List Str} (hn : ∀ n ∈ q, gN n) (hne : q ≠ []) (hl : q.length ≤ 8) {v : Dv} (hv : OddN m v) : m_Store_put [.loc s, .lst (q.map Dv.str), v] m = .exc 2 m := by
  have h1 := names_ok (m := m) (x := .lst (q.map Dv.str)) (.inl rfl) hn hl
  have h2 := ne_nil hn m
  rw [decide_eq_false hne] at h2
  unfold m_Store_put mkFn bd_Store_put
  generalize q.map Dv.str = pl at h1 h2
  rcases hv with ⟨t, g1, g2, g3⟩ | ⟨x, rfl⟩ | ⟨i, rfl, g⟩
  · simp [h1, h2, g1, g2, g3]
  · simp [h1, h2]
  · have g2 : 1000000000000000000000000000000 ≤ if i < 0 then -i else i := by split <;> omega
    simp [h1, h2, g2]
/-! by kinds -/
theorem value_none {d x : Dv} (hk : m_Store_kind [.loc s, d, x] m = .ok .non m) (hs : ∃ ds, m[s]? = some (.ins 1 ds)) : m_Store_value [.loc s, d, x] m = .exc 3 m := by
  obtain ⟨ds, h1⟩ := hs
  unfold m_Store_value mkFn bd_Store_value
  simp [h1, hk]
theorem value_branch {d x : Dv} (hk : m_Store_kind [.loc s, d, x] m = .ok (.str "branch") m) (hs : ∃ ds, m[s]? = some (.ins 1 ds)) : m_Store_value [.loc s, d, x] m = .exc 5 m := by
  obtain ⟨ds, h1⟩ := hs
  unfold m_Store_value mkFn bd_Store_value
  simp [h1, hk]
theorem names_none {d x : Dv} (hk : m_Store_kind [.loc s, d, x] m = .ok .non m) (hs : ∃ ds, m[s]? = some (.ins 1 ds)) : m_Store_names [.loc s, d, x] m = .exc 3 m := by
  obtain ⟨ds, h1⟩ := hs
  unfold m_Store_names mkFn bd_Store_names
  simp [h1, hk]
theorem names_leaf {d x : Dv} (hk : m_Store_kind [.loc s, d, x] m = .ok (.str "leaf") m) (hs : ∃ ds, m[s]? = some (.ins 1 ds)) : m_Store_names [.loc s, d, x] m = .exc 4 m := by
  obtain ⟨ds, h1⟩ := hs
  unfold m_Store_names mkFn bd_Store_names
  simp [h1, hk]
/-! nothing changed -/
theorem changes_same (S : SAt m s p b c h bs cs (K : Int) live sh (taken : Int)) {v w : Option Int} {t : Int} (hv : vw0 live sh v = some t) (hw : vw0 live sh w = some t) : ∃ d, m_Store_changes [.loc s, oD v, oD w] m = .ok d m := by
  have h1 := top_ok S hv
  have h2 := top_ok S hw
  have hd : ∃ d, m_differences [.loc p, .int t, .int t] m = .ok d m := by
    refine ⟨.tup [.lst [], .int 0], ?_⟩
    have hF := fin_rtA (m := m) (d := .tup [.lst [], .int 0]) [MO.lst [], MO.lst []] rfl
    have g0 : (m ++ [MO.lst [.tup [.lst [], .int t, .int t]], MO.lst []])[m.length]? = some (.lst [.tup [.lst [], .int t, .int t]]) := by simp
    have g1 : (m ++ [MO.lst [], MO.lst []])[m.length]? = some (.lst []) := by simp
    have g2 : (m ++ [MO.lst [], MO.lst []])[m.length + 1]? = some (.lst []) := by simp
    have s0 : (m ++ [MO.lst [.tup [.lst [], .int t, .int t]], MO.lst []]).set m.length (.lst []) = m ++ [MO.lst [], MO.lst []] := by simp
    have t0 : tTruth (eVar 3) [some (.loc p), some (.int t), some (.int t), some (.loc m.length), some (.loc (m.length + 1)), some (.int 0), none, none, none, none, none, none, none] (m ++ [MO.lst [.tup [.lst [], .int t, .int t]], MO.lst []]) = .ok true (m ++ [MO.lst [.tup [.lst [], .int t, .int t]], MO.lst []]) := by
      simp [↓g0]
    have b0 : lw_differences_2 [some (.loc p), some (.int t), some (.int t), some (.loc m.length), some (.loc (m.length + 1)), some (.int 0), none, none, none, none, none, none, none] (m ++ [MO.lst [.tup [.lst [], .int t, .int t]], MO.lst []]) =
        .nx [some (.loc p), some (.int t), some (.int t), some (.loc m.length), some (.loc (m.length + 1)), some (.int 0), some (.tup [.lst [], .int t, .int t]), none, none, none, none, none, none] (m ++ [MO.lst [], MO.lst []]) := by
      unfold lw_differences_2
      simp [↓g0, ↓s0]
    have t1 : tTruth (eVar 3) [some (.loc p), some (.int t), some (.int t), some (.loc m.length), some (.loc (m.length + 1)), some (.int 0), some (.tup [.lst [], .int t, .int t]), none, none, none, none, none, none] (m ++ [MO.lst [], MO.lst []]) = .ok false (m ++ [MO.lst [], MO.lst []]) := by
      simp [↓g1]
    obtain ⟨k, hk⟩ : ∃ k, fuelN = k + 1 + 1 := ⟨fuelN - 2, by decide⟩
    have hw2 : sWhile fuelN (tTruth (eVar 3)) lw_differences_2 [some (.loc p), some (.int t), some (.int t), some (.loc m.length), some (.loc (m.length + 1)), some (.int 0), none, none, none, none, none, none, none] (m ++ [MO.lst [.tup [.lst [], .int t, .int t]], MO.lst []]) =
        .nx [some (.loc p), some (.int t), some (.int t), some (.loc m.length), some (.loc (m.length + 1)), some (.int 0), some (.tup [.lst [], .int t, .int t]), none, none, none, none, none, none] (m ++ [MO.lst [], MO.lst []]) := by
      show whileM _ _ fuelN _ _ = _
      rw [hk, while_one _ _ _ t0 b0, while_nil _ _ _ t1]
    have hs : sortK0 (eVar 4) (eC (.fn 0)) [some (.loc p), some (.int t), some (.int t), some (.loc m.length), some (.loc (m.length + 1)), some (.int 0), some (.tup [.lst [], .int t, .int t]), none, none, none, none, none, none] (m ++ [MO.lst [], MO.lst []]) = .ok (.lst []) (m ++ [MO.lst [], MO.lst []]) := by
      unfold sortK0
      simp [↓g2, mkLst]
    unfold m_differences mkFn bd_differences
    simp [↓hw2, ↓hs, hF]
  obtain ⟨d, hd⟩ := hd
  refine ⟨d, ?_⟩
  have hF : fin m (.rt d m) = .ok d m := by rw [fin_rt_eq]; split <;> rfl
  unfold m_Store_changes mkFn bd_Store_changes
  simp [S.hs, h1, h2, hd, hF]
theorem changes_no1 (S : SAt m s p b c h bs cs (K : Int) live sh (taken : Int)) {v : Option Int} {t : Int} (hv : vw0 live sh v = some t) {d : Dv} (hd : OddV m sh d) : m_Store_changes [.loc s, oD v, d] m = .exc 6 m := by
  unfold m_Store_changes mkFn bd_Store_changes
  simp [S.hs, top_ok S hv, top_no S hd]
theorem changes_no2 (S : SAt m s p b c h bs cs (K : Int) live sh (taken : Int)) {d e : Dv} (hd : OddV m sh d) : m_Store_changes [.loc s, d, e] m = .exc 6 m := by
  unfold m_Store_changes mkFn bd_Store_changes
  simp [S.hs, top_no S hd]
end


/-! ### told -/
section
variable {m : Mem} {s p b c h : Nat} {bs : List (Int × Bx)} {cs : List (Int × Int)} {K : Nat} {live : Int} {sh : List (Int × Int)} {taken : Nat}
def txt : XC → Option Str
  | 1 => some "path"
  | 2 => some "number"
  | 3 => some "nothing"
  | 4 => some "leaf"
  | 5 => some "branch"
  | 6 => some "shot"
  | _ => none
theorem told_exc {way x n v : Dv} {e : XC} {z : Str} (hz : txt e = some z) (hk : m_l_asked [.loc s, way, x, n, v] m = .exc e m) : m_l_told [.loc s, way, x, n, v] m = .ok (.str (z ++ " value")) m := by
  have hF : ∀ d : Str, fin m (.rt (.str d) m) = .ok (.str d) m := fun d => by rw [fin_rt_eq, if_pos ⟨by simp, rfl⟩]
  have e1 : ("path" : Str) ++ " value" = "path value" := by decide +kernel
  have e2 : ("number" : Str) ++ " value" = "number value" := by decide +kernel
  have e3 : ("nothing" : Str) ++ " value" = "nothing value" := by decide +kernel
  have e4 : ("leaf" : Str) ++ " value" = "leaf value" := by decide +kernel
  have e5 : ("branch" : Str) ++ " value" = "branch value" := by decide +kernel
  have e6 : ("shot" : Str) ++ " value" = "shot value" := by decide +kernel
  unfold txt at hz
  unfold m_l_told mkFn bd_l_told
  split at hz <;> cases hz
  · simp [hk, List.lookup, e1, hF]
  · simp [hk, List.lookup, e2, hF]
  · simp [hk, List.lookup, e3, hF]
  · simp [hk, List.lookup, e4, hF]
  · simp [hk, List.lookup, e5, hF]
  · simp [hk, List.lookup, e6, hF]
theorem told_ok {way x n v d : Dv} {m' : Mem} (hk : m_l_asked [.loc s, way, x, n, v] m = .ok d m') : ∃ m'', m_l_told [.loc s, way, x, n, v] m = .ok (.str "") m'' := by
  have hF : ∃ m'', fin m (.rt (.str "") m') = .ok (.str "") m'' := by
    rw [fin_rt_eq]
    split
    · exact ⟨_, rfl⟩
    · exact ⟨_, rfl⟩
  obtain ⟨m'', hF⟩ := hF
  refine ⟨m'', ?_⟩
  unfold m_l_told mkFn bd_l_told
  simp [hk, hF]
theorem fin_nxE (m m' : Mem) (l : Lc) : ∃ m'', fin m (.nx l m') = .ok .non m'' := by
  rw [fin_nx_eq]
  split
  · exact ⟨_, rfl⟩
  · exact ⟨_, rfl⟩
/-- one way's asking -/
structure Ask (m : Mem) (s : Nat) (way : Int) (x n v : Dv) (r : Res Dv) : Prop where
  exc : ∀ e, r = .exc e m → m_l_asked [.loc s, .int way, x, n, v] m = .exc e m
  ok : ∀ d m', r = .ok d m' → ∃ d' m'', m_l_asked [.loc s, .int way, x, n, v] m = .ok d' m''
theorem ask_ways (hs : ∃ ds, m[s]? = some (.ins 1 ds)) (x n v : Dv) :
    Ask m s 0 x n v (m_Store_put [.loc s, x, n] m) ∧ Ask m s 1 x n v (m_Store_cut [.loc s, x] m) ∧ Ask m s 2 x n v (m_Store_drop [.loc s, v] m) ∧ Ask m s 3 x n v (m_Store_back [.loc s, v] m) ∧
    Ask m s 4 x n v (m_Store_value [.loc s, v, x] m) ∧ Ask m s 5 x n v (m_Store_names [.loc s, v, x] m) ∧ Ask m s 6 x n v (m_Store_kind [.loc s, v, x] m) ∧ Ask m s 7 x n v (m_Store_changes [.loc s, .non, v] m) ∧
    Ask m s 8 x n v (m_Store_changes [.loc s, v, .int 1] m) ∧ Ask m s 9 x n v (m_Store_top [.loc s, v] m) := by
  obtain ⟨ds, hs⟩ := hs
  refine ⟨⟨fun e h => ?_, fun d m' h => ?_⟩, ⟨fun e h => ?_, fun d m' h => ?_⟩, ⟨fun e h => ?_, fun d m' h => ?_⟩, ⟨fun e h => ?_, fun d m' h => ?_⟩, ⟨fun e h => ?_, fun d m' h => ?_⟩, ⟨fun e h => ?_, fun d m' h => ?_⟩, ⟨fun e h => ?_, fun d m' h => ?_⟩, ⟨fun e h => ?_, fun d m' h => ?_⟩, ⟨fun e h => ?_, fun d m' h => ?_⟩, ⟨fun e h => ?_, fun d m' h => ?_⟩⟩
  all_goals first
    | (unfold m_l_asked mkFn bd_l_asked; simp [hs, h]; done)
    | (refine ⟨.non, ?_⟩
       unfold m_l_asked mkFn bd_l_asked
       simp [hs, h]
       exact fin_nxE _ _ _)
/-- no leaf above -/
def Free (bs : List (Int × Bx)) (live : Int) (q : List Str) : Prop := ∀ j, j < q.length → ∀ u, kv bs (some live) (q.take j) ≠ some (some u)
/-- how a path stands -/
def PK (bs : List (Int × Bx)) (live : Int) (at' : Int) (q : List Str) : Prop :=
  (at' = 0 ∧ q ≠ [] ∧ kv bs (some live) q = some none ∧ Free bs live q) ∨ ((at' = 1 ∨ at' = 2) ∧ q ≠ [] ∧ (∃ u, kv bs (some live) q = some (some u)) ∧ Free bs live q) ∨
  ((at' = 3 ∨ at' = 4 ∨ at' = 7) ∧ q ≠ [] ∧ kv bs (some live) q = none ∧ ∃ j, j < q.length ∧ ∃ u, kv bs (some live) (q.take j) = some (some u)) ∨ ((at' = 5 ∨ at' = 6) ∧ q ≠ [] ∧ kv bs (some live) q = none ∧ Free bs live q) ∨ (at' = 8 ∧ q = [] ∧ kv bs (some live) q = some none)
theorem kindD_br {q : List Str} (hk : kv bs (some live) q = some none) : kindD bs (fnd bs (some live) q) = .str "branch" := by
  obtain ⟨i, rows, f1, f2⟩ := kv_is_br hk
  rw [f1]
  unfold kindD
  simp only [f2]
theorem kindD_lf {q : List Str} {u : Int} (hk : kv bs (some live) q = some (some u)) : kindD bs (fnd bs (some live) q) = .str "leaf" := by
  obtain ⟨i, f1, f2⟩ := kv_is_leaf hk
  rw [f1]
  unfold kindD
  simp only [f2]
theorem kindD_no {q : List Str} (W : Wf bs) (T : There bs (some live)) (hk : kv bs (some live) q = none) : kindD bs (fnd bs (some live) q) = .non := by
  rw [kv_is_none W T hk] <;> rfl
/-- what is due, and what is told -/
def Told (m : Mem) (s : Nat) (way at' nb vi : Int) (x n v : Dv) : Prop :=
  ∃ d : Str, (∀ M, m_l_due [.int way, .int at', .int nb, .int vi] M = .ok (.str d) M) ∧
    ((d = "" ∧ ∃ m', m_l_told [.loc s, .int way, x, n, v] m = .ok (.str "") m') ∨ (d ≠ "" ∧ d.length ≤ 100 ∧ m_l_told [.loc s, .int way, x, n, v] m = .ok (.str (d ++ " value")) m))
theorem Told.exc {way at' nb vi : Int} {x n v : Dv} {r : Res Dv} (A : Ask m s way x n v r) {e : XC} {d : Str} (h : r = .exc e m) (hd : txt e = some d) (hdue : ∀ M, m_l_due [.int way, .int at', .int nb, .int vi] M = .ok (.str d) M) : Told m s way at' nb vi x n v := by
  refine ⟨d, hdue, .inr ⟨?_, ?_, told_exc hd (A.exc e h)⟩⟩
  · unfold txt at hd
    split at hd <;> cases hd <;> decide +kernel
  · unfold txt at hd
    split at hd <;> cases hd <;> decide +kernel
theorem Told.ok {way at' nb vi : Int} {x n v : Dv} {r : Res Dv} (A : Ask m s way x n v r) {d : Dv} {m' : Mem} (h : r = .ok d m') (hdue : ∀ M, m_l_due [.int way, .int at', .int nb, .int vi] M = .ok (.str "") M) : Told m s way at' nb vi x n v := by
  obtain ⟨d', m'', e⟩ := A.ok d m' h
  exact ⟨"", hdue, .inl ⟨rfl, told_ok e⟩⟩
end

/-! ### what is due -/
section
variable {way a nb vi : Int}
theorem due_path (hw : way = 0 ∨ way = 1) (h : 8 ≤ a) (M : Mem) : m_l_due [.int way, .int a, .int nb, .int vi] M = .ok (.str "path") M := by
  unfold m_l_due mkFn bd_l_due
  rcases hw with rfl | rfl <;> simp [h]
theorem due0_number (h : a < 8) (h2 : 4 < nb) (M : Mem) : m_l_due [.int 0, .int a, .int nb, .int vi] M = .ok (.str "number") M := by
  have h3 : ¬ 8 ≤ a := by omega
  unfold m_l_due mkFn bd_l_due
  simp [h3, h2]
theorem due0_leaf (h : a = 3 ∨ a = 4 ∨ a = 7) (h2 : nb ≤ 4) (M : Mem) : m_l_due [.int 0, .int a, .int nb, .int vi] M = .ok (.str "leaf") M := by
  have h3 : ¬ 4 < nb := by omega
  have hi := inD_int a [3, 4, 7] M
  have hi : inD (.int a) (.lst [.int 3, .int 4, .int 7]) M = _ := hi
  unfold m_l_due mkFn bd_l_due
  rcases h with rfl | rfl | rfl <;> simp [h3, hi, mkLst]
theorem due0_branch (h2 : nb ≤ 4) (M : Mem) : m_l_due [.int 0, .int 0, .int nb, .int vi] M = .ok (.str "branch") M := by
  have h3 : ¬ 4 < nb := by omega
  have hi := inD_int 0 [3, 4, 7] M
  have hi : inD (.int 0) (.lst [.int 3, .int 4, .int 7]) M = _ := hi
  unfold m_l_due mkFn bd_l_due
  simp [h3, hi, mkLst]
theorem due0_ok (h : a = 1 ∨ a = 2 ∨ a = 5 ∨ a = 6) (h2 : nb ≤ 4) (M : Mem) : m_l_due [.int 0, .int a, .int nb, .int vi] M = .ok (.str "") M := by
  have h3 : ¬ 4 < nb := by omega
  have hi := inD_int a [3, 4, 7] M
  have hi : inD (.int a) (.lst [.int 3, .int 4, .int 7]) M = _ := hi
  unfold m_l_due mkFn bd_l_due
  rcases h with rfl | rfl | rfl | rfl <;> simp [h3, hi, mkLst]
theorem due1_nothing (h : 2 < a) (h2 : a < 8) (M : Mem) : m_l_due [.int 1, .int a, .int nb, .int vi] M = .ok (.str "nothing") M := by
  have h3 : ¬ 8 ≤ a := by omega
  unfold m_l_due mkFn bd_l_due
  simp [h3, h]
theorem due1_ok (h : a ≤ 2) (M : Mem) : m_l_due [.int 1, .int a, .int nb, .int vi] M = .ok (.str "") M := by
  have h3 : ¬ 8 ≤ a := by omega
  have h4 : ¬ 2 < a := by omega
  unfold m_l_due mkFn bd_l_due
  simp [h3, h4]
theorem dueV (h : 1 < way) {d : Str} (hd : ∀ M, m_l_due_of_view [.int way, .int a, .int vi] M = .ok (.str d) M) (M : Mem) : m_l_due [.int way, .int a, .int nb, .int vi] M = .ok (.str d) M := by
  unfold m_l_due mkFn bd_l_due
  simp [h, hd]
theorem dueV_shot (h : vi < 0 ∨ (vi = 0 ∧ way < 4)) (M : Mem) : m_l_due_of_view [.int way, .int a, .int vi] M = .ok (.str "shot") M := by
  unfold m_l_due_of_view mkFn bd_l_due_of_view
  rcases h with h | ⟨rfl, h⟩
  · simp [h]
  · simp [h]
theorem dueV_ok (h : (way = 2 ∨ way = 3) ∧ vi = 1 ∨ (6 < way ∧ 0 ≤ vi)) (M : Mem) : m_l_due_of_view [.int way, .int a, .int vi] M = .ok (.str "") M := by
  unfold m_l_due_of_view mkFn bd_l_due_of_view
  rcases h with ⟨rfl | rfl, rfl⟩ | ⟨h, h2⟩
  · simp
  · simp
  · have h3 : ¬ vi < 0 := by omega
    have h4 : ¬ way < 4 := by omega
    have h5 : way ≠ 2 := by omega
    have h6 : way ≠ 3 := by omega
    simp [h3, h4, h5, h6, h]
theorem dueV_path (h : way = 4 ∨ way = 5 ∨ way = 6) (h2 : 0 ≤ vi) (h3 : 8 < a) (M : Mem) : m_l_due_of_view [.int way, .int a, .int vi] M = .ok (.str "path") M := by
  have h4 : ¬ vi < 0 := by omega
  unfold m_l_due_of_view mkFn bd_l_due_of_view
  rcases h with rfl | rfl | rfl <;> simp [h4, h3]
theorem dueV_6 (h2 : 0 ≤ vi) (h3 : a ≤ 8) (M : Mem) : m_l_due_of_view [.int 6, .int a, .int vi] M = .ok (.str "") M := by
  have h4 : ¬ vi < 0 := by omega
  have h5 : ¬ 8 < a := by omega
  unfold m_l_due_of_view mkFn bd_l_due_of_view
  simp [h4, h5]
theorem dueV_nothing (h : way = 4 ∨ way = 5) (h2 : 0 ≤ vi) (h3 : a = 3 ∨ a = 4 ∨ a = 5 ∨ a = 6 ∨ a = 7) (M : Mem) : m_l_due_of_view [.int way, .int a, .int vi] M = .ok (.str "nothing") M := by
  have h4 : ¬ vi < 0 := by omega
  have hi := inD_int a [3, 4, 5, 6, 7] M
  have hi : inD (.int a) (.lst [.int 3, .int 4, .int 5, .int 6, .int 7]) M = _ := hi
  unfold m_l_due_of_view mkFn bd_l_due_of_view
  rcases h with rfl | rfl <;> rcases h3 with rfl | rfl | rfl | rfl | rfl <;> simp [h4, hi, mkLst]
theorem dueV_4 (h2 : 0 ≤ vi) (h3 : a = 0 ∨ a = 1 ∨ a = 2 ∨ a = 8) (M : Mem) : m_l_due_of_view [.int 4, .int a, .int vi] M = .ok (.str (if a = 0 ∨ a = 8 then "branch" else "")) M := by
  have h4 : ¬ vi < 0 := by omega
  have hi := inD_int a [3, 4, 5, 6, 7] M
  have hi : inD (.int a) (.lst [.int 3, .int 4, .int 5, .int 6, .int 7]) M = _ := hi
  have hj := inD_int a [0, 8] M
  have hj : inD (.int a) (.lst [.int 0, .int 8]) M = _ := hj
  unfold m_l_due_of_view mkFn bd_l_due_of_view
  rcases h3 with rfl | rfl | rfl | rfl <;> simp [h4, hi, hj, mkLst]
theorem dueV_5 (h2 : 0 ≤ vi) (h3 : a = 0 ∨ a = 1 ∨ a = 2 ∨ a = 8) (M : Mem) : m_l_due_of_view [.int 5, .int a, .int vi] M = .ok (.str (if a = 1 ∨ a = 2 then "leaf" else "")) M := by
  have h4 : ¬ vi < 0 := by omega
  have hi := inD_int a [3, 4, 5, 6, 7] M
  have hi : inD (.int a) (.lst [.int 3, .int 4, .int 5, .int 6, .int 7]) M = _ := hi
  have hj := inD_int a [1, 2] M
  have hj : inD (.int a) (.lst [.int 1, .int 2]) M = _ := hj
  unfold m_l_due_of_view mkFn bd_l_due_of_view
  rcases h3 with rfl | rfl | rfl | rfl <;> simp [h4, hi, hj, mkLst]
end

/-! ### all ways -/
section
variable {m : Mem} {s p b c h : Nat} {bs : List (Int × Bx)} {cs : List (Int × Int)} {K : Nat} {live : Int} {sh : List (Int × Int)} {taken : Nat}
theorem above_none {q : List Str} {j : Nat} (hj : j < q.length) {u : Int} (z : kv bs (some live) (q.take j) = some (some u)) : kv bs (some live) q = none := by
  obtain ⟨i, f1, f2⟩ := kv_is_leaf z
  have e3 : kv bs (some live) (q.take j ++ q.drop j) = none := by
    rw [kv_app, f1, kv_leaf f2, if_neg]
    intro z2
    have := congrArg List.length z2
    rw [List.length_drop] at this
    simp at this
    omega
  rw [List.take_append_drop] at e3
  exact e3
theorem told_all (X : SX m s p b c h bs cs K live sh taken) (hK : K ≤ 200) (h1 : valG sh 1 = some live) {way a nb vi : Int} {x n v : Dv} (hway : 0 ≤ way ∧ way ≤ 9)
    (hx : (a ≤ 8 ∧ ∃ q, x = .lst (q.map Dv.str) ∧ (∀ n ∈ q, gN n) ∧ q.length ≤ 8 ∧ PK bs live a q) ∨ (9 ≤ a ∧ m_checked [x] m = .exc 1 m))
    (hn : (nb ≤ 4 ∧ ∃ i : Int, n = .int i ∧ -1000000000000000000000000000000 < i ∧ i < 1000000000000000000000000000000) ∨ (4 < nb ∧ OddN m n))
    (hv : (vi = 0 ∧ v = .non) ∨ (vi = 1 ∧ v = .int 1) ∨ (vi = -1 ∧ OddV m sh v)) : Told m s way a nb vi x n v := by
  have W := X.I.wf (by omega)
  have T := X.I.tl
  have hs : ∃ ds, m[s]? = some (.ins 1 ds) := ⟨_, X.S.hs⟩
  have hs' : ∃ C ds, m[s]? = some (.ins C ds) ∧ C = 1 := ⟨1, _, X.S.hs, rfl⟩
  obtain ⟨A0, A1, A2, A3, A4, A5, A6, A7, A8, A9⟩ := ask_ways hs x n v
  -- the view
  have hview : (0 ≤ vi ∧ ∃ o : Option Int, v = oD o ∧ vw0 live sh o = some live ∧ (vi = 0 → v = .non) ∧ (vi ≠ 0 → vi = 1 ∧ v = .int 1)) ∨ (vi < 0 ∧ OddV m sh v) := by
    rcases hv with ⟨rfl, rfl⟩ | ⟨rfl, rfl⟩ | ⟨rfl, h⟩
    · exact .inl ⟨by omega, none, rfl, rfl, fun _ => rfl, fun z => absurd rfl z⟩
    · exact .inl ⟨by omega, some 1, rfl, h1, fun z => by omega, fun _ => ⟨rfl, rfl⟩⟩
    · exact .inr ⟨by omega, h⟩
  have w10 : way = 0 ∨ way = 1 ∨ way = 2 ∨ way = 3 ∨ way = 4 ∨ way = 5 ∨ way = 6 ∨ way = 7 ∨ way = 8 ∨ way = 9 := by omega
  -- kinds
  have hkind : ∀ o : Option Int, vw0 live sh o = some live → ∀ q : List Str, (∀ n ∈ q, gN n) → q.length ≤ 8 → m_Store_kind [.loc s, oD o, .lst (q.map Dv.str)] m = .ok (kindD bs (fnd bs (some live) q)) m := fun o ho q hq hl => kind_ok X.S W ho T (.inl rfl) hq hl
  rcases w10 with rfl | rfl | rfl | rfl | rfl | rfl | rfl | rfl | rfl | rfl
  · -- put
    rcases hx with ⟨ha, q, rfl, hg, hl, hq⟩ | ⟨ha, hb⟩
    · by_cases h8 : a = 8
      · rcases hq with ⟨z, _⟩ | ⟨z, _⟩ | ⟨z, _⟩ | ⟨z, _⟩ | ⟨_, rfl, _⟩
        · omega
        · omega
        · omega
        · omega
        · exact Told.exc A0 put_top rfl (due_path (.inl rfl) (by omega))
      · have hne : q ≠ [] := by
          rcases hq with ⟨_, z, _⟩ | ⟨_, z, _⟩ | ⟨_, z, _⟩ | ⟨_, z, _⟩ | ⟨z, _⟩
          · exact z
          · exact z
          · exact z
          · exact z
          · exact absurd z h8
        rcases hn with ⟨hnb, i, rfl, hi⟩ | ⟨hnb, ho⟩
        · have hp := put_eff X (by omega) (x := .lst (q.map Dv.str)) (.inl rfl) hg hne hl hi
          rcases hq with ⟨rfl, _, k1, k2⟩ | ⟨ha2, _, ⟨u, k1⟩, k2⟩ | ⟨ha2, _, k1, j, hj, u, k2⟩ | ⟨ha2, _, k1, k2⟩ | ⟨z, _⟩
          · rcases hp with ⟨⟨j, hj, u, z⟩, _⟩ | ⟨_, ⟨_, e⟩ | ⟨z, _⟩ | ⟨z, _⟩⟩
            · exact absurd z (k2 j hj u)
            · exact Told.exc A0 e rfl (due0_branch hnb)
            · rw [k1] at z; cases z
            · exact absurd k1 z
          · rcases hp with ⟨⟨j, hj, u, z⟩, _⟩ | ⟨_, ⟨z, _⟩ | ⟨_, e⟩ | ⟨_, _, _, _, _, _, e, _⟩⟩
            · exact absurd z (k2 j hj u)
            · rw [k1] at z; cases z
            · exact Told.ok A0 e (due0_ok (by omega) hnb)
            · exact Told.ok A0 e (due0_ok (by omega) hnb)
          · rcases hp with ⟨_, e⟩ | ⟨z, _⟩
            · exact Told.exc A0 e rfl (due0_leaf ha2 hnb)
            · exact absurd k2 (z j hj u)
          · rcases hp with ⟨⟨j, hj, u, z⟩, _⟩ | ⟨_, ⟨z, _⟩ | ⟨_, e⟩ | ⟨_, _, _, _, _, _, e, _⟩⟩
            · exact absurd z (k2 j hj u)
            · rw [k1] at z; cases z
            · exact Told.ok A0 e (due0_ok (by omega) hnb)
            · exact Told.ok A0 e (due0_ok (by omega) hnb)
          · exact absurd z h8
        · exact Told.exc A0 (put_noN hg hne hl ho) rfl (due0_number (by omega) hnb)
    · exact Told.exc A0 (put_noP hb) rfl (due_path (.inl rfl) (by omega))
  · -- cut
    rcases hx with ⟨ha, q, rfl, hg, hl, hq⟩ | ⟨ha, hb⟩
    · have hc := fun hne => cut_eff X (by omega) (x := .lst (q.map Dv.str)) (.inl rfl) hg hne hl
      rcases hq with ⟨rfl, hne, k1, _⟩ | ⟨ha2, hne, ⟨u, k1⟩, _⟩ | ⟨ha2, hne, k1, _⟩ | ⟨ha2, hne, k1, _⟩ | ⟨ha2, rfl, _⟩
      · rcases hc hne with ⟨z, _⟩ | ⟨_, _, _, _, _, e, _⟩
        · rw [k1] at z; cases z
        · exact Told.ok A1 e (due1_ok (by omega))
      · rcases hc hne with ⟨z, _⟩ | ⟨_, _, _, _, _, e, _⟩
        · rw [k1] at z; cases z
        · exact Told.ok A1 e (due1_ok (by omega))
      · rcases hc hne with ⟨_, e⟩ | ⟨z, _⟩
        · exact Told.exc A1 e rfl (due1_nothing (by omega) (by omega))
        · exact absurd k1 z
      · rcases hc hne with ⟨_, e⟩ | ⟨z, _⟩
        · exact Told.exc A1 e rfl (due1_nothing (by omega) (by omega))
        · exact absurd k1 z
      · exact Told.exc A1 cut_top rfl (due_path (.inr rfl) (by omega))
    · exact Told.exc A1 (cut_noP hb) rfl (due_path (.inr rfl) (by omega))
  · -- drop
    rcases hv with ⟨rfl, rfl⟩ | ⟨rfl, rfl⟩ | ⟨rfl, ho⟩
    · exact Told.exc A2 (drop_no X.S (.inl rfl)) rfl (dueV (by omega) (dueV_shot (.inr ⟨rfl, by omega⟩)))
    · obtain ⟨_, _, _, _, e, _⟩ := drop_eff X (by omega) h1
      exact Told.ok A2 e (dueV (by omega) (dueV_ok (.inl ⟨.inl rfl, rfl⟩)))
    · exact Told.exc A2 (drop_no X.S (.inr ho)) rfl (dueV (by omega) (dueV_shot (.inl (by omega))))
  · -- back
    rcases hv with ⟨rfl, rfl⟩ | ⟨rfl, rfl⟩ | ⟨rfl, ho⟩
    · exact Told.exc A3 (back_no X.S (.inl rfl)) rfl (dueV (by omega) (dueV_shot (.inr ⟨rfl, by omega⟩)))
    · obtain ⟨_, _, _, _, e, _⟩ := back_eff X (by omega) h1
      exact Told.ok A3 e (dueV (by omega) (dueV_ok (.inl ⟨.inr rfl, rfl⟩)))
    · exact Told.exc A3 (back_no X.S (.inr ho)) rfl (dueV (by omega) (dueV_shot (.inl (by omega))))
  · -- value
    rcases hview with ⟨h0, o, rfl, ho, _⟩ | ⟨h0, ho⟩
    · rcases hx with ⟨ha, q, rfl, hg, hl, hq⟩ | ⟨ha, hb⟩
      · have hk := hkind o ho q hg hl
        rcases hq with ⟨rfl, _, k1, _⟩ | ⟨ha2, _, ⟨u, k1⟩, _⟩ | ⟨ha2, _, k1, _⟩ | ⟨ha2, _, k1, _⟩ | ⟨rfl, _, k1⟩
        · rw [kindD_br k1] at hk
          exact Told.exc A4 (value_branch hk hs) rfl (dueV (by omega) fun M => by have := dueV_4 (a := 0) h0 (by omega) M; simpa using this)
        · obtain ⟨i, f1, f2⟩ := kv_is_leaf k1
          have e := value_ok X.S W ho T (x := .lst (q.map Dv.str)) (.inl rfl) hg hl f1 f2
          exact Told.ok A4 e (dueV (by omega) fun M => by
            have := dueV_4 (a := a) h0 (by omega) M
            rw [if_neg (by omega)] at this
            exact this)
        · rw [kindD_no W T k1] at hk
          exact Told.exc A4 (value_none hk hs) rfl (dueV (by omega) (dueV_nothing (.inl rfl) h0 (by omega)))
        · rw [kindD_no W T k1] at hk
          exact Told.exc A4 (value_none hk hs) rfl (dueV (by omega) (dueV_nothing (.inl rfl) h0 (by omega)))
        · rw [kindD_br k1] at hk
          exact Told.exc A4 (value_branch hk hs) rfl (dueV (by omega) fun M => by have := dueV_4 (a := 8) h0 (by omega) M; simpa using this)
      · exact Told.exc A4 (value_exc (kind_noP X.S ho hb) hs') rfl (dueV (by omega) (dueV_path (.inl rfl) h0 (by omega)))
    · exact Told.exc A4 (value_exc (kind_noV X.S ho) hs') rfl (dueV (by omega) (dueV_shot (.inl h0)))
  · -- names
    rcases hview with ⟨h0, o, rfl, ho, _⟩ | ⟨h0, ho⟩
    · rcases hx with ⟨ha, q, rfl, hg, hl, hq⟩ | ⟨ha, hb⟩
      · have hk := hkind o ho q hg hl
        rcases hq with ⟨rfl, _, k1, _⟩ | ⟨ha2, _, ⟨u, k1⟩, _⟩ | ⟨ha2, _, k1, _⟩ | ⟨ha2, _, k1, _⟩ | ⟨rfl, _, k1⟩
        · obtain ⟨i, rows, f1, f2⟩ := kv_is_br k1
          have e := snames_ok X.S W ho T (x := .lst (q.map Dv.str)) (.inl rfl) hg hl f1 f2
          exact Told.ok A5 e (dueV (by omega) fun M => by have := dueV_5 (a := 0) h0 (by omega) M; simpa using this)
        · rw [kindD_lf k1] at hk
          exact Told.exc A5 (names_leaf hk hs) rfl (dueV (by omega) fun M => by
            have := dueV_5 (a := a) h0 (by omega) M
            rw [if_pos (by omega)] at this
            exact this)
        · rw [kindD_no W T k1] at hk
          exact Told.exc A5 (names_none hk hs) rfl (dueV (by omega) (dueV_nothing (.inr rfl) h0 (by omega)))
        · rw [kindD_no W T k1] at hk
          exact Told.exc A5 (names_none hk hs) rfl (dueV (by omega) (dueV_nothing (.inr rfl) h0 (by omega)))
        · obtain ⟨i, rows, f1, f2⟩ := kv_is_br k1
          have e := snames_ok X.S W ho T (x := .lst (q.map Dv.str)) (.inl rfl) hg hl f1 f2
          exact Told.ok A5 e (dueV (by omega) fun M => by have := dueV_5 (a := 8) h0 (by omega) M; simpa using this)
      · exact Told.exc A5 (names_exc (kind_noP X.S ho hb) hs') rfl (dueV (by omega) (dueV_path (.inr (.inl rfl)) h0 (by omega)))
    · exact Told.exc A5 (names_exc (kind_noV X.S ho) hs') rfl (dueV (by omega) (dueV_shot (.inl h0)))
  · -- kind
    rcases hview with ⟨h0, o, rfl, ho, _⟩ | ⟨h0, ho⟩
    · rcases hx with ⟨ha, q, rfl, hg, hl, hq⟩ | ⟨ha, hb⟩
      · exact Told.ok A6 (hkind o ho q hg hl) (dueV (by omega) (dueV_6 h0 ha))
      · exact Told.exc A6 (kind_noP X.S ho hb) rfl (dueV (by omega) (dueV_path (.inr (.inr rfl)) h0 (by omega)))
    · exact Told.exc A6 (kind_noV X.S ho) rfl (dueV (by omega) (dueV_shot (.inl h0)))
  · -- changes
    rcases hview with ⟨h0, o, rfl, ho, _⟩ | ⟨h0, ho⟩
    · obtain ⟨d, e⟩ := changes_same X.S (v := none) (w := o) rfl ho
      exact Told.ok A7 e (dueV (by omega) (dueV_ok (.inr ⟨by omega, h0⟩)))
    · exact Told.exc A7 (changes_no1 X.S (v := none) rfl ho) rfl (dueV (by omega) (dueV_shot (.inl h0)))
  · rcases hview with ⟨h0, o, rfl, ho, _⟩ | ⟨h0, ho⟩
    · obtain ⟨d, e⟩ := changes_same X.S (v := o) (w := some 1) ho h1
      exact Told.ok A8 e (dueV (by omega) (dueV_ok (.inr ⟨by omega, h0⟩)))
    · exact Told.exc A8 (changes_no2 X.S ho) rfl (dueV (by omega) (dueV_shot (.inl h0)))
  · rcases hview with ⟨h0, o, rfl, ho, _⟩ | ⟨h0, ho⟩
    · exact Told.ok A9 (top_ok X.S ho) (dueV (by omega) (dueV_ok (.inr ⟨by omega, h0⟩)))
    · exact Told.exc A9 (top_no X.S ho) rfl (dueV (by omega) (dueV_shot (.inl h0)))
end

/-! ### the paths -/
theorem word_by (c : Int) : ∃ w : Str, (∀ m, m_l_word_by [.int c] m = .ok (.str w) m) ∧ AZ w ∧ w.length ≤ 7 := by
  have H : ∀ i : Int, ∃ x : Nat, atI abc.cps.toList ((c / 8 + i * (1 + c / 208 % 25)) % 26) = some x ∧ 97 ≤ x ∧ x ≤ 122 := fun i => abc_at _ (by omega) (by omega)
  obtain ⟨F, HF⟩ := Classical.axiomOfChoice H
  have HF1 := fun i => (HF i).1
  refine ⟨⟨((List.range (c % 8).toNat).map fun i : Nat => F i).toArray⟩, fun m => ?_, fun y hy => ?_, ?_⟩
  · have hE := eLc_map (it := iR1 (aCons (eBin modD (eVar 0) (eC (.int 8))) aNil)) (j := 2) (e := le_l_word_by_1)
      (l := [some (Dv.int c), some (Dv.str abc), none]) (m := m) (m1 := m) (ds := rng 0 (c % 8).toNat) (by simp; omega) (fun d => match d with | .int i => .str ⟨#[F i]⟩ | d => d)
      (fun x hx acc => by
        obtain ⟨i, hi, rfl⟩ := List.mem_map.mp hx
        have b : (-18446744073709551616 < 1 + c / 208 % 25 ∧ 1 + c / 208 % 25 < 18446744073709551616) := by omega
        unfold le_l_word_by_1
        simp [abc_len, mulD_r b, HF1])
      (by rw [rng_length]; simp; omega) (by unfold rng; rw [List.map_map]; exact clos_map _ _ (fun _ => rfl) _)
    have hm : (rng 0 (c % 8).toNat).map (fun d => match d with | .int i => Dv.str ⟨#[F i]⟩ | d => d) = ((List.range (c % 8).toNat).map fun i : Nat => (⟨#[F i]⟩ : Str)).map Dv.str := by
      unfold rng
      rw [List.map_map, List.map_map]
      apply List.map_congr_left
      intro i _
      simp
    rw [hm] at hE
    have hs := sum_len (B := 1) (ss := (List.range (c % 8).toNat).map fun i : Nat => (⟨#[F i]⟩ : Str)) (fun s hs => by
      obtain ⟨i, _, rfl⟩ := List.mem_map.mp hs
      exact Nat.le_refl _)
    have hs2 : (((List.range (c % 8).toNat).map fun i : Nat => (⟨#[F i]⟩ : Str)).map (·.length)).sum ≤ 16777216 := by
      refine Nat.le_trans hs ?_
      simp; omega
    have hj := join_one (fun i : Nat => F i) (List.range (c % 8).toNat)
    generalize ((List.range (c % 8).toNat).map fun i : Nat => (⟨#[F i]⟩ : Str)) = ss at hE hs2 hj
    have e0 : ("" : Str).length = 0 := by decide +kernel
    unfold m_l_word_by mkFn bd_l_word_by
    simp [↓hE, e0, hs2, hj]
  · have hy : y ∈ (List.range (c % 8).toNat).map fun i : Nat => F i := by simpa [tx] using hy
    obtain ⟨i, _, rfl⟩ := List.mem_map.mp hy
    exact (HF _).2
  · show (((List.range (c % 8).toNat).map fun i : Nat => F i).toArray).size ≤ 7
    simp; omega
theorem az_add {w z : Str} (h : AZ w) (hl : w.length ≤ 7) (hz : z.length = 1) (h2 : AZ z) : gN (w ++ z) := by
  refine ⟨by rw [len_append]; omega, by rw [len_append]; omega, fun x hx => ?_⟩
  rw [tx_append] at hx
  rcases List.mem_append.mp hx with hx | hx
  · exact h x hx
  · exact h2 x hx
theorem add_ne {w a b : Str} (h : a ≠ b) : w ++ a ≠ w ++ b := fun e => h (by
  have := congrArg tx e
  rw [tx_append, tx_append] at this
  exact tx_inj (List.append_cancel_left this))
/-- the long name -/
def lng (w : Str) : Str := w ++ cutS "abcdefghi" none (some ((9 - w.length : Nat) : Int))
theorem lng_len {w : Str} (hl : w.length ≤ 7) : (lng w).length = 9 := by
  unfold lng
  rw [len_append, len_tx (cutS _ _ _), tx_cut_lo, List.length_take]
  have : (tx ("abcdefghi" : Str)).length = 9 := by decide +kernel
  rw [this]
  omega
def goods (o t e : Str) : List (List Str) := [[o], [o, t], [e], [e, o], [e, t, o], [t], [o, e], [o, t, t], []]
def bads (w o t : Str) : List Dv := [.str "ab", .non, .lst [.str "A"], .lst [.str o, .str ""], .lst [.str o, .str o, .str o, .str o, .str o, .str o, .str o, .str o, .str o], .lst [.str o, .int 3], .lst [.str (lng w)], .loc 0, .loc 1, .lst [.non], .lst [.str o, .lst [.str t]], .lst [.str o, .loc 2]]
def pths (w : Str) : List Dv := (goods (w ++ "a") (w ++ "b") (w ++ "c")).map (fun q => .lst (q.map Dv.str)) ++ bads w (w ++ "a") (w ++ "b")
def mem0 (w : Str) : Mem := [.dic [], .dic [(.inr (w ++ "a"), .bl true)], .dic []]
theorem paths_ok {w : Str} (hl : w.length ≤ 7) : m_l_paths [.str w] [] = .ok (.lst (pths w)) (mem0 w) := by
  have la : ("a" : Str).length = 1 := by decide +kernel
  have lb : ("b" : Str).length = 1 := by decide +kernel
  have lc : ("c" : Str).length = 1 := by decide +kernel
  have l9 : ("abcdefghi" : Str).length = 9 := by decide +kernel
  have w1 : w.length + 1 ≤ 16777216 := by omega
  have w0 : w.length ≤ 16777216 := by omega
  have e9 : (9 : Int) - (w.length : Int) = ((9 - w.length : Nat) : Int) := by omega
  have lr : (cutS "abcdefghi" none (some ((9 - w.length : Nat) : Int))).length ≤ 9 := by
    have := cutS_length "abcdefghi" none (some ((9 - w.length : Nat) : Int))
    omega
  have w2 : w.length + (cutS "abcdefghi" none (some ((9 - w.length : Nat) : Int))).length ≤ 16777216 := by omega
  have hF : fin [] (.rt (.lst (pths w)) (mem0 w)) = .ok (.lst (pths w)) (mem0 w) := by
    rw [fin_rt_eq, if_neg]
    rintro ⟨_, z⟩
    have : clo 0 (.lst (pths w)) = false := rfl
    rw [show ([] : Mem).length = 0 from rfl, this] at z
    cases z
  have hm9 : ∀ o : Str, ∀ M, mulD (.lst [.str o]) (.int 9) M = .ok (.lst [.str o, .str o, .str o, .str o, .str o, .str o, .str o, .str o, .str o]) M := fun o M => by
    unfold mulD
    simp [lx]
  unfold m_l_paths mkFn bd_l_paths
  unfold pths goods bads mem0 lng at hF
  unfold pths goods bads mem0 lng
  simp only [List.map_cons, List.map_nil, List.cons_append, List.nil_append] at hF
  simp only [List.map_cons, List.map_nil, List.cons_append, List.nil_append]
  simp [la, lb, lc, l9, w1, w0, e9, w2, hm9, eDispV, hF]

/-! ### the start -/
def Tq (o t e : Str) (q : List Str) : Option (Option Int) := if [e] <+: q then (if q = [e] then some (some (-7)) else none) else if q <+: [e] then some none else (if [o, t] <+: q then (if q = [o, t] then some (some 5) else none) else if q <+: [o, t] then some none else (if q = [] then some none else none))
theorem kv_si0 (q : List Str) : kv [((1 : Int), Bx.br [])] (some 1) q = if q = [] then some none else none := by
  cases q with
  | nil => rfl
  | cons n r =>
    rw [kv_cons]
    show kv _ none r = _
    rw [kv_none]
    simp
theorem start_ok {m0 : Mem} {o t e : Str} (ho : gN o) (ht : gN t) (he : gN e) (oe : o ≠ e) :
    ∃ m1 m2 m3 m4 m5 m6 p b c h bs cs K live g1 g2 g3, m_Store_init [.loc m0.length] (m0 ++ [.ins 1 []]) = .ok .non m1 ∧ m_Store_put [.loc m0.length, .lst ([o, t].map Dv.str), .int 5] m1 = .ok (.int g1) m2 ∧ m_Store_put [.loc m0.length, .lst ([e].map Dv.str), .int (-7)] m2 = .ok (.int g2) m3 ∧
      m_Store_snap [.loc m0.length] m3 = .ok (.int 1) m4 ∧ m_Store_snap [.loc m0.length] m4 = .ok (.int 2) m5 ∧ m_Store_drop [.loc m0.length, .int 2] m5 = .ok (.int g3) m6 ∧ SX m6 m0.length p b c h bs cs K live [(1, live)] 2 ∧ K ≤ 100 ∧ (∀ q, kv bs (some live) q = Tq o t e q) ∧
      (∀ k, k < m0.length → m6[k]? = m0[k]?) ∧ (∃ ds, m1[m0.length]? = some (.ins 1 ds)) ∧ (∃ ds, m2[m0.length]? = some (.ins 1 ds)) ∧ (∃ ds, m3[m0.length]? = some (.ins 1 ds)) ∧ (∃ ds, m4[m0.length]? = some (.ins 1 ds)) ∧ (∃ ds, m5[m0.length]? = some (.ins 1 ds)) := by
  obtain ⟨m1, p, b, c, h, i1, S1, keep, gp, gb, gc, gh⟩ := store_init_ok m0
  have X1 : SX m1 m0.length p b c h [(1, .br [])] [(1, 1)] 1 1 [] 0 := ⟨S1, si0⟩
  have F : ∀ {m m' : Mem}, SFr m m' m0.length p b c h → m0.length ≤ m.length → ∀ k, k < m0.length → m'[k]? = m[k]? := fun f hl k hk => f.2 k (by omega) (by omega) (by omega) (by omega) (by omega) (by omega)
  rcases put_eff X1 (by omega) (x := .lst ([o, t].map Dv.str)) (ns := [o, t]) (.inl rfl) (fun n hn => by
    rcases List.mem_cons.mp hn with rfl | hn
    · exact ho
    · rw [List.mem_singleton.mp hn]; exact ht) (by simp) (by simp) (v := 5) (by omega) with ⟨⟨j, hj, u, z⟩, _⟩ | ⟨_, ⟨z, _⟩ | ⟨z, _⟩ | ⟨_, _, bs1, cs1, g1, m2, e1, X2, F2, E2⟩⟩
  · rw [kv_si0] at z; split at z <;> cases z
  · rw [kv_si0] at z; split at z
    · rename_i y; cases y
    · cases z
  · rw [kv_si0] at z; split at z
    · rename_i y; cases y
    · cases z
  have k2 : ∀ q, kv bs1 (some ((1 + 1 + [o, t].length : Nat) : Int)) q = if [o, t] <+: q then (if q = [o, t] then some (some 5) else none) else if q <+: [o, t] then some none else (if q = [] then some none else none) := fun q => by
    rw [E2.tree q, kv_si0] <;> rfl
  have eo : ¬ (e = o) := fun z => oe z.symm
  rcases put_eff X2 (by simp) (x := .lst ([e].map Dv.str)) (ns := [e]) (.inl rfl) (fun n hn => by rw [List.mem_singleton.mp hn]; exact he) (by simp) (by simp) (v := -7) (by omega) with ⟨⟨j, hj, u, z⟩, _⟩ | ⟨_, ⟨z, _⟩ | ⟨z, _⟩ | ⟨_, _, bs2, cs2, g2, m3, e2, X3, F3, E3⟩⟩
  · have hj0 : j = 0 := by simp at hj; exact hj
    subst hj0
    rw [k2] at z
    simp at z
  · rw [k2] at z
    simp [List.cons_prefix_cons, oe, eo] at z
  · rw [k2] at z
    simp [List.cons_prefix_cons, oe, eo] at z
  obtain ⟨cs3, m4, e3, X4, F4⟩ := snap_eff X3 (by simp) (by simp)
  obtain ⟨cs4, m5, e4, X5, F5⟩ := snap_eff X4 (by simp) (by simp)
  obtain ⟨bs6, cs6, g3, m6, e5, X6, F6, G6⟩ := drop_eff X5 (by simp) (i := 2) (t := ((1 + 1 + [o, t].length + 1 + [e].length : Nat) : Int)) rfl
  have l1 : m0.length ≤ m1.length := by have := X1.S.ls; omega
  have l2 := F2.1
  have l3 := F3.1
  have l4 := F4.1
  have l5 := F5.1
  refine ⟨m1, m2, m3, m4, m5, m6, p, b, c, h, bs6, cs6, _, _, g1, g2, g3, i1, e1, e2, e3, e4, e5, X6, by simp, fun q => ?_, fun k hk => ?_, ⟨_, X1.S.hs⟩, ⟨_, X2.S.hs⟩, ⟨_, X3.S.hs⟩, ⟨_, X4.S.hs⟩, ⟨_, X5.S.hs⟩⟩
  · rw [G6.oth _ (.head _) q, E3.tree q, k2 q]
    rfl
  · rw [F F6 (by omega) k hk, F F5 (by omega) k hk, F F4 (by omega) k hk, F F3 (by omega) k hk, F F2 (by omega) k hk, keep k hk]
section
variable {m : Mem} {bs : List (Int × Bx)} {live : Int}
theorem path_class {w : Str} (hw : AZ w) (hl : w.length ≤ 7) (hkv : ∀ q, kv bs (some live) q = Tq (w ++ "a") (w ++ "b") (w ++ "c") q) (g0 : m[0]? = some (.dic [])) (g1 : ∃ k, m[1]? = some (.dic k)) (g2 : m[2]? = some (.dic [])) {a : Int} (ha : 0 ≤ a ∧ a ≤ 20) :
    ∃ x, atI (pths w) a = some x ∧ ((a ≤ 8 ∧ ∃ q, x = .lst (q.map Dv.str) ∧ (∀ n ∈ q, gN n) ∧ q.length ≤ 8 ∧ PK bs live a q) ∨ (9 ≤ a ∧ m_checked [x] m = .exc 1 m)) := by
  have ho : gN (w ++ "a") := az_add hw hl (by decide +kernel) (by unfold AZ; decide +kernel)
  have ht : gN (w ++ "b") := az_add hw hl (by decide +kernel) (by unfold AZ; decide +kernel)
  have he : gN (w ++ "c") := az_add hw hl (by decide +kernel) (by unfold AZ; decide +kernel)
  have oe : w ++ "a" ≠ w ++ "c" := add_ne (by decide +kernel)
  have ot : w ++ "a" ≠ w ++ "b" := add_ne (by decide +kernel)
  have te : w ++ "b" ≠ w ++ "c" := add_ne (by decide +kernel)
  have hlng := lng_len hl
  unfold pths goods bads
  generalize w ++ "a" = o at *
  generalize w ++ "b" = t at *
  generalize w ++ "c" = e at *
  have eo := oe.symm
  have to := ot.symm
  have et := te.symm
  have no : isN (.str o) = true := ho.is
  have lo : o.length ≤ 100000 := by have := ho.2.1; omega
  have lt : t.length ≤ 100000 := by have := ht.2.1; omega
  have hsgn : ∀ q : List Str, (∀ n ∈ q, n = o ∨ n = t ∨ n = e) → ∀ n ∈ q, gN n := fun q h n hn => by
    rcases h n hn with rfl | rfl | rfl <;> assumption
  have bad : ∀ ds : List Dv, (∀ d ∈ ds, OkD m d) → good ds = false → m_checked [.lst ds] m = .exc 1 m := fun ds h g => by
    have := checked_ok (m := m) (x := .lst ds) (.inl rfl) h
    rw [g] at this
    exact this
  have oks : ∀ z : Str, z.length ≤ 100000 → OkD m (.str z) := fun z h => .inl ⟨z, rfl, h⟩
  have hcases : a = 0 ∨ a = 1 ∨ a = 2 ∨ a = 3 ∨ a = 4 ∨ a = 5 ∨ a = 6 ∨ a = 7 ∨ a = 8 ∨ a = 9 ∨ a = 10 ∨ a = 11 ∨ a = 12 ∨ a = 13 ∨ a = 14 ∨ a = 15 ∨ a = 16 ∨ a = 17 ∨ a = 18 ∨ a = 19 ∨ a = 20 := by omega
  rcases hcases with rfl | rfl | rfl | rfl | rfl | rfl | rfl | rfl | rfl | rfl | rfl | rfl | rfl | rfl | rfl | rfl | rfl | rfl | rfl | rfl | rfl
  · refine ⟨_, atI_nat (j := 0) rfl, .inl ⟨by omega, [o], rfl, hsgn _ (by simp), by simp, .inl ⟨rfl, by simp, ?_, fun j hj u => ?_⟩⟩⟩
    · rw [hkv]; simp [Tq, List.cons_prefix_cons, oe, eo]
    · have : j = 0 := by simp at hj; exact hj
      subst this
      rw [hkv]; simp [Tq]
  · refine ⟨_, atI_nat (j := 1) rfl, .inl ⟨by omega, [o, t], rfl, hsgn _ (by simp), by simp, .inr (.inl ⟨by omega, by simp, ⟨5, ?_⟩, fun j hj u => ?_⟩)⟩⟩
    · rw [hkv]; simp [Tq, List.cons_prefix_cons, oe, eo]
    · have : j = 0 ∨ j = 1 := by simp at hj; omega
      rcases this with rfl | rfl <;> rw [hkv] <;> simp [Tq, List.cons_prefix_cons, oe, eo]
  · refine ⟨_, atI_nat (j := 2) rfl, .inl ⟨by omega, [e], rfl, hsgn _ (by simp), by simp, .inr (.inl ⟨by omega, by simp, ⟨-7, ?_⟩, fun j hj u => ?_⟩)⟩⟩
    · rw [hkv]; simp [Tq, List.cons_prefix_cons, oe, eo]
    · have : j = 0 := by simp at hj; exact hj
      subst this
      rw [hkv]; simp [Tq]
  · refine ⟨_, atI_nat (j := 3) rfl, .inl ⟨by omega, [e, o], rfl, hsgn _ (by simp), by simp, .inr (.inr (.inl ⟨by omega, by simp, ?_, 1, by simp, -7, ?_⟩))⟩⟩
    · rw [hkv]; simp [Tq, List.cons_prefix_cons, oe, eo]
    · rw [hkv]; simp [Tq, List.cons_prefix_cons, oe, eo]
  · refine ⟨_, atI_nat (j := 4) rfl, .inl ⟨by omega, [e, t, o], rfl, hsgn _ (by simp), by simp, .inr (.inr (.inl ⟨by omega, by simp, ?_, 1, by simp, -7, ?_⟩))⟩⟩
    · rw [hkv]; simp [Tq, List.cons_prefix_cons, oe, eo]
    · rw [hkv]; simp [Tq, List.cons_prefix_cons, oe, eo]
  · refine ⟨_, atI_nat (j := 5) rfl, .inl ⟨by omega, [t], rfl, hsgn _ (by simp), by simp, .inr (.inr (.inr (.inl ⟨by omega, by simp, ?_, fun j hj u => ?_⟩)))⟩⟩
    · rw [hkv]; simp [Tq, List.cons_prefix_cons, ot, to, te, et]
    · have : j = 0 := by simp at hj; exact hj
      subst this
      rw [hkv]; simp [Tq]
  · refine ⟨_, atI_nat (j := 6) rfl, .inl ⟨by omega, [o, e], rfl, hsgn _ (by simp), by simp, .inr (.inr (.inr (.inl ⟨by omega, by simp, ?_, fun j hj u => ?_⟩)))⟩⟩
    · rw [hkv]; simp [Tq, List.cons_prefix_cons, oe, eo, te, et]
    · have : j = 0 ∨ j = 1 := by simp at hj; omega
      rcases this with rfl | rfl <;> rw [hkv] <;> simp [Tq, List.cons_prefix_cons, oe, eo]
  · refine ⟨_, atI_nat (j := 7) rfl, .inl ⟨by omega, [o, t, t], rfl, hsgn _ (by simp), by simp, .inr (.inr (.inl ⟨by omega, by simp, ?_, 2, by simp, 5, ?_⟩))⟩⟩
    · rw [hkv]; simp [Tq, List.cons_prefix_cons, oe, eo]
    · rw [hkv]; simp [Tq, List.cons_prefix_cons, oe, eo]
  · refine ⟨_, atI_nat (j := 8) rfl, .inl ⟨by omega, [], rfl, hsgn _ (by simp), by simp, .inr (.inr (.inr (.inr ⟨rfl, rfl, ?_⟩)))⟩⟩
    rw [hkv]; simp [Tq]
  · exact ⟨_, atI_nat (j := 9) rfl, .inr ⟨by omega, checked_no (t := .str) rfl (by decide) (by decide)⟩⟩
  · refine ⟨_, atI_nat (j := 10) rfl, .inr ⟨by omega, ?_⟩⟩
    unfold m_checked mkFn bd_checked
    simp
  · exact ⟨_, atI_nat (j := 11) rfl, .inr ⟨by omega, bad _ (fun d hd => by rw [List.mem_singleton.mp hd]; exact oks _ (by decide +kernel)) (by decide +kernel)⟩⟩
  · refine ⟨_, atI_nat (j := 12) rfl, .inr ⟨by omega, bad _ (fun d hd => ?_) ?_⟩⟩
    · rcases List.mem_cons.mp hd with rfl | hd
      · exact oks _ lo
      · rw [List.mem_singleton.mp hd]; exact oks _ (by decide +kernel)
    · have : isN (.str "") = false := by decide +kernel
      simp [good, this]
  · refine ⟨_, atI_nat (j := 13) rfl, .inr ⟨by omega, bad _ (fun d hd => ?_) rfl⟩⟩
    have : d = .str o := by simpa using hd
    rw [this]
    exact oks _ lo
  · refine ⟨_, atI_nat (j := 14) rfl, .inr ⟨by omega, bad _ (fun d hd => ?_) ?_⟩⟩
    · rcases List.mem_cons.mp hd with rfl | hd
      · exact oks _ lo
      · rw [List.mem_singleton.mp hd]; exact .inr ⟨.int, rfl, by decide⟩
    · have : isN (.int 3) = false := rfl
      simp [good, this]
  · refine ⟨_, atI_nat (j := 15) rfl, .inr ⟨by omega, bad _ (fun d hd => by rw [List.mem_singleton.mp hd]; exact oks _ (by omega)) ?_⟩⟩
    have : isN (.str (lng w)) = false := by
      show (decide (1 ≤ (lng w).length) && (decide ((lng w).length ≤ 8) && (tx (lng w)).all fun c => decide (97 ≤ c ∧ c ≤ 122))) = false
      rw [hlng]
      simp
    simp [good, this]
  · exact ⟨_, atI_nat (j := 16) rfl, .inr ⟨by omega, checked_no (t := .dict) (by rw [tyOf_loc, g0]) (by decide) (by decide)⟩⟩
  · obtain ⟨k, g1⟩ := g1
    exact ⟨_, atI_nat (j := 17) rfl, .inr ⟨by omega, checked_no (t := .dict) (by rw [tyOf_loc, g1]) (by decide) (by decide)⟩⟩
  · refine ⟨_, atI_nat (j := 18) rfl, .inr ⟨by omega, bad _ (fun d hd => by rw [List.mem_singleton.mp hd]; exact .inr ⟨.none, rfl, by decide⟩) rfl⟩⟩
  · refine ⟨_, atI_nat (j := 19) rfl, .inr ⟨by omega, bad _ (fun d hd => ?_) ?_⟩⟩
    · rcases List.mem_cons.mp hd with rfl | hd
      · exact oks _ lo
      · rw [List.mem_singleton.mp hd]; exact .inr ⟨.list, rfl, by decide⟩
    · have : isN (.lst [.str t]) = false := rfl
      simp [good, this]
  · refine ⟨_, atI_nat (j := 20) rfl, .inr ⟨by omega, bad _ (fun d hd => ?_) ?_⟩⟩
    · rcases List.mem_cons.mp hd with rfl | hd
      · exact oks _ lo
      · rw [List.mem_singleton.mp hd]; exact .inr ⟨.dict, by rw [tyOf_loc, g2], by decide⟩
    · have : isN (.loc 2) = false := rfl
      simp [good, this]
end

/-! ### the law -/
def NUM (L : Nat) : List Dv := [.int 0, .int 3, .int (-4), .int 999999999999999999999999999999, .int (-999999999999999999999999999999), .int 1000000000000000000000000000000, .int (-1000000000000000000000000000000), .bl true, .str "5", .non, .lst [.int 1], .tup [.int 1], .loc L]
def VW (L : Nat) : List Dv := [.non, .int 1, .int 2, .int 0, .int 3, .bl true, .str "1", .int (-1), .lst [.int 1], .tup [.int 1], .loc L]
theorem num_class {M : Mem} {L : Nat} (g : M[L]? = some (.dic [])) {nb : Int} (h : 0 ≤ nb ∧ nb ≤ 12) : ∃ n, atI (NUM L) nb = some n ∧ ((nb ≤ 4 ∧ ∃ i : Int, n = .int i ∧ -1000000000000000000000000000000 < i ∧ i < 1000000000000000000000000000000) ∨ (4 < nb ∧ OddN M n)) := by
  have hc : nb = 0 ∨ nb = 1 ∨ nb = 2 ∨ nb = 3 ∨ nb = 4 ∨ nb = 5 ∨ nb = 6 ∨ nb = 7 ∨ nb = 8 ∨ nb = 9 ∨ nb = 10 ∨ nb = 11 ∨ nb = 12 := by omega
  rcases hc with rfl | rfl | rfl | rfl | rfl | rfl | rfl | rfl | rfl | rfl | rfl | rfl | rfl
  · exact ⟨_, atI_nat (j := 0) rfl, .inl ⟨by omega, _, rfl, by omega, by omega⟩⟩
  · exact ⟨_, atI_nat (j := 1) rfl, .inl ⟨by omega, _, rfl, by omega, by omega⟩⟩
  · exact ⟨_, atI_nat (j := 2) rfl, .inl ⟨by omega, _, rfl, by omega, by omega⟩⟩
  · exact ⟨_, atI_nat (j := 3) rfl, .inl ⟨by omega, _, rfl, by omega, by omega⟩⟩
  · exact ⟨_, atI_nat (j := 4) rfl, .inl ⟨by omega, _, rfl, by omega, by omega⟩⟩
  · exact ⟨_, atI_nat (j := 5) rfl, .inr ⟨by omega, .inr (.inr ⟨_, rfl, .inr (by omega)⟩)⟩⟩
  · exact ⟨_, atI_nat (j := 6) rfl, .inr ⟨by omega, .inr (.inr ⟨_, rfl, .inl (by omega)⟩)⟩⟩
  · exact ⟨_, atI_nat (j := 7) rfl, .inr ⟨by omega, .inr (.inl ⟨_, rfl⟩)⟩⟩
  · exact ⟨_, atI_nat (j := 8) rfl, .inr ⟨by omega, .inl ⟨.str, rfl, by decide, by decide⟩⟩⟩
  · exact ⟨_, atI_nat (j := 9) rfl, .inr ⟨by omega, .inl ⟨.none, rfl, by decide, by decide⟩⟩⟩
  · exact ⟨_, atI_nat (j := 10) rfl, .inr ⟨by omega, .inl ⟨.list, rfl, by decide, by decide⟩⟩⟩
  · exact ⟨_, atI_nat (j := 11) rfl, .inr ⟨by omega, .inl ⟨.tuple, rfl, by decide, by decide⟩⟩⟩
  · exact ⟨_, atI_nat (j := 12) rfl, .inr ⟨by omega, .inl ⟨.dict, by rw [tyOf_loc, g], by decide, by decide⟩⟩⟩
theorem view_class {M : Mem} {L : Nat} (g : M[L]? = some (.dic [])) (live : Int) {vw : Int} (h : 0 ≤ vw ∧ vw ≤ 10) : ∃ v, atI (VW L) vw = some v ∧ (((if 1 < vw then -1 else vw) = 0 ∧ v = .non) ∨ ((if 1 < vw then -1 else vw) = 1 ∧ v = .int 1) ∨ ((if 1 < vw then -1 else vw) = -1 ∧ OddV M [(1, live)] v)) := by
  have hc : vw = 0 ∨ vw = 1 ∨ vw = 2 ∨ vw = 3 ∨ vw = 4 ∨ vw = 5 ∨ vw = 6 ∨ vw = 7 ∨ vw = 8 ∨ vw = 9 ∨ vw = 10 := by omega
  rcases hc with rfl | rfl | rfl | rfl | rfl | rfl | rfl | rfl | rfl | rfl | rfl
  · exact ⟨_, atI_nat (j := 0) rfl, .inl ⟨rfl, rfl⟩⟩
  · exact ⟨_, atI_nat (j := 1) rfl, .inr (.inl ⟨rfl, rfl⟩)⟩
  · exact ⟨_, atI_nat (j := 2) rfl, .inr (.inr ⟨rfl, .inr (.inr ⟨_, rfl, rfl⟩)⟩)⟩
  · exact ⟨_, atI_nat (j := 3) rfl, .inr (.inr ⟨rfl, .inr (.inr ⟨_, rfl, rfl⟩)⟩)⟩
  · exact ⟨_, atI_nat (j := 4) rfl, .inr (.inr ⟨rfl, .inr (.inr ⟨_, rfl, rfl⟩)⟩)⟩
  · exact ⟨_, atI_nat (j := 5) rfl, .inr (.inr ⟨rfl, .inr (.inl ⟨_, rfl⟩)⟩)⟩
  · exact ⟨_, atI_nat (j := 6) rfl, .inr (.inr ⟨rfl, .inl ⟨.str, rfl, by decide, by decide, rfl⟩⟩)⟩
  · exact ⟨_, atI_nat (j := 7) rfl, .inr (.inr ⟨rfl, .inr (.inr ⟨_, rfl, rfl⟩)⟩)⟩
  · exact ⟨_, atI_nat (j := 8) rfl, .inr (.inr ⟨rfl, .inl ⟨.list, rfl, by decide, by decide, rfl⟩⟩)⟩
  · exact ⟨_, atI_nat (j := 9) rfl, .inr (.inr ⟨rfl, .inl ⟨.tuple, rfl, by decide, by decide, rfl⟩⟩)⟩
  · exact ⟨_, atI_nat (j := 10) rfl, .inr (.inr ⟨rfl, .inl ⟨.dict, by rw [tyOf_loc, g], by decide, by decide, rfl⟩⟩)⟩
theorem ints_at {xs : List Int} {i lo hi : Int} (h0 : 0 ≤ i) (h1 : i < xs.length) (hb : ∀ a ∈ xs, lo ≤ a ∧ a ≤ hi) : ∃ a : Int, atI (xs.map Dv.int) i = some (.int a) ∧ lo ≤ a ∧ a ≤ hi := by
  obtain ⟨x, hx, hm⟩ := at_some (xs := xs.map Dv.int) h0 (by rw [List.length_map]; exact h1)
  obtain ⟨a, ha, rfl⟩ := List.mem_map.mp hm
  exact ⟨a, hx, hb a ha⟩
noncomputable def rest_law : S :=
  (sSeq (sSet 10 (eCall 4 m_l_due (aCons (eVar 4) (aCons (eVar 5) (aCons (eVar 6) (aCons (eBin ixD (eMk mkLst (aCons (eVar 8) (aCons (eUn negD (eC (.int 1))) aNil))) (eMk intD (aCons (eBin gtD (eVar 8) (eC (.int 1))) aNil))) aNil))))))
    (sSeq (sSet 11 (eMk mkTup (aCons (eMeth 0 1 m_Pile_kept (eFld 1 0 (eVar 3)) aNil) (aCons (eFld 0 2 (eFld 1 0 (eVar 3))) (aCons (eMeth 1 2 m_Store_top (eVar 3) (aCons (eC .non) aNil)) (aCons (eMeth 1 1 m_Store_shot_numbers (eVar 3) aNil) (aCons (eMeth 1 2 m_Store_top (eVar 3) (aCons (eC (.int 1)) aNil)) aNil)))))))
    (sSeq (sIf (tV (eBin eqD (eVar 10) (eC (.str ""))))
    (sRet (eBin eqD (eCall 5 m_l_told (aCons (eVar 3) (aCons (eVar 4) (aCons (eBin ixD (eVar 2) (eVar 5)) (aCons (eVar 7) (aCons (eVar 9) aNil)))))) (eC (.str ""))))
    sNil)
    (sSeq (sIf (tV (eBin neD (eCall 5 m_l_told (aCons (eVar 3) (aCons (eVar 4) (aCons (eBin ixD (eVar 2) (eVar 5)) (aCons (eVar 7) (aCons (eVar 9) aNil)))))) (eBin addD (eVar 10) (eC (.str " value")))))
    (sRet (eC (.bl false)))
    sNil)
    (sRet (eBin eqD (eVar 11) (eMk mkTup (aCons (eMeth 0 1 m_Pile_kept (eFld 1 0 (eVar 3)) aNil) (aCons (eFld 0 2 (eFld 1 0 (eVar 3))) (aCons (eMeth 1 2 m_Store_top (eVar 3) (aCons (eC .non) aNil)) (aCons (eMeth 1 1 m_Store_shot_numbers (eVar 3) aNil) (aCons (eMeth 1 2 m_Store_top (eVar 3) (aCons (eC (.int 1)) aNil)) aNil))))))))))))
noncomputable def mid_law : S :=
  (sSeq (sSet 4 (eBin ixD (eMk mkLst (aCons (eC (.int 0)) (aCons (eC (.int 0)) (aCons (eC (.int 0)) (aCons (eC (.int 0)) (aCons (eC (.int 0)) (aCons (eC (.int 0)) (aCons (eC (.int 1)) (aCons (eC (.int 2)) (aCons (eC (.int 3)) (aCons (eC (.int 4)) (aCons (eC (.int 5)) (aCons (eC (.int 6)) (aCons (eC (.int 7)) (aCons (eC (.int 8)) (aCons (eC (.int 9)) aNil)))))))))))))))) (eBin modD (eCall 2 m_l_cell_at (aCons (eVar 0) (aCons (eC (.int 0)) aNil))) (eC (.int 15)))))
    (sSeq (sSet 5 (eBin ixD (eBin addD (eRgL (eC (.int 21))) (eMk mkLst (aCons (eC (.int 3)) (aCons (eC (.int 4)) (aCons (eC (.int 7)) (aCons (eC (.int 0)) (aCons (eC (.int 5)) (aCons (eC (.int 3)) (aCons (eC (.int 4)) aNil))))))))) (eBin modD (eCall 2 m_l_cell_at (aCons (eVar 0) (aCons (eC (.int 1)) aNil))) (eC (.int 28)))))
    (sSeq (sSet 6 (eBin ixD (eBin addD (eRgL (eC (.int 13))) (eMk mkLst (aCons (eC (.int 0)) (aCons (eC (.int 1)) (aCons (eC (.int 2)) (aCons (eC (.int 3)) (aCons (eC (.int 4)) (aCons (eC (.int 0)) (aCons (eC (.int 1)) aNil))))))))) (eBin modD (eCall 2 m_l_cell_at (aCons (eVar 0) (aCons (eC (.int 2)) aNil))) (eC (.int 20)))))
    (sSeq (sSet 7 (eBin ixD (eMk mkLst (aCons (eC (.int 0)) (aCons (eC (.int 3)) (aCons (eUn negD (eC (.int 4))) (aCons (eBin subD (eBin powD (eC (.int 10)) (eC (.int 30))) (eC (.int 1))) (aCons (eBin subD (eC (.int 1)) (eBin powD (eC (.int 10)) (eC (.int 30)))) (aCons (eBin powD (eC (.int 10)) (eC (.int 30))) (aCons (eUn negD (eBin powD (eC (.int 10)) (eC (.int 30)))) (aCons (eC (.bl true)) (aCons (eC (.str "5")) (aCons (eC .non) (aCons (eMk mkLst (aCons (eC (.int 1)) aNil)) (aCons (eMk mkTup (aCons (eC (.int 1)) aNil)) (aCons eNewK aNil)))))))))))))) (eVar 6)))
    (sSeq (sSet 8 (eBin modD (eCall 2 m_l_cell_at (aCons (eVar 0) (aCons (eC (.int 3)) aNil))) (eC (.int 11))))
    (sSeq (sSet 9 (eBin ixD (eMk mkLst (aCons (eC .non) (aCons (eC (.int 1)) (aCons (eC (.int 2)) (aCons (eC (.int 0)) (aCons (eC (.int 3)) (aCons (eC (.bl true)) (aCons (eC (.str "1")) (aCons (eUn negD (eC (.int 1))) (aCons (eMk mkLst (aCons (eC (.int 1)) aNil)) (aCons (eMk mkTup (aCons (eC (.int 1)) aNil)) (aCons eNewK aNil)))))))))))) (eVar 8)))
    rest_law))))))
noncomputable def bdc_law : S :=
  (sSeq (sSet 1 (eCall 1 m_l_word_by (aCons (eCall 2 m_l_cell_at (aCons (eVar 0) (aCons (eC (.int 4)) aNil))) aNil)))
    (sSeq (sSet 2 (eCall 1 m_l_paths (aCons (eVar 1) aNil)))
    (sSeq (sSet 3 (eMake0 1 m_Store_init))
    (sSeq (sExpr (eMeth 1 3 m_Store_put (eVar 3) (aCons (eBin ixD (eVar 2) (eC (.int 1))) (aCons (eC (.int 5)) aNil))))
    (sSeq (sExpr (eMeth 1 3 m_Store_put (eVar 3) (aCons (eBin ixD (eVar 2) (eC (.int 2))) (aCons (eUn negD (eC (.int 7))) aNil))))
    (sSeq (sExpr (eMeth 1 1 m_Store_snap (eVar 3) aNil))
    (sSeq (sExpr (eMeth 1 2 m_Store_drop (eVar 3) (aCons (eMeth 1 1 m_Store_snap (eVar 3) aNil) aNil)))
    mid_law)))))))
theorem bdc_law_eq : bd_law = bdc_law := rfl
section
variable {m : Mem} {p b c h : Nat} {bs : List (Int × Bx)} {cs : List (Int × Int)} {K : Nat} {live : Int}
theorem rest_ok (X : SX m 3 p b c h bs cs K live [(1, live)] 2) (hK : K ≤ 200) (x0 x1 : Option Dv) {ps : List Dv} {way a nb vw : Int} {x n v : Dv} (hx : atI ps a = some x) (hps : ps.length ≤ 100) (T : Told m 3 way a nb (if 1 < vw then -1 else vw) x n v) :
    ∃ m', rest_law [x0, x1, some (.lst ps), some (.loc 3), some (.int way), some (.int a), some (.int nb), some n, some (.int vw), some v, none, none] m = .rt (.bl true) m' := by
  obtain ⟨d, hdue, hd⟩ := T
  have hidx : ∀ M, m_l_due [.int way, .int a, .int nb, .int (if 1 < vw then -1 else vw)] M = .ok (.str d) M := hdue
  have hk := kept_ok X.S.P
  have hsn := shots_ok X.S
  have ht0 := top_ok X.S (v := none) rfl
  have ht0 : m_Store_top [.loc 3, .non] m = .ok (.int live) m := ht0
  have ht1 := top_ok X.S (v := some 1) (t := live) rfl
  have ht1 : m_Store_top [.loc 3, .int 1] m = .ok (.int live) m := ht1
  have hB : pln 2 (.tup [.lst (((keys bs).mergeSort ile).map Dv.int), .int (K : Int), .int live, .lst (((keys [((1 : Int), live)]).mergeSort ile).map Dv.int), .int live]) = true := by
    have h1 := pln_ints 0 ((keys bs).mergeSort ile)
    have h2 := pln_ints 0 ((keys [((1 : Int), live)]).mergeSort ile)
    simp only [pln, plns] at h1 h2 ⊢
    simp [h1, h2]
  have heq : ∀ M, eqD (.tup [.lst (((keys bs).mergeSort ile).map Dv.int), .int (K : Int), .int live, .lst (((keys [((1 : Int), live)]).mergeSort ile).map Dv.int), .int live]) (.tup [.lst (((keys bs).mergeSort ile).map Dv.int), .int (K : Int), .int live, .lst (((keys [((1 : Int), live)]).mergeSort ile).map Dv.int), .int live]) M = .ok (.bl true) M := fun M => by
    have hv : ∀ ds, Sn.vw M (.tup ds) = .tup ds := fun _ => rfl
    rw [eqD_pln (n := 2) (m := M) (by decide) (by rw [hv]; exact hB) (by rw [hv]; exact hB) (.inl rfl)]
    simp
  generalize ((keys bs).mergeSort ile).map Dv.int = kl at *
  generalize ((keys [((1 : Int), live)]).mergeSort ile).map Dv.int = sl at *
  have l7 : (" value" : Str).length = 6 := by decide +kernel
  have hsel : ∀ M, ixD (.lst [.int vw, .int (-1)]) (.int (if 1 < vw then 1 else 0)) M = .ok (.int (if 1 < vw then -1 else vw)) M := fun M => by
    by_cases z : 1 < vw <;> simp [z]
  rcases hd with ⟨rfl, m', e⟩ | ⟨hne, hdl, e⟩
  · refine ⟨m', ?_⟩
    unfold rest_law
    by_cases z : 1 < vw
    · simp only [z, if_true] at hidx
      simp [z, hidx, ↓X.S.hs, ↓X.S.P.hp, hk, hsn, ht0, ht1, hx, e]
    · simp only [z, if_false] at hidx
      simp [z, hidx, ↓X.S.hs, ↓X.S.P.hp, hk, hsn, ht0, ht1, hx, e]
  · refine ⟨m, ?_⟩
    have hln : d.length + 6 ≤ 16777216 := by omega
    unfold rest_law
    by_cases z : 1 < vw
    · simp only [z, if_true] at hidx
      simp [z, hidx, ↓X.S.hs, ↓X.S.P.hp, hk, hsn, ht0, ht1, hx, e, hne, l7, hln, heq]
    · simp only [z, if_false] at hidx
      simp [z, hidx, ↓X.S.hs, ↓X.S.P.hp, hk, hsn, ht0, ht1, hx, e, hne, l7, hln, heq]
theorem mid_ok (X : SX m 3 p b c h bs cs K live [(1, live)] 2) (hK : K ≤ 200) {ns : List Int} {w : Str} (hw : AZ w) (hl : w.length ≤ 7) (hkv : ∀ q, kv bs (some live) q = Tq (w ++ "a") (w ++ "b") (w ++ "c") q) (g0 : m[0]? = some (.dic [])) (g1 : ∃ k, m[1]? = some (.dic k)) (g2 : m[2]? = some (.dic [])) :
    ∃ m', mid_law [some (.scr ns), some (.str w), some (.lst (pths w)), some (.loc 3), none, none, none, none, none, none, none, none] m = .rt (.bl true) m' := by
  have z0 : ∀ m, m_l_cell_at [.scr ns, .int 0] m = .ok (.int (cell ns 0)) m := by simpa using cell_at ns 0
  have z1 : ∀ m, m_l_cell_at [.scr ns, .int 1] m = .ok (.int (cell ns 1)) m := by simpa using cell_at ns 1
  have z2 : ∀ m, m_l_cell_at [.scr ns, .int 2] m = .ok (.int (cell ns 2)) m := by simpa using cell_at ns 2
  have z3 : ∀ m, m_l_cell_at [.scr ns, .int 3] m = .ok (.int (cell ns 3)) m := by simpa using cell_at ns 3
  obtain ⟨way, e4, hw4⟩ := ints_at (xs := [0, 0, 0, 0, 0, 0, 1, 2, 3, 4, 5, 6, 7, 8, 9]) (i := cell ns 0 % 15) (lo := 0) (hi := 9) (by omega) (by simp; omega) (by decide)
  obtain ⟨a, e5, ha⟩ := ints_at (xs := (List.range 21).map (fun i : Nat => (i : Int)) ++ [3, 4, 7, 0, 5, 3, 4]) (i := cell ns 1 % 28) (lo := 0) (hi := 20) (by omega) (by simp; omega) (by decide)
  obtain ⟨nb, e6, hnb⟩ := ints_at (xs := (List.range 13).map (fun i : Nat => (i : Int)) ++ [0, 1, 2, 3, 4, 0, 1]) (i := cell ns 2 % 20) (lo := 0) (hi := 12) (by omega) (by simp; omega) (by decide)
  have e4 : atI [Dv.int 0, .int 0, .int 0, .int 0, .int 0, .int 0, .int 1, .int 2, .int 3, .int 4, .int 5, .int 6, .int 7, .int 8, .int 9] (cell ns 0 % 15) = some (.int way) := e4
  have r1 : rng 0 21 ++ [Dv.int 3, .int 4, .int 7, .int 0, .int 5, .int 3, .int 4] = ((List.range 21).map (fun i : Nat => (i : Int)) ++ [3, 4, 7, 0, 5, 3, 4]).map Dv.int := by
    unfold rng
    simp
  have r2 : rng 0 13 ++ [Dv.int 0, .int 1, .int 2, .int 3, .int 4, .int 0, .int 1] = ((List.range 13).map (fun i : Nat => (i : Int)) ++ [0, 1, 2, 3, 4, 0, 1]).map Dv.int := by
    unfold rng
    simp
  rw [← r1] at e5
  rw [← r2] at e6
  have G : ∀ l M, eRgL (eC (.int 21)) l M = .ok (.lst (rng 0 21)) M := fun l M => by
    unfold eRgL
    simp [rng_length]
  have G2 : ∀ l M, eRgL (eC (.int 13)) l M = .ok (.lst (rng 0 13)) M := fun l M => by
    unfold eRgL
    simp [rng_length]
  have rl : (rng 0 21).length = 21 := rng_length 0 21
  have rl2 : (rng 0 13).length = 13 := rng_length 0 13
  generalize rng 0 21 = R1 at *
  generalize rng 0 13 = R2 at *
  generalize cell ns 3 = c3 at z3
  have X2 := (X.app [.dic []]).app [.dic []]
  have q1 : (m ++ [MO.dic []] ++ [.dic []])[m.length]? = some (.dic []) := by simp
  have q2 : (m ++ [MO.dic []] ++ [.dic []])[(m ++ [MO.dic []]).length]? = some (.dic []) := by simp
  obtain ⟨n, en, hn⟩ := num_class q1 hnb
  obtain ⟨v, ev, hv⟩ := view_class q2 live (vw := c3 % 11) (by omega)
  have hlm : ∀ k o, m[k]? = some o → (m ++ [MO.dic []] ++ [.dic []])[k]? = some o := fun k o hk => by
    have hk2 := lt_of_some hk
    rw [List.append_assoc, List.getElem?_append_left hk2]
    exact hk
  obtain ⟨k1, g1⟩ := g1
  obtain ⟨x, ex, hx⟩ := path_class hw hl hkv (hlm _ _ g0) ⟨k1, hlm _ _ g1⟩ (hlm _ _ g2) ha
  have T := told_all X2 hK rfl hw4 hx hn hv
  have hps : (pths w).length ≤ 100 := by simp [pths, goods, bads]
  obtain ⟨m', e⟩ := rest_ok X2 hK (some (.scr ns)) (some (.str w)) ex hps T
  refine ⟨m', ?_⟩
  have en : atI [Dv.int 0, .int 3, .int (-4), .int 999999999999999999999999999999, .int (-999999999999999999999999999999), .int 1000000000000000000000000000000, .int (-1000000000000000000000000000000), .bl true, .str "5", .non, .lst [.int 1], .tup [.int 1], .loc m.length] nb = some n := en
  have ev : atI [Dv.non, .int 1, .int 2, .int 0, .int 3, .bl true, .str "1", .int (-1), .lst [.int 1], .tup [.int 1], .loc (m ++ [MO.dic []]).length] (c3 % 11) = some v := ev
  have l1 : (m ++ [MO.dic []]).length = m.length + 1 := by simp
  rw [l1] at ev
  rw [List.append_assoc] at e
  have e : rest_law [some (.scr ns), some (.str w), some (.lst (pths w)), some (.loc 3), some (.int way), some (.int a), some (.int nb), some n, some (.int (c3 % 11)), some v, none, none] (m ++ [.dic [], .dic []]) = .rt (.bl true) m' := e
  unfold mid_law
  generalize pths w = P at *
  simp [z0, z1, z2, z3, e4, G, G2, rl, rl2, e5, e6, en, ev, e]
end
theorem main (ns : List Int) (hl : ns.length ≤ 63) : ∃ m, m_law [.scr ns] [] = .ok (.bl true) m := by
  have z4 : ∀ m, m_l_cell_at [.scr ns, .int 4] m = .ok (.int (cell ns 4)) m := by simpa using cell_at ns 4
  obtain ⟨w, hwd, hw, hwl⟩ := word_by (cell ns 4)
  have ho : gN (w ++ "a") := az_add hw hwl (by decide +kernel) (by unfold AZ; decide +kernel)
  have ht : gN (w ++ "b") := az_add hw hwl (by decide +kernel) (by unfold AZ; decide +kernel)
  have he : gN (w ++ "c") := az_add hw hwl (by decide +kernel) (by unfold AZ; decide +kernel)
  have hp := paths_ok hwl
  have h3 : (mem0 w).length = 3 := rfl
  have start := start_ok (m0 := mem0 w) ho ht he (add_ne (by decide +kernel))
  rw [h3] at start
  obtain ⟨m1, m2, m3, m4, m5, m6, p, b, c, h, bs, cs, K, live, g1, g2, g3, i1, i2, i3, i4, i5, i6, X, hK, hkv, keep, hs1, hs2, hs3, hs4, hs5⟩ := start
  obtain ⟨d1, hs1⟩ := hs1
  obtain ⟨d2, hs2⟩ := hs2
  obtain ⟨d3, hs3⟩ := hs3
  obtain ⟨d4, hs4⟩ := hs4
  obtain ⟨d5, hs5⟩ := hs5
  obtain ⟨m', e⟩ := mid_ok X (by omega) (ns := ns) hw hwl hkv (keep 0 (by omega)) ⟨_, keep 1 (by omega)⟩ (keep 2 (by omega))
  obtain ⟨mE, hE⟩ := fin_true [] m'
  refine ⟨mE, ?_⟩
  have a1 : atI (pths w) 1 = some (.lst ([w ++ "a", w ++ "b"].map Dv.str)) := atI_nat (j := 1) rfl
  have a2 : atI (pths w) 2 = some (.lst ([w ++ "c"].map Dv.str)) := atI_nat (j := 2) rfl
  generalize [w ++ "a", w ++ "b"].map Dv.str = qa at *
  generalize [w ++ "c"].map Dv.str = qb at *
  generalize pths w = P at *
  generalize mem0 w = m0 at *
  unfold m_law mkFn
  rw [bdc_law_eq]
  unfold bdc_law
  simp [z4, hwd, hp, h3, i1, a1, a2, ↓hs1, i2, ↓hs2, i3, ↓hs3, i4, ↓hs4, i5, ↓hs5, i6, e, hE]
end Law
/-! Z_k05 -/
set_option Elab.async false
set_option linter.all false
set_option maxRecDepth 100000
set_option autoImplicit false
set_option maxHeartbeats 4000000
namespace Law
open PySem PySem.Spec PyProof.Rows L2 Sn
theorem all_mk {l : PySem.W.OpenLaw} {w : World} {K : PySem.W.Frag} {h : Heap} {mg : Str → Option Value} {fa : Addr} (X : K.In h) (G : h.Ns mainGlobals mg) (hfa : mg "law" = some (.ref fa))
    {c_Store : Addr} {c_Pile : Addr} {f_l_word_by : Addr} {od_l_word_by an_l_word_by : Option Addr} {sl_l_word_by : Array (Option Value)} {oc_l_word_by kV_l_word_by dc_l_word_by pm_l_word_by cd_l_word_by ct_l_word_by : Value} {f_l_paths : Addr} {od_l_paths an_l_paths : Option Addr} {sl_l_paths : Array (Option Value)} {oc_l_paths kV_l_paths dc_l_paths pm_l_paths cd_l_paths ct_l_paths : Value} {f_Pile_init : Addr} {od_Pile_init an_Pile_init : Option Addr} {sl_Pile_init : Array (Option Value)} {oc_Pile_init kV_Pile_init dc_Pile_init pm_Pile_init cd_Pile_init ct_Pile_init : Value} {f_Pile_fresh : Addr} {od_Pile_fresh an_Pile_fresh : Option Addr} {sl_Pile_fresh : Array (Option Value)} {oc_Pile_fresh kV_Pile_fresh dc_Pile_fresh pm_Pile_fresh cd_Pile_fresh ct_Pile_fresh : Value} {f_Pile_need : Addr} {od_Pile_need an_Pile_need : Option Addr} {sl_Pile_need : Array (Option Value)} {oc_Pile_need kV_Pile_need dc_Pile_need pm_Pile_need cd_Pile_need ct_Pile_need : Value} {f_Pile_hold : Addr} {od_Pile_hold an_Pile_hold : Option Addr} {sl_Pile_hold : Array (Option Value)} {oc_Pile_hold kV_Pile_hold dc_Pile_hold pm_Pile_hold cd_Pile_hold ct_Pile_hold : Value} {f_Pile_branch : Addr} {od_Pile_branch an_Pile_branch : Option Addr} {sl_Pile_branch : Array (Option Value)} {oc_Pile_branch kV_Pile_branch dc_Pile_branch pm_Pile_branch cd_Pile_branch ct_Pile_branch : Value} {f_Store_init : Addr} {od_Store_init an_Store_init : Option Addr} {sl_Store_init : Array (Option Value)} {oc_Store_init kV_Store_init dc_Store_init pm_Store_init cd_Store_init ct_Store_init : Value} {f_is_name : Addr} {od_is_name an_is_name : Option Addr} {sl_is_name : Array (Option Value)} {oc_is_name kV_is_name dc_is_name pm_is_name cd_is_name ct_is_name : Value} {f_checked : Addr} {od_checked an_checked : Option Addr} {sl_checked : Array (Option Value)} {oc_checked kV_checked dc_checked pm_checked cd_checked ct_checked : Value} {f_Pile_let_go : Addr} {od_Pile_let_go an_Pile_let_go : Option Addr} {sl_Pile_let_go : Array (Option Value)} {oc_Pile_let_go kV_Pile_let_go dc_Pile_let_go pm_Pile_let_go cd_Pile_let_go ct_Pile_let_go : Value} {f_Store_turned : Addr} {od_Store_turned an_Store_turned : Option Addr} {sl_Store_turned : Array (Option Value)} {oc_Store_turned kV_Store_turned dc_Store_turned pm_Store_turned cd_Store_turned ct_Store_turned : Value} {f_box_of : Addr} {od_box_of an_box_of : Option Addr} {sl_box_of : Array (Option Value)} {oc_box_of kV_box_of dc_box_of pm_box_of cd_box_of ct_box_of : Value} {f_Pile_content : Addr} {od_Pile_content an_Pile_content : Option Addr} {sl_Pile_content : Array (Option Value)} {oc_Pile_content kV_Pile_content dc_Pile_content pm_Pile_content cd_Pile_content ct_Pile_content : Value} {f_rows_in : Addr} {od_rows_in an_rows_in : Option Addr} {sl_rows_in : Array (Option Value)} {oc_rows_in kV_rows_in dc_rows_in pm_rows_in cd_rows_in ct_rows_in : Value} {f_found : Addr} {od_found an_found : Option Addr} {sl_found : Array (Option Value)} {oc_found kV_found dc_found pm_found cd_found ct_found : Value} {f_Store_top : Addr} {od_Store_top an_Store_top : Option Addr} {sl_Store_top : Array (Option Value)} {oc_Store_top kV_Store_top dc_Store_top pm_Store_top cd_Store_top ct_Store_top : Value} {f_Store_kind : Addr} {od_Store_kind an_Store_kind : Option Addr} {sl_Store_kind : Array (Option Value)} {oc_Store_kind kV_Store_kind dc_Store_kind pm_Store_kind cd_Store_kind ct_Store_kind : Value} {f_without : Addr} {od_without an_without : Option Addr} {sl_without : Array (Option Value)} {oc_without kV_without dc_without pm_without cd_without ct_without : Value} {f_placed : Addr} {od_placed an_placed : Option Addr} {sl_placed : Array (Option Value)} {oc_placed kV_placed dc_placed pm_placed cd_placed ct_placed : Value} {f_rebuilt : Addr} {od_rebuilt an_rebuilt : Option Addr} {sl_rebuilt : Array (Option Value)} {oc_rebuilt kV_rebuilt dc_rebuilt pm_rebuilt cd_rebuilt ct_rebuilt : Value} {f_Store_value : Addr} {od_Store_value an_Store_value : Option Addr} {sl_Store_value : Array (Option Value)} {oc_Store_value kV_Store_value dc_Store_value pm_Store_value cd_Store_value ct_Store_value : Value} {f_Pile_leaf : Addr} {od_Pile_leaf an_Pile_leaf : Option Addr} {sl_Pile_leaf : Array (Option Value)} {oc_Pile_leaf kV_Pile_leaf dc_Pile_leaf pm_Pile_leaf cd_Pile_leaf ct_Pile_leaf : Value} {f_Store_put : Addr} {od_Store_put an_Store_put : Option Addr} {sl_Store_put : Array (Option Value)} {oc_Store_put kV_Store_put dc_Store_put pm_Store_put cd_Store_put ct_Store_put : Value} {f_Store_snap : Addr} {od_Store_snap an_Store_snap : Option Addr} {sl_Store_snap : Array (Option Value)} {oc_Store_snap kV_Store_snap dc_Store_snap pm_Store_snap cd_Store_snap ct_Store_snap : Value} {f_Store_drop : Addr} {od_Store_drop an_Store_drop : Option Addr} {sl_Store_drop : Array (Option Value)} {oc_Store_drop kV_Store_drop dc_Store_drop pm_Store_drop cd_Store_drop ct_Store_drop : Value} {f_l_due_of_view : Addr} {od_l_due_of_view an_l_due_of_view : Option Addr} {sl_l_due_of_view : Array (Option Value)} {oc_l_due_of_view kV_l_due_of_view dc_l_due_of_view pm_l_due_of_view cd_l_due_of_view ct_l_due_of_view : Value} {f_l_due : Addr} {od_l_due an_l_due : Option Addr} {sl_l_due : Array (Option Value)} {oc_l_due kV_l_due dc_l_due pm_l_due cd_l_due ct_l_due : Value} {f_l_cell_at : Addr} {od_l_cell_at an_l_cell_at : Option Addr} {sl_l_cell_at : Array (Option Value)} {oc_l_cell_at kV_l_cell_at dc_l_cell_at pm_l_cell_at cd_l_cell_at ct_l_cell_at : Value} {f_Pile_kept : Addr} {od_Pile_kept an_Pile_kept : Option Addr} {sl_Pile_kept : Array (Option Value)} {oc_Pile_kept kV_Pile_kept dc_Pile_kept pm_Pile_kept cd_Pile_kept ct_Pile_kept : Value} {f_Store_shot_numbers : Addr} {od_Store_shot_numbers an_Store_shot_numbers : Option Addr} {sl_Store_shot_numbers : Array (Option Value)} {oc_Store_shot_numbers kV_Store_shot_numbers dc_Store_shot_numbers pm_Store_shot_numbers cd_Store_shot_numbers ct_Store_shot_numbers : Value} {f_Store_cut : Addr} {od_Store_cut an_Store_cut : Option Addr} {sl_Store_cut : Array (Option Value)} {oc_Store_cut kV_Store_cut dc_Store_cut pm_Store_cut cd_Store_cut ct_Store_cut : Value} {f_Store_back : Addr} {od_Store_back an_Store_back : Option Addr} {sl_Store_back : Array (Option Value)} {oc_Store_back kV_Store_back dc_Store_back pm_Store_back cd_Store_back ct_Store_back : Value} {f_Store_names : Addr} {od_Store_names an_Store_names : Option Addr} {sl_Store_names : Array (Option Value)} {oc_Store_names kV_Store_names dc_Store_names pm_Store_names cd_Store_names ct_Store_names : Value} {f_number_in : Addr} {od_number_in an_number_in : Option Addr} {sl_number_in : Array (Option Value)} {oc_number_in kV_number_in dc_number_in pm_number_in cd_number_in ct_number_in : Value} {f_path_of : Addr} {od_path_of an_path_of : Option Addr} {sl_path_of : Array (Option Value)} {oc_path_of kV_path_of dc_path_of pm_path_of cd_path_of ct_path_of : Value} {f_differences : Addr} {od_differences an_differences : Option Addr} {sl_differences : Array (Option Value)} {oc_differences kV_differences dc_differences pm_differences cd_differences ct_differences : Value} {f_Store_changes : Addr} {od_Store_changes an_Store_changes : Option Addr} {sl_Store_changes : Array (Option Value)} {oc_Store_changes kV_Store_changes dc_Store_changes pm_Store_changes cd_Store_changes ct_Store_changes : Value} {f_l_asked : Addr} {od_l_asked an_l_asked : Option Addr} {sl_l_asked : Array (Option Value)} {oc_l_asked kV_l_asked dc_l_asked pm_l_asked cd_l_asked ct_l_asked : Value} {f_l_told : Addr} {od_l_told an_l_told : Option Addr} {sl_l_told : Array (Option Value)} {oc_l_told kV_l_told dc_l_told pm_l_told cd_l_told ct_l_told : Value} {f_law : Addr} {od_law an_law : Option Addr} {sl_law : Array (Option Value)} {oc_law kV_law dc_law pm_law cd_law ct_law : Value} {x_SnapError : Addr} {x_BadPath : Addr} {x_BadNumber : Addr} {x_Nothing : Addr} {x_LeafThere : Addr} {x_BranchThere : Addr} {x_NoShot : Addr} {x_NoBox : Addr} {t_BOUND : Tok} {t_LETTERS : Tok} {t_MOST_LETTERS : Tok} {t_MOST_NAMES : Tok}
    (n_Store : PySem.W.nsIn K mainGlobals "Store" = some (some (.ref c_Store)))
    (n_Pile : PySem.W.nsIn K mainGlobals "Pile" = some (some (.ref c_Pile)))
    (a_l_word_by : PySem.W.nsIn K mainGlobals "_law_word_by" = some (some (.ref f_l_word_by)))
    (l_l_word_by : K.lookup f_l_word_by = some ⟨oc_l_word_by, od_l_word_by, .func (PySem.W.fnOf "_law_word_by" "_law_word_by" (defArgs s_l_word_by) (defBody s_l_word_by) (defScope s_l_word_by) .none kV_l_word_by dc_l_word_by pm_l_word_by an_l_word_by cd_l_word_by ct_l_word_by), sl_l_word_by⟩)
    (c_l_word_by : PySem.W.codeIn K cd_l_word_by "_law_word_by" = true)
    (k_l_word_by : PySem.W.keepIn K (.ref f_l_word_by) = true)
    (a_l_paths : PySem.W.nsIn K mainGlobals "_law_paths" = some (some (.ref f_l_paths)))
    (l_l_paths : K.lookup f_l_paths = some ⟨oc_l_paths, od_l_paths, .func (PySem.W.fnOf "_law_paths" "_law_paths" (defArgs s_l_paths) (defBody s_l_paths) (defScope s_l_paths) .none kV_l_paths dc_l_paths pm_l_paths an_l_paths cd_l_paths ct_l_paths), sl_l_paths⟩)
    (c_l_paths : PySem.W.codeIn K cd_l_paths "_law_paths" = true)
    (k_l_paths : PySem.W.keepIn K (.ref f_l_paths) = true)
    (a_Pile_init : PySem.W.findIn K (.ref c_Pile) "__init__" = some (some (.ref f_Pile_init)))
    (i_Pile_init : PySem.W.isFn K (.ref f_Pile_init) = true)
    (l_Pile_init : K.lookup f_Pile_init = some ⟨oc_Pile_init, od_Pile_init, .func (PySem.W.fnOf "__init__" "Pile.__init__" (defArgs s_Pile_init) (defBody s_Pile_init) (defScope s_Pile_init) .none kV_Pile_init dc_Pile_init pm_Pile_init an_Pile_init cd_Pile_init ct_Pile_init), sl_Pile_init⟩)
    (c_Pile_init : PySem.W.codeIn K cd_Pile_init "Pile.__init__" = true)
    (k_Pile_init : PySem.W.keepIn K (.ref f_Pile_init) = true)
    (a_Pile_fresh : PySem.W.findIn K (.ref c_Pile) "fresh" = some (some (.ref f_Pile_fresh)))
    (i_Pile_fresh : PySem.W.isFn K (.ref f_Pile_fresh) = true)
    (l_Pile_fresh : K.lookup f_Pile_fresh = some ⟨oc_Pile_fresh, od_Pile_fresh, .func (PySem.W.fnOf "fresh" "Pile.fresh" (defArgs s_Pile_fresh) (defBody s_Pile_fresh) (defScope s_Pile_fresh) .none kV_Pile_fresh dc_Pile_fresh pm_Pile_fresh an_Pile_fresh cd_Pile_fresh ct_Pile_fresh), sl_Pile_fresh⟩)
    (c_Pile_fresh : PySem.W.codeIn K cd_Pile_fresh "Pile.fresh" = true)
    (k_Pile_fresh : PySem.W.keepIn K (.ref f_Pile_fresh) = true)
    (a_Pile_need : PySem.W.findIn K (.ref c_Pile) "need" = some (some (.ref f_Pile_need)))
    (i_Pile_need : PySem.W.isFn K (.ref f_Pile_need) = true)
    (l_Pile_need : K.lookup f_Pile_need = some ⟨oc_Pile_need, od_Pile_need, .func (PySem.W.fnOf "need" "Pile.need" (defArgs s_Pile_need) (defBody s_Pile_need) (defScope s_Pile_need) .none kV_Pile_need dc_Pile_need pm_Pile_need an_Pile_need cd_Pile_need ct_Pile_need), sl_Pile_need⟩)
    (c_Pile_need : PySem.W.codeIn K cd_Pile_need "Pile.need" = true)
    (k_Pile_need : PySem.W.keepIn K (.ref f_Pile_need) = true)
    (a_Pile_hold : PySem.W.findIn K (.ref c_Pile) "hold" = some (some (.ref f_Pile_hold)))
    (i_Pile_hold : PySem.W.isFn K (.ref f_Pile_hold) = true)
    (l_Pile_hold : K.lookup f_Pile_hold = some ⟨oc_Pile_hold, od_Pile_hold, .func (PySem.W.fnOf "hold" "Pile.hold" (defArgs s_Pile_hold) (defBody s_Pile_hold) (defScope s_Pile_hold) .none kV_Pile_hold dc_Pile_hold pm_Pile_hold an_Pile_hold cd_Pile_hold ct_Pile_hold), sl_Pile_hold⟩)
    (c_Pile_hold : PySem.W.codeIn K cd_Pile_hold "Pile.hold" = true)
    (k_Pile_hold : PySem.W.keepIn K (.ref f_Pile_hold) = true)
    (a_Pile_branch : PySem.W.findIn K (.ref c_Pile) "branch" = some (some (.ref f_Pile_branch)))
    (i_Pile_branch : PySem.W.isFn K (.ref f_Pile_branch) = true)
    (l_Pile_branch : K.lookup f_Pile_branch = some ⟨oc_Pile_branch, od_Pile_branch, .func (PySem.W.fnOf "branch" "Pile.branch" (defArgs s_Pile_branch) (defBody s_Pile_branch) (defScope s_Pile_branch) .none kV_Pile_branch dc_Pile_branch pm_Pile_branch an_Pile_branch cd_Pile_branch ct_Pile_branch), sl_Pile_branch⟩)
    (c_Pile_branch : PySem.W.codeIn K cd_Pile_branch "Pile.branch" = true)
    (k_Pile_branch : PySem.W.keepIn K (.ref f_Pile_branch) = true)
    (a_Store_init : PySem.W.findIn K (.ref c_Store) "__init__" = some (some (.ref f_Store_init)))
    (i_Store_init : PySem.W.isFn K (.ref f_Store_init) = true)
    (l_Store_init : K.lookup f_Store_init = some ⟨oc_Store_init, od_Store_init, .func (PySem.W.fnOf "__init__" "Store.__init__" (defArgs s_Store_init) (defBody s_Store_init) (defScope s_Store_init) .none kV_Store_init dc_Store_init pm_Store_init an_Store_init cd_Store_init ct_Store_init), sl_Store_init⟩)
    (c_Store_init : PySem.W.codeIn K cd_Store_init "Store.__init__" = true)
    (k_Store_init : PySem.W.keepIn K (.ref f_Store_init) = true)
    (a_is_name : PySem.W.nsIn K mainGlobals "is_name" = some (some (.ref f_is_name)))
    (l_is_name : K.lookup f_is_name = some ⟨oc_is_name, od_is_name, .func (PySem.W.fnOf "is_name" "is_name" (defArgs s_is_name) (defBody s_is_name) (defScope s_is_name) .none kV_is_name dc_is_name pm_is_name an_is_name cd_is_name ct_is_name), sl_is_name⟩)
    (c_is_name : PySem.W.codeIn K cd_is_name "is_name" = true)
    (k_is_name : PySem.W.keepIn K (.ref f_is_name) = true)
    (a_checked : PySem.W.nsIn K mainGlobals "checked" = some (some (.ref f_checked)))
    (l_checked : K.lookup f_checked = some ⟨oc_checked, od_checked, .func (PySem.W.fnOf "checked" "checked" (defArgs s_checked) (defBody s_checked) (defScope s_checked) .none kV_checked dc_checked pm_checked an_checked cd_checked ct_checked), sl_checked⟩)
    (c_checked : PySem.W.codeIn K cd_checked "checked" = true)
    (k_checked : PySem.W.keepIn K (.ref f_checked) = true)
    (a_Pile_let_go : PySem.W.findIn K (.ref c_Pile) "let_go" = some (some (.ref f_Pile_let_go)))
    (i_Pile_let_go : PySem.W.isFn K (.ref f_Pile_let_go) = true)
    (l_Pile_let_go : K.lookup f_Pile_let_go = some ⟨oc_Pile_let_go, od_Pile_let_go, .func (PySem.W.fnOf "let_go" "Pile.let_go" (defArgs s_Pile_let_go) (defBody s_Pile_let_go) (defScope s_Pile_let_go) .none kV_Pile_let_go dc_Pile_let_go pm_Pile_let_go an_Pile_let_go cd_Pile_let_go ct_Pile_let_go), sl_Pile_let_go⟩)
    (c_Pile_let_go : PySem.W.codeIn K cd_Pile_let_go "Pile.let_go" = true)
    (k_Pile_let_go : PySem.W.keepIn K (.ref f_Pile_let_go) = true)
    (a_Store_turned : PySem.W.findIn K (.ref c_Store) "turned" = some (some (.ref f_Store_turned)))
    (i_Store_turned : PySem.W.isFn K (.ref f_Store_turned) = true)
    (l_Store_turned : K.lookup f_Store_turned = some ⟨oc_Store_turned, od_Store_turned, .func (PySem.W.fnOf "turned" "Store.turned" (defArgs s_Store_turned) (defBody s_Store_turned) (defScope s_Store_turned) .none kV_Store_turned dc_Store_turned pm_Store_turned an_Store_turned cd_Store_turned ct_Store_turned), sl_Store_turned⟩)
    (c_Store_turned : PySem.W.codeIn K cd_Store_turned "Store.turned" = true)
    (k_Store_turned : PySem.W.keepIn K (.ref f_Store_turned) = true)
    (a_box_of : PySem.W.nsIn K mainGlobals "box_of" = some (some (.ref f_box_of)))
    (l_box_of : K.lookup f_box_of = some ⟨oc_box_of, od_box_of, .func (PySem.W.fnOf "box_of" "box_of" (defArgs s_box_of) (defBody s_box_of) (defScope s_box_of) .none kV_box_of dc_box_of pm_box_of an_box_of cd_box_of ct_box_of), sl_box_of⟩)
    (c_box_of : PySem.W.codeIn K cd_box_of "box_of" = true)
    (k_box_of : PySem.W.keepIn K (.ref f_box_of) = true)
    (a_Pile_content : PySem.W.findIn K (.ref c_Pile) "content" = some (some (.ref f_Pile_content)))
    (i_Pile_content : PySem.W.isFn K (.ref f_Pile_content) = true)
    (l_Pile_content : K.lookup f_Pile_content = some ⟨oc_Pile_content, od_Pile_content, .func (PySem.W.fnOf "content" "Pile.content" (defArgs s_Pile_content) (defBody s_Pile_content) (defScope s_Pile_content) .none kV_Pile_content dc_Pile_content pm_Pile_content an_Pile_content cd_Pile_content ct_Pile_content), sl_Pile_content⟩)
    (c_Pile_content : PySem.W.codeIn K cd_Pile_content "Pile.content" = true)
    (k_Pile_content : PySem.W.keepIn K (.ref f_Pile_content) = true)
    (a_rows_in : PySem.W.nsIn K mainGlobals "rows_in" = some (some (.ref f_rows_in)))
    (l_rows_in : K.lookup f_rows_in = some ⟨oc_rows_in, od_rows_in, .func (PySem.W.fnOf "rows_in" "rows_in" (defArgs s_rows_in) (defBody s_rows_in) (defScope s_rows_in) .none kV_rows_in dc_rows_in pm_rows_in an_rows_in cd_rows_in ct_rows_in), sl_rows_in⟩)
    (c_rows_in : PySem.W.codeIn K cd_rows_in "rows_in" = true)
    (k_rows_in : PySem.W.keepIn K (.ref f_rows_in) = true)
    (a_found : PySem.W.nsIn K mainGlobals "found" = some (some (.ref f_found)))
    (l_found : K.lookup f_found = some ⟨oc_found, od_found, .func (PySem.W.fnOf "found" "found" (defArgs s_found) (defBody s_found) (defScope s_found) .none kV_found dc_found pm_found an_found cd_found ct_found), sl_found⟩)
    (c_found : PySem.W.codeIn K cd_found "found" = true)
    (k_found : PySem.W.keepIn K (.ref f_found) = true)
    (a_Store_top : PySem.W.findIn K (.ref c_Store) "top" = some (some (.ref f_Store_top)))
    (i_Store_top : PySem.W.isFn K (.ref f_Store_top) = true)
    (l_Store_top : K.lookup f_Store_top = some ⟨oc_Store_top, od_Store_top, .func (PySem.W.fnOf "top" "Store.top" (defArgs s_Store_top) (defBody s_Store_top) (defScope s_Store_top) .none kV_Store_top dc_Store_top pm_Store_top an_Store_top cd_Store_top ct_Store_top), sl_Store_top⟩)
    (c_Store_top : PySem.W.codeIn K cd_Store_top "Store.top" = true)
    (k_Store_top : PySem.W.keepIn K (.ref f_Store_top) = true)
    (a_Store_kind : PySem.W.findIn K (.ref c_Store) "kind" = some (some (.ref f_Store_kind)))
    (i_Store_kind : PySem.W.isFn K (.ref f_Store_kind) = true)
    (l_Store_kind : K.lookup f_Store_kind = some ⟨oc_Store_kind, od_Store_kind, .func (PySem.W.fnOf "kind" "Store.kind" (defArgs s_Store_kind) (defBody s_Store_kind) (defScope s_Store_kind) .none kV_Store_kind dc_Store_kind pm_Store_kind an_Store_kind cd_Store_kind ct_Store_kind), sl_Store_kind⟩)
    (c_Store_kind : PySem.W.codeIn K cd_Store_kind "Store.kind" = true)
    (k_Store_kind : PySem.W.keepIn K (.ref f_Store_kind) = true)
    (a_without : PySem.W.nsIn K mainGlobals "without" = some (some (.ref f_without)))
    (l_without : K.lookup f_without = some ⟨oc_without, od_without, .func (PySem.W.fnOf "without" "without" (defArgs s_without) (defBody s_without) (defScope s_without) .none kV_without dc_without pm_without an_without cd_without ct_without), sl_without⟩)
    (c_without : PySem.W.codeIn K cd_without "without" = true)
    (k_without : PySem.W.keepIn K (.ref f_without) = true)
    (a_placed : PySem.W.nsIn K mainGlobals "placed" = some (some (.ref f_placed)))
    (l_placed : K.lookup f_placed = some ⟨oc_placed, od_placed, .func (PySem.W.fnOf "placed" "placed" (defArgs s_placed) (defBody s_placed) (defScope s_placed) .none kV_placed dc_placed pm_placed an_placed cd_placed ct_placed), sl_placed⟩)
    (c_placed : PySem.W.codeIn K cd_placed "placed" = true)
    (k_placed : PySem.W.keepIn K (.ref f_placed) = true)
    (a_rebuilt : PySem.W.nsIn K mainGlobals "rebuilt" = some (some (.ref f_rebuilt)))
    (l_rebuilt : K.lookup f_rebuilt = some ⟨oc_rebuilt, od_rebuilt, .func (PySem.W.fnOf "rebuilt" "rebuilt" (defArgs s_rebuilt) (defBody s_rebuilt) (defScope s_rebuilt) .none kV_rebuilt dc_rebuilt pm_rebuilt an_rebuilt cd_rebuilt ct_rebuilt), sl_rebuilt⟩)
    (c_rebuilt : PySem.W.codeIn K cd_rebuilt "rebuilt" = true)
    (k_rebuilt : PySem.W.keepIn K (.ref f_rebuilt) = true)
    (a_Store_value : PySem.W.findIn K (.ref c_Store) "value" = some (some (.ref f_Store_value)))
    (i_Store_value : PySem.W.isFn K (.ref f_Store_value) = true)
    (l_Store_value : K.lookup f_Store_value = some ⟨oc_Store_value, od_Store_value, .func (PySem.W.fnOf "value" "Store.value" (defArgs s_Store_value) (defBody s_Store_value) (defScope s_Store_value) .none kV_Store_value dc_Store_value pm_Store_value an_Store_value cd_Store_value ct_Store_value), sl_Store_value⟩)
    (c_Store_value : PySem.W.codeIn K cd_Store_value "Store.value" = true)
    (k_Store_value : PySem.W.keepIn K (.ref f_Store_value) = true)
    (a_Pile_leaf : PySem.W.findIn K (.ref c_Pile) "leaf" = some (some (.ref f_Pile_leaf)))
    (i_Pile_leaf : PySem.W.isFn K (.ref f_Pile_leaf) = true)
    (l_Pile_leaf : K.lookup f_Pile_leaf = some ⟨oc_Pile_leaf, od_Pile_leaf, .func (PySem.W.fnOf "leaf" "Pile.leaf" (defArgs s_Pile_leaf) (defBody s_Pile_leaf) (defScope s_Pile_leaf) .none kV_Pile_leaf dc_Pile_leaf pm_Pile_leaf an_Pile_leaf cd_Pile_leaf ct_Pile_leaf), sl_Pile_leaf⟩)
    (c_Pile_leaf : PySem.W.codeIn K cd_Pile_leaf "Pile.leaf" = true)
    (k_Pile_leaf : PySem.W.keepIn K (.ref f_Pile_leaf) = true)
    (a_Store_put : PySem.W.findIn K (.ref c_Store) "put" = some (some (.ref f_Store_put)))
    (i_Store_put : PySem.W.isFn K (.ref f_Store_put) = true)
    (l_Store_put : K.lookup f_Store_put = some ⟨oc_Store_put, od_Store_put, .func (PySem.W.fnOf "put" "Store.put" (defArgs s_Store_put) (defBody s_Store_put) (defScope s_Store_put) .none kV_Store_put dc_Store_put pm_Store_put an_Store_put cd_Store_put ct_Store_put), sl_Store_put⟩)
    (c_Store_put : PySem.W.codeIn K cd_Store_put "Store.put" = true)
    (k_Store_put : PySem.W.keepIn K (.ref f_Store_put) = true)
    (a_Store_snap : PySem.W.findIn K (.ref c_Store) "snap" = some (some (.ref f_Store_snap)))
    (i_Store_snap : PySem.W.isFn K (.ref f_Store_snap) = true)
    (l_Store_snap : K.lookup f_Store_snap = some ⟨oc_Store_snap, od_Store_snap, .func (PySem.W.fnOf "snap" "Store.snap" (defArgs s_Store_snap) (defBody s_Store_snap) (defScope s_Store_snap) .none kV_Store_snap dc_Store_snap pm_Store_snap an_Store_snap cd_Store_snap ct_Store_snap), sl_Store_snap⟩)
    (c_Store_snap : PySem.W.codeIn K cd_Store_snap "Store.snap" = true)
    (k_Store_snap : PySem.W.keepIn K (.ref f_Store_snap) = true)
    (a_Store_drop : PySem.W.findIn K (.ref c_Store) "drop" = some (some (.ref f_Store_drop)))
    (i_Store_drop : PySem.W.isFn K (.ref f_Store_drop) = true)
    (l_Store_drop : K.lookup f_Store_drop = some ⟨oc_Store_drop, od_Store_drop, .func (PySem.W.fnOf "drop" "Store.drop" (defArgs s_Store_drop) (defBody s_Store_drop) (defScope s_Store_drop) .none kV_Store_drop dc_Store_drop pm_Store_drop an_Store_drop cd_Store_drop ct_Store_drop), sl_Store_drop⟩)
    (c_Store_drop : PySem.W.codeIn K cd_Store_drop "Store.drop" = true)
    (k_Store_drop : PySem.W.keepIn K (.ref f_Store_drop) = true)
    (a_l_due_of_view : PySem.W.nsIn K mainGlobals "_law_due_of_view" = some (some (.ref f_l_due_of_view)))
    (l_l_due_of_view : K.lookup f_l_due_of_view = some ⟨oc_l_due_of_view, od_l_due_of_view, .func (PySem.W.fnOf "_law_due_of_view" "_law_due_of_view" (defArgs s_l_due_of_view) (defBody s_l_due_of_view) (defScope s_l_due_of_view) .none kV_l_due_of_view dc_l_due_of_view pm_l_due_of_view an_l_due_of_view cd_l_due_of_view ct_l_due_of_view), sl_l_due_of_view⟩)
    (c_l_due_of_view : PySem.W.codeIn K cd_l_due_of_view "_law_due_of_view" = true)
    (k_l_due_of_view : PySem.W.keepIn K (.ref f_l_due_of_view) = true)
    (a_l_due : PySem.W.nsIn K mainGlobals "_law_due" = some (some (.ref f_l_due)))
    (l_l_due : K.lookup f_l_due = some ⟨oc_l_due, od_l_due, .func (PySem.W.fnOf "_law_due" "_law_due" (defArgs s_l_due) (defBody s_l_due) (defScope s_l_due) .none kV_l_due dc_l_due pm_l_due an_l_due cd_l_due ct_l_due), sl_l_due⟩)
    (c_l_due : PySem.W.codeIn K cd_l_due "_law_due" = true)
    (k_l_due : PySem.W.keepIn K (.ref f_l_due) = true)
    (a_l_cell_at : PySem.W.nsIn K mainGlobals "_law_cell_at" = some (some (.ref f_l_cell_at)))
    (l_l_cell_at : K.lookup f_l_cell_at = some ⟨oc_l_cell_at, od_l_cell_at, .func (PySem.W.fnOf "_law_cell_at" "_law_cell_at" (defArgs s_l_cell_at) (defBody s_l_cell_at) (defScope s_l_cell_at) .none kV_l_cell_at dc_l_cell_at pm_l_cell_at an_l_cell_at cd_l_cell_at ct_l_cell_at), sl_l_cell_at⟩)
    (c_l_cell_at : PySem.W.codeIn K cd_l_cell_at "_law_cell_at" = true)
    (k_l_cell_at : PySem.W.keepIn K (.ref f_l_cell_at) = true)
    (a_Pile_kept : PySem.W.findIn K (.ref c_Pile) "kept" = some (some (.ref f_Pile_kept)))
    (i_Pile_kept : PySem.W.isFn K (.ref f_Pile_kept) = true)
    (l_Pile_kept : K.lookup f_Pile_kept = some ⟨oc_Pile_kept, od_Pile_kept, .func (PySem.W.fnOf "kept" "Pile.kept" (defArgs s_Pile_kept) (defBody s_Pile_kept) (defScope s_Pile_kept) .none kV_Pile_kept dc_Pile_kept pm_Pile_kept an_Pile_kept cd_Pile_kept ct_Pile_kept), sl_Pile_kept⟩)
    (c_Pile_kept : PySem.W.codeIn K cd_Pile_kept "Pile.kept" = true)
    (k_Pile_kept : PySem.W.keepIn K (.ref f_Pile_kept) = true)
    (a_Store_shot_numbers : PySem.W.findIn K (.ref c_Store) "shot_numbers" = some (some (.ref f_Store_shot_numbers)))
    (i_Store_shot_numbers : PySem.W.isFn K (.ref f_Store_shot_numbers) = true)
    (l_Store_shot_numbers : K.lookup f_Store_shot_numbers = some ⟨oc_Store_shot_numbers, od_Store_shot_numbers, .func (PySem.W.fnOf "shot_numbers" "Store.shot_numbers" (defArgs s_Store_shot_numbers) (defBody s_Store_shot_numbers) (defScope s_Store_shot_numbers) .none kV_Store_shot_numbers dc_Store_shot_numbers pm_Store_shot_numbers an_Store_shot_numbers cd_Store_shot_numbers ct_Store_shot_numbers), sl_Store_shot_numbers⟩)
    (c_Store_shot_numbers : PySem.W.codeIn K cd_Store_shot_numbers "Store.shot_numbers" = true)
    (k_Store_shot_numbers : PySem.W.keepIn K (.ref f_Store_shot_numbers) = true)
    (a_Store_cut : PySem.W.findIn K (.ref c_Store) "cut" = some (some (.ref f_Store_cut)))
    (i_Store_cut : PySem.W.isFn K (.ref f_Store_cut) = true)
    (l_Store_cut : K.lookup f_Store_cut = some ⟨oc_Store_cut, od_Store_cut, .func (PySem.W.fnOf "cut" "Store.cut" (defArgs s_Store_cut) (defBody s_Store_cut) (defScope s_Store_cut) .none kV_Store_cut dc_Store_cut pm_Store_cut an_Store_cut cd_Store_cut ct_Store_cut), sl_Store_cut⟩)
    (c_Store_cut : PySem.W.codeIn K cd_Store_cut "Store.cut" = true)
    (k_Store_cut : PySem.W.keepIn K (.ref f_Store_cut) = true)
    (a_Store_back : PySem.W.findIn K (.ref c_Store) "back" = some (some (.ref f_Store_back)))
    (i_Store_back : PySem.W.isFn K (.ref f_Store_back) = true)
    (l_Store_back : K.lookup f_Store_back = some ⟨oc_Store_back, od_Store_back, .func (PySem.W.fnOf "back" "Store.back" (defArgs s_Store_back) (defBody s_Store_back) (defScope s_Store_back) .none kV_Store_back dc_Store_back pm_Store_back an_Store_back cd_Store_back ct_Store_back), sl_Store_back⟩)
    (c_Store_back : PySem.W.codeIn K cd_Store_back "Store.back" = true)
    (k_Store_back : PySem.W.keepIn K (.ref f_Store_back) = true)
    (a_Store_names : PySem.W.findIn K (.ref c_Store) "names" = some (some (.ref f_Store_names)))
    (i_Store_names : PySem.W.isFn K (.ref f_Store_names) = true)
    (l_Store_names : K.lookup f_Store_names = some ⟨oc_Store_names, od_Store_names, .func (PySem.W.fnOf "names" "Store.names" (defArgs s_Store_names) (defBody s_Store_names) (defScope s_Store_names) .none kV_Store_names dc_Store_names pm_Store_names an_Store_names cd_Store_names ct_Store_names), sl_Store_names⟩)
    (c_Store_names : PySem.W.codeIn K cd_Store_names "Store.names" = true)
    (k_Store_names : PySem.W.keepIn K (.ref f_Store_names) = true)
    (a_number_in : PySem.W.nsIn K mainGlobals "number_in" = some (some (.ref f_number_in)))
    (l_number_in : K.lookup f_number_in = some ⟨oc_number_in, od_number_in, .func (PySem.W.fnOf "number_in" "number_in" (defArgs s_number_in) (defBody s_number_in) (defScope s_number_in) .none kV_number_in dc_number_in pm_number_in an_number_in cd_number_in ct_number_in), sl_number_in⟩)
    (c_number_in : PySem.W.codeIn K cd_number_in "number_in" = true)
    (k_number_in : PySem.W.keepIn K (.ref f_number_in) = true)
    (a_path_of : PySem.W.nsIn K mainGlobals "path_of" = some (some (.ref f_path_of)))
    (l_path_of : K.lookup f_path_of = some ⟨oc_path_of, od_path_of, .func (PySem.W.fnOf "path_of" "path_of" (defArgs s_path_of) (defBody s_path_of) (defScope s_path_of) .none kV_path_of dc_path_of pm_path_of an_path_of cd_path_of ct_path_of), sl_path_of⟩)
    (c_path_of : PySem.W.codeIn K cd_path_of "path_of" = true)
    (k_path_of : PySem.W.keepIn K (.ref f_path_of) = true)
    (a_differences : PySem.W.nsIn K mainGlobals "differences" = some (some (.ref f_differences)))
    (l_differences : K.lookup f_differences = some ⟨oc_differences, od_differences, .func (PySem.W.fnOf "differences" "differences" (defArgs s_differences) (defBody s_differences) (defScope s_differences) .none kV_differences dc_differences pm_differences an_differences cd_differences ct_differences), sl_differences⟩)
    (c_differences : PySem.W.codeIn K cd_differences "differences" = true)
    (k_differences : PySem.W.keepIn K (.ref f_differences) = true)
    (a_Store_changes : PySem.W.findIn K (.ref c_Store) "changes" = some (some (.ref f_Store_changes)))
    (i_Store_changes : PySem.W.isFn K (.ref f_Store_changes) = true)
    (l_Store_changes : K.lookup f_Store_changes = some ⟨oc_Store_changes, od_Store_changes, .func (PySem.W.fnOf "changes" "Store.changes" (defArgs s_Store_changes) (defBody s_Store_changes) (defScope s_Store_changes) .none kV_Store_changes dc_Store_changes pm_Store_changes an_Store_changes cd_Store_changes ct_Store_changes), sl_Store_changes⟩)
    (c_Store_changes : PySem.W.codeIn K cd_Store_changes "Store.changes" = true)
    (k_Store_changes : PySem.W.keepIn K (.ref f_Store_changes) = true)
    (a_l_asked : PySem.W.nsIn K mainGlobals "_law_asked" = some (some (.ref f_l_asked)))
    (l_l_asked : K.lookup f_l_asked = some ⟨oc_l_asked, od_l_asked, .func (PySem.W.fnOf "_law_asked" "_law_asked" (defArgs s_l_asked) (defBody s_l_asked) (defScope s_l_asked) .none kV_l_asked dc_l_asked pm_l_asked an_l_asked cd_l_asked ct_l_asked), sl_l_asked⟩)
    (c_l_asked : PySem.W.codeIn K cd_l_asked "_law_asked" = true)
    (k_l_asked : PySem.W.keepIn K (.ref f_l_asked) = true)
    (a_l_told : PySem.W.nsIn K mainGlobals "_law_told" = some (some (.ref f_l_told)))
    (l_l_told : K.lookup f_l_told = some ⟨oc_l_told, od_l_told, .func (PySem.W.fnOf "_law_told" "_law_told" (defArgs s_l_told) (defBody s_l_told) (defScope s_l_told) .none kV_l_told dc_l_told pm_l_told an_l_told cd_l_told ct_l_told), sl_l_told⟩)
    (c_l_told : PySem.W.codeIn K cd_l_told "_law_told" = true)
    (k_l_told : PySem.W.keepIn K (.ref f_l_told) = true)
    (a_law : PySem.W.nsIn K mainGlobals "law" = some (some (.ref f_law)))
    (l_law : K.lookup f_law = some ⟨oc_law, od_law, .func (PySem.W.fnOf "law" "law" (defArgs s_law) (defBody s_law) (defScope s_law) .none kV_law dc_law pm_law an_law cd_law ct_law), sl_law⟩)
    (c_law : PySem.W.codeIn K cd_law "law" = true)
    (k_law : PySem.W.keepIn K (.ref f_law) = true)
    (pg_Pile : PySem.W.plainGet K c_Pile Str.empty = true)
    (hd_Pile : PySem.W.hasDictIn K c_Pile = true)
    (po_Pile : PySem.W.plainOver K c_Pile = true)
    (sa_Pile : PySem.W.findIn K (.ref c_Pile) "__setattr__" = some (some (.builtin "object.__setattr__")))
    (mk_Pile : PySem.W.makesIn K c_Pile = true)
    (kc_Pile : PySem.W.keepIn K (.ref c_Pile) = true)
    (na_boxes : PySem.W.findIn K (.ref c_Pile) "boxes" = some none)
    (na_counts : PySem.W.findIn K (.ref c_Pile) "counts" = some none)
    (na_made : PySem.W.findIn K (.ref c_Pile) "made" = some none)
    (pg_Store : PySem.W.plainGet K c_Store Str.empty = true)
    (hd_Store : PySem.W.hasDictIn K c_Store = true)
    (po_Store : PySem.W.plainOver K c_Store = true)
    (sa_Store : PySem.W.findIn K (.ref c_Store) "__setattr__" = some (some (.builtin "object.__setattr__")))
    (mk_Store : PySem.W.makesIn K c_Store = true)
    (kc_Store : PySem.W.keepIn K (.ref c_Store) = true)
    (na_pile : PySem.W.findIn K (.ref c_Store) "pile" = some none)
    (na_live : PySem.W.findIn K (.ref c_Store) "live" = some none)
    (na_shots : PySem.W.findIn K (.ref c_Store) "shots" = some none)
    (na_taken : PySem.W.findIn K (.ref c_Store) "taken" = some none)
    (z_ValueError : PySem.W.nsIn K mainGlobals "ValueError" = some none)
    (z_abs : PySem.W.nsIn K mainGlobals "abs" = some none)
    (z_bool : PySem.W.nsIn K mainGlobals "bool" = some none)
    (z_int : PySem.W.nsIn K mainGlobals "int" = some none)
    (z_isinstance : PySem.W.nsIn K mainGlobals "isinstance" = some none)
    (z_len : PySem.W.nsIn K mainGlobals "len" = some none)
    (z_list : PySem.W.nsIn K mainGlobals "list" = some none)
    (z_max : PySem.W.nsIn K mainGlobals "max" = some none)
    (z_range : PySem.W.nsIn K mainGlobals "range" = some none)
    (z_sorted : PySem.W.nsIn K mainGlobals "sorted" = some none)
    (z_str : PySem.W.nsIn K mainGlobals "str" = some none)
    (z_tuple : PySem.W.nsIn K mainGlobals "tuple" = some none)
    (n_SnapError : PySem.W.nsIn K mainGlobals "SnapError" = some (some (.ref x_SnapError)))
    (xx_SnapError : PySem.W.excIn K x_SnapError [.type "ValueError", .type "Exception", .type "BaseException", .type "object"] "ValueError.__new__" = true)
    (kk_SnapError : PySem.W.keepIn K (.ref x_SnapError) = true)
    (bs_SnapError : PySem.W.subIn K (.ref x_SnapError) (.type "BaseException") = some true)
    (ty_SnapError : PySem.W.typeIn K (.ref x_SnapError) = some (.type "type"))
    (ic_SnapError : PySem.W.isClsIn K x_SnapError = true)
    (hd_SnapError : PySem.W.hasDictIn K x_SnapError = true)
    (ga_SnapError : PySem.W.findIn K (.ref x_SnapError) "__getattribute__" = some (some (.builtin "BaseException.__getattribute__")))
    (gt_SnapError : PySem.W.findIn K (.ref x_SnapError) "__getattr__" = some none)
    (gc_SnapError : PySem.W.findIn K (.ref x_SnapError) "__class__" = some (some (.builtin "object.__class__")))
    (gm_SnapError : PySem.W.mroIn K x_SnapError (.type "object") = some true)
    (vs_SnapError : PySem.W.subIn K (.ref x_SnapError) (.type "ValueError") = some true)
    (n_BadPath : PySem.W.nsIn K mainGlobals "BadPath" = some (some (.ref x_BadPath)))
    (xx_BadPath : PySem.W.excIn K x_BadPath [.type "ValueError", .type "Exception", .type "BaseException", .type "object"] "ValueError.__new__" = true)
    (kk_BadPath : PySem.W.keepIn K (.ref x_BadPath) = true)
    (bs_BadPath : PySem.W.subIn K (.ref x_BadPath) (.type "BaseException") = some true)
    (ty_BadPath : PySem.W.typeIn K (.ref x_BadPath) = some (.type "type"))
    (ic_BadPath : PySem.W.isClsIn K x_BadPath = true)
    (hd_BadPath : PySem.W.hasDictIn K x_BadPath = true)
    (ga_BadPath : PySem.W.findIn K (.ref x_BadPath) "__getattribute__" = some (some (.builtin "BaseException.__getattribute__")))
    (gt_BadPath : PySem.W.findIn K (.ref x_BadPath) "__getattr__" = some none)
    (gc_BadPath : PySem.W.findIn K (.ref x_BadPath) "__class__" = some (some (.builtin "object.__class__")))
    (gm_BadPath : PySem.W.mroIn K x_BadPath (.type "object") = some true)
    (vs_BadPath : PySem.W.subIn K (.ref x_BadPath) (.type "ValueError") = some true)
    (n_BadNumber : PySem.W.nsIn K mainGlobals "BadNumber" = some (some (.ref x_BadNumber)))
    (xx_BadNumber : PySem.W.excIn K x_BadNumber [.type "ValueError", .type "Exception", .type "BaseException", .type "object"] "ValueError.__new__" = true)
    (kk_BadNumber : PySem.W.keepIn K (.ref x_BadNumber) = true)
    (bs_BadNumber : PySem.W.subIn K (.ref x_BadNumber) (.type "BaseException") = some true)
    (ty_BadNumber : PySem.W.typeIn K (.ref x_BadNumber) = some (.type "type"))
    (ic_BadNumber : PySem.W.isClsIn K x_BadNumber = true)
    (hd_BadNumber : PySem.W.hasDictIn K x_BadNumber = true)
    (ga_BadNumber : PySem.W.findIn K (.ref x_BadNumber) "__getattribute__" = some (some (.builtin "BaseException.__getattribute__")))
    (gt_BadNumber : PySem.W.findIn K (.ref x_BadNumber) "__getattr__" = some none)
    (gc_BadNumber : PySem.W.findIn K (.ref x_BadNumber) "__class__" = some (some (.builtin "object.__class__")))
    (gm_BadNumber : PySem.W.mroIn K x_BadNumber (.type "object") = some true)
    (vs_BadNumber : PySem.W.subIn K (.ref x_BadNumber) (.type "ValueError") = some true)
    (n_Nothing : PySem.W.nsIn K mainGlobals "Nothing" = some (some (.ref x_Nothing)))
    (xx_Nothing : PySem.W.excIn K x_Nothing [.type "ValueError", .type "Exception", .type "BaseException", .type "object"] "ValueError.__new__" = true)
    (kk_Nothing : PySem.W.keepIn K (.ref x_Nothing) = true)
    (bs_Nothing : PySem.W.subIn K (.ref x_Nothing) (.type "BaseException") = some true)
    (ty_Nothing : PySem.W.typeIn K (.ref x_Nothing) = some (.type "type"))
    (ic_Nothing : PySem.W.isClsIn K x_Nothing = true)
    (hd_Nothing : PySem.W.hasDictIn K x_Nothing = true)
    (ga_Nothing : PySem.W.findIn K (.ref x_Nothing) "__getattribute__" = some (some (.builtin "BaseException.__getattribute__")))
    (gt_Nothing : PySem.W.findIn K (.ref x_Nothing) "__getattr__" = some none)
    (gc_Nothing : PySem.W.findIn K (.ref x_Nothing) "__class__" = some (some (.builtin "object.__class__")))
    (gm_Nothing : PySem.W.mroIn K x_Nothing (.type "object") = some true)
    (vs_Nothing : PySem.W.subIn K (.ref x_Nothing) (.type "ValueError") = some true)
    (n_LeafThere : PySem.W.nsIn K mainGlobals "LeafThere" = some (some (.ref x_LeafThere)))
    (xx_LeafThere : PySem.W.excIn K x_LeafThere [.type "ValueError", .type "Exception", .type "BaseException", .type "object"] "ValueError.__new__" = true)
    (kk_LeafThere : PySem.W.keepIn K (.ref x_LeafThere) = true)
    (bs_LeafThere : PySem.W.subIn K (.ref x_LeafThere) (.type "BaseException") = some true)
    (ty_LeafThere : PySem.W.typeIn K (.ref x_LeafThere) = some (.type "type"))
    (ic_LeafThere : PySem.W.isClsIn K x_LeafThere = true)
    (hd_LeafThere : PySem.W.hasDictIn K x_LeafThere = true)
    (ga_LeafThere : PySem.W.findIn K (.ref x_LeafThere) "__getattribute__" = some (some (.builtin "BaseException.__getattribute__")))
    (gt_LeafThere : PySem.W.findIn K (.ref x_LeafThere) "__getattr__" = some none)
    (gc_LeafThere : PySem.W.findIn K (.ref x_LeafThere) "__class__" = some (some (.builtin "object.__class__")))
    (gm_LeafThere : PySem.W.mroIn K x_LeafThere (.type "object") = some true)
    (vs_LeafThere : PySem.W.subIn K (.ref x_LeafThere) (.type "ValueError") = some true)
    (n_BranchThere : PySem.W.nsIn K mainGlobals "BranchThere" = some (some (.ref x_BranchThere)))
    (xx_BranchThere : PySem.W.excIn K x_BranchThere [.type "ValueError", .type "Exception", .type "BaseException", .type "object"] "ValueError.__new__" = true)
    (kk_BranchThere : PySem.W.keepIn K (.ref x_BranchThere) = true)
    (bs_BranchThere : PySem.W.subIn K (.ref x_BranchThere) (.type "BaseException") = some true)
    (ty_BranchThere : PySem.W.typeIn K (.ref x_BranchThere) = some (.type "type"))
    (ic_BranchThere : PySem.W.isClsIn K x_BranchThere = true)
    (hd_BranchThere : PySem.W.hasDictIn K x_BranchThere = true)
    (ga_BranchThere : PySem.W.findIn K (.ref x_BranchThere) "__getattribute__" = some (some (.builtin "BaseException.__getattribute__")))
    (gt_BranchThere : PySem.W.findIn K (.ref x_BranchThere) "__getattr__" = some none)
    (gc_BranchThere : PySem.W.findIn K (.ref x_BranchThere) "__class__" = some (some (.builtin "object.__class__")))
    (gm_BranchThere : PySem.W.mroIn K x_BranchThere (.type "object") = some true)
    (vs_BranchThere : PySem.W.subIn K (.ref x_BranchThere) (.type "ValueError") = some true)
    (n_NoShot : PySem.W.nsIn K mainGlobals "NoShot" = some (some (.ref x_NoShot)))
    (xx_NoShot : PySem.W.excIn K x_NoShot [.type "ValueError", .type "Exception", .type "BaseException", .type "object"] "ValueError.__new__" = true)
    (kk_NoShot : PySem.W.keepIn K (.ref x_NoShot) = true)
    (bs_NoShot : PySem.W.subIn K (.ref x_NoShot) (.type "BaseException") = some true)
    (ty_NoShot : PySem.W.typeIn K (.ref x_NoShot) = some (.type "type"))
    (ic_NoShot : PySem.W.isClsIn K x_NoShot = true)
    (hd_NoShot : PySem.W.hasDictIn K x_NoShot = true)
    (ga_NoShot : PySem.W.findIn K (.ref x_NoShot) "__getattribute__" = some (some (.builtin "BaseException.__getattribute__")))
    (gt_NoShot : PySem.W.findIn K (.ref x_NoShot) "__getattr__" = some none)
    (gc_NoShot : PySem.W.findIn K (.ref x_NoShot) "__class__" = some (some (.builtin "object.__class__")))
    (gm_NoShot : PySem.W.mroIn K x_NoShot (.type "object") = some true)
    (vs_NoShot : PySem.W.subIn K (.ref x_NoShot) (.type "ValueError") = some true)
    (n_NoBox : PySem.W.nsIn K mainGlobals "NoBox" = some (some (.ref x_NoBox)))
    (xx_NoBox : PySem.W.excIn K x_NoBox [.type "ValueError", .type "Exception", .type "BaseException", .type "object"] "ValueError.__new__" = true)
    (kk_NoBox : PySem.W.keepIn K (.ref x_NoBox) = true)
    (bs_NoBox : PySem.W.subIn K (.ref x_NoBox) (.type "BaseException") = some true)
    (ty_NoBox : PySem.W.typeIn K (.ref x_NoBox) = some (.type "type"))
    (ic_NoBox : PySem.W.isClsIn K x_NoBox = true)
    (hd_NoBox : PySem.W.hasDictIn K x_NoBox = true)
    (ga_NoBox : PySem.W.findIn K (.ref x_NoBox) "__getattribute__" = some (some (.builtin "BaseException.__getattribute__")))
    (gt_NoBox : PySem.W.findIn K (.ref x_NoBox) "__getattr__" = some none)
    (gc_NoBox : PySem.W.findIn K (.ref x_NoBox) "__class__" = some (some (.builtin "object.__class__")))
    (gm_NoBox : PySem.W.mroIn K x_NoBox (.type "object") = some true)
    (vs_NoBox : PySem.W.subIn K (.ref x_NoBox) (.type "ValueError") = some true)
    (oc_get : PySem.W.specialIn K (.builtin "object.__class__") "__get__" = some (some (.builtin "getset_descriptor.__get__")))
    (oc_takes : PySem.W.takesIn K (.builtin "object.__class__") = some true)
    (su_BadNumber_BadNumber : PySem.W.subIn K (.ref x_BadNumber) (.ref x_BadNumber) = some true)
    (su_BadNumber_BadPath : PySem.W.subIn K (.ref x_BadNumber) (.ref x_BadPath) = some false)
    (su_BadNumber_BranchThere : PySem.W.subIn K (.ref x_BadNumber) (.ref x_BranchThere) = some false)
    (su_BadNumber_LeafThere : PySem.W.subIn K (.ref x_BadNumber) (.ref x_LeafThere) = some false)
    (su_BadNumber_NoBox : PySem.W.subIn K (.ref x_BadNumber) (.ref x_NoBox) = some false)
    (su_BadNumber_NoShot : PySem.W.subIn K (.ref x_BadNumber) (.ref x_NoShot) = some false)
    (su_BadNumber_Nothing : PySem.W.subIn K (.ref x_BadNumber) (.ref x_Nothing) = some false)
    (su_BadNumber_SnapError : PySem.W.subIn K (.ref x_BadNumber) (.ref x_SnapError) = some true)
    (su_BadPath_BadNumber : PySem.W.subIn K (.ref x_BadPath) (.ref x_BadNumber) = some false)
    (su_BadPath_BadPath : PySem.W.subIn K (.ref x_BadPath) (.ref x_BadPath) = some true)
    (su_BadPath_BranchThere : PySem.W.subIn K (.ref x_BadPath) (.ref x_BranchThere) = some false)
    (su_BadPath_LeafThere : PySem.W.subIn K (.ref x_BadPath) (.ref x_LeafThere) = some false)
    (su_BadPath_NoBox : PySem.W.subIn K (.ref x_BadPath) (.ref x_NoBox) = some false)
    (su_BadPath_NoShot : PySem.W.subIn K (.ref x_BadPath) (.ref x_NoShot) = some false)
    (su_BadPath_Nothing : PySem.W.subIn K (.ref x_BadPath) (.ref x_Nothing) = some false)
    (su_BadPath_SnapError : PySem.W.subIn K (.ref x_BadPath) (.ref x_SnapError) = some true)
    (su_BranchThere_BadNumber : PySem.W.subIn K (.ref x_BranchThere) (.ref x_BadNumber) = some false)
    (su_BranchThere_BadPath : PySem.W.subIn K (.ref x_BranchThere) (.ref x_BadPath) = some false)
    (su_BranchThere_BranchThere : PySem.W.subIn K (.ref x_BranchThere) (.ref x_BranchThere) = some true)
    (su_BranchThere_LeafThere : PySem.W.subIn K (.ref x_BranchThere) (.ref x_LeafThere) = some false)
    (su_BranchThere_NoBox : PySem.W.subIn K (.ref x_BranchThere) (.ref x_NoBox) = some false)
    (su_BranchThere_NoShot : PySem.W.subIn K (.ref x_BranchThere) (.ref x_NoShot) = some false)
    (su_BranchThere_Nothing : PySem.W.subIn K (.ref x_BranchThere) (.ref x_Nothing) = some false)
    (su_BranchThere_SnapError : PySem.W.subIn K (.ref x_BranchThere) (.ref x_SnapError) = some true)
    (su_LeafThere_BadNumber : PySem.W.subIn K (.ref x_LeafThere) (.ref x_BadNumber) = some false)
    (su_LeafThere_BadPath : PySem.W.subIn K (.ref x_LeafThere) (.ref x_BadPath) = some false)
    (su_LeafThere_BranchThere : PySem.W.subIn K (.ref x_LeafThere) (.ref x_BranchThere) = some false)
    (su_LeafThere_LeafThere : PySem.W.subIn K (.ref x_LeafThere) (.ref x_LeafThere) = some true)
    (su_LeafThere_NoBox : PySem.W.subIn K (.ref x_LeafThere) (.ref x_NoBox) = some false)
    (su_LeafThere_NoShot : PySem.W.subIn K (.ref x_LeafThere) (.ref x_NoShot) = some false)
    (su_LeafThere_Nothing : PySem.W.subIn K (.ref x_LeafThere) (.ref x_Nothing) = some false)
    (su_LeafThere_SnapError : PySem.W.subIn K (.ref x_LeafThere) (.ref x_SnapError) = some true)
    (su_NoBox_BadNumber : PySem.W.subIn K (.ref x_NoBox) (.ref x_BadNumber) = some false)
    (su_NoBox_BadPath : PySem.W.subIn K (.ref x_NoBox) (.ref x_BadPath) = some false)
    (su_NoBox_BranchThere : PySem.W.subIn K (.ref x_NoBox) (.ref x_BranchThere) = some false)
    (su_NoBox_LeafThere : PySem.W.subIn K (.ref x_NoBox) (.ref x_LeafThere) = some false)
    (su_NoBox_NoBox : PySem.W.subIn K (.ref x_NoBox) (.ref x_NoBox) = some true)
    (su_NoBox_NoShot : PySem.W.subIn K (.ref x_NoBox) (.ref x_NoShot) = some false)
    (su_NoBox_Nothing : PySem.W.subIn K (.ref x_NoBox) (.ref x_Nothing) = some false)
    (su_NoBox_SnapError : PySem.W.subIn K (.ref x_NoBox) (.ref x_SnapError) = some true)
    (su_NoShot_BadNumber : PySem.W.subIn K (.ref x_NoShot) (.ref x_BadNumber) = some false)
    (su_NoShot_BadPath : PySem.W.subIn K (.ref x_NoShot) (.ref x_BadPath) = some false)
    (su_NoShot_BranchThere : PySem.W.subIn K (.ref x_NoShot) (.ref x_BranchThere) = some false)
    (su_NoShot_LeafThere : PySem.W.subIn K (.ref x_NoShot) (.ref x_LeafThere) = some false)
    (su_NoShot_NoBox : PySem.W.subIn K (.ref x_NoShot) (.ref x_NoBox) = some false)
    (su_NoShot_NoShot : PySem.W.subIn K (.ref x_NoShot) (.ref x_NoShot) = some true)
    (su_NoShot_Nothing : PySem.W.subIn K (.ref x_NoShot) (.ref x_Nothing) = some false)
    (su_NoShot_SnapError : PySem.W.subIn K (.ref x_NoShot) (.ref x_SnapError) = some true)
    (su_Nothing_BadNumber : PySem.W.subIn K (.ref x_Nothing) (.ref x_BadNumber) = some false)
    (su_Nothing_BadPath : PySem.W.subIn K (.ref x_Nothing) (.ref x_BadPath) = some false)
    (su_Nothing_BranchThere : PySem.W.subIn K (.ref x_Nothing) (.ref x_BranchThere) = some false)
    (su_Nothing_LeafThere : PySem.W.subIn K (.ref x_Nothing) (.ref x_LeafThere) = some false)
    (su_Nothing_NoBox : PySem.W.subIn K (.ref x_Nothing) (.ref x_NoBox) = some false)
    (su_Nothing_NoShot : PySem.W.subIn K (.ref x_Nothing) (.ref x_NoShot) = some false)
    (su_Nothing_Nothing : PySem.W.subIn K (.ref x_Nothing) (.ref x_Nothing) = some true)
    (su_Nothing_SnapError : PySem.W.subIn K (.ref x_Nothing) (.ref x_SnapError) = some true)
    (g_BOUND : PySem.W.nsIn K mainGlobals "BOUND" = some (some (.int 1000000000000000000000000000000 t_BOUND)))
    (g_LETTERS : PySem.W.nsIn K mainGlobals "LETTERS" = some (some (.str "abcdefghijklmnopqrstuvwxyz" t_LETTERS)))
    (g_MOST_LETTERS : PySem.W.nsIn K mainGlobals "MOST_LETTERS" = some (some (.int 8 t_MOST_LETTERS)))
    (g_MOST_NAMES : PySem.W.nsIn K mainGlobals "MOST_NAMES" = some (some (.int 8 t_MOST_NAMES))) :
    ∃ fd : FuncData, (∀ (s : Shared) (v : Value), BindsTo s fd ⟨[v], []⟩ [("_law_script", v)]) ∧ ∀ base : Heap, K.In base → base.Ns mainGlobals mg → FnOk l.prog w K mg base (L2N.CX l.prog w) 10 fa fd ["_law_script"] (spLaw K) := by
  have e := hfa.symm.trans (PySem.W.mg_of X G a_law)
  cases e
  have T : Txt K mg (Ad.mk f_l_word_by (PySem.W.fnOf "_law_word_by" "_law_word_by" (defArgs s_l_word_by) (defBody s_l_word_by) (defScope s_l_word_by) .none kV_l_word_by dc_l_word_by pm_l_word_by an_l_word_by cd_l_word_by ct_l_word_by) f_l_paths (PySem.W.fnOf "_law_paths" "_law_paths" (defArgs s_l_paths) (defBody s_l_paths) (defScope s_l_paths) .none kV_l_paths dc_l_paths pm_l_paths an_l_paths cd_l_paths ct_l_paths) f_Pile_init (PySem.W.fnOf "__init__" "Pile.__init__" (defArgs s_Pile_init) (defBody s_Pile_init) (defScope s_Pile_init) .none kV_Pile_init dc_Pile_init pm_Pile_init an_Pile_init cd_Pile_init ct_Pile_init) f_Pile_fresh (PySem.W.fnOf "fresh" "Pile.fresh" (defArgs s_Pile_fresh) (defBody s_Pile_fresh) (defScope s_Pile_fresh) .none kV_Pile_fresh dc_Pile_fresh pm_Pile_fresh an_Pile_fresh cd_Pile_fresh ct_Pile_fresh) f_Pile_need (PySem.W.fnOf "need" "Pile.need" (defArgs s_Pile_need) (defBody s_Pile_need) (defScope s_Pile_need) .none kV_Pile_need dc_Pile_need pm_Pile_need an_Pile_need cd_Pile_need ct_Pile_need) f_Pile_hold (PySem.W.fnOf "hold" "Pile.hold" (defArgs s_Pile_hold) (defBody s_Pile_hold) (defScope s_Pile_hold) .none kV_Pile_hold dc_Pile_hold pm_Pile_hold an_Pile_hold cd_Pile_hold ct_Pile_hold) f_Pile_branch (PySem.W.fnOf "branch" "Pile.branch" (defArgs s_Pile_branch) (defBody s_Pile_branch) (defScope s_Pile_branch) .none kV_Pile_branch dc_Pile_branch pm_Pile_branch an_Pile_branch cd_Pile_branch ct_Pile_branch) f_Store_init (PySem.W.fnOf "__init__" "Store.__init__" (defArgs s_Store_init) (defBody s_Store_init) (defScope s_Store_init) .none kV_Store_init dc_Store_init pm_Store_init an_Store_init cd_Store_init ct_Store_init) f_is_name (PySem.W.fnOf "is_name" "is_name" (defArgs s_is_name) (defBody s_is_name) (defScope s_is_name) .none kV_is_name dc_is_name pm_is_name an_is_name cd_is_name ct_is_name) f_checked (PySem.W.fnOf "checked" "checked" (defArgs s_checked) (defBody s_checked) (defScope s_checked) .none kV_checked dc_checked pm_checked an_checked cd_checked ct_checked) f_Pile_let_go (PySem.W.fnOf "let_go" "Pile.let_go" (defArgs s_Pile_let_go) (defBody s_Pile_let_go) (defScope s_Pile_let_go) .none kV_Pile_let_go dc_Pile_let_go pm_Pile_let_go an_Pile_let_go cd_Pile_let_go ct_Pile_let_go) f_Store_turned (PySem.W.fnOf "turned" "Store.turned" (defArgs s_Store_turned) (defBody s_Store_turned) (defScope s_Store_turned) .none kV_Store_turned dc_Store_turned pm_Store_turned an_Store_turned cd_Store_turned ct_Store_turned) f_box_of (PySem.W.fnOf "box_of" "box_of" (defArgs s_box_of) (defBody s_box_of) (defScope s_box_of) .none kV_box_of dc_box_of pm_box_of an_box_of cd_box_of ct_box_of) f_Pile_content (PySem.W.fnOf "content" "Pile.content" (defArgs s_Pile_content) (defBody s_Pile_content) (defScope s_Pile_content) .none kV_Pile_content dc_Pile_content pm_Pile_content an_Pile_content cd_Pile_content ct_Pile_content) f_rows_in (PySem.W.fnOf "rows_in" "rows_in" (defArgs s_rows_in) (defBody s_rows_in) (defScope s_rows_in) .none kV_rows_in dc_rows_in pm_rows_in an_rows_in cd_rows_in ct_rows_in) f_found (PySem.W.fnOf "found" "found" (defArgs s_found) (defBody s_found) (defScope s_found) .none kV_found dc_found pm_found an_found cd_found ct_found) f_Store_top (PySem.W.fnOf "top" "Store.top" (defArgs s_Store_top) (defBody s_Store_top) (defScope s_Store_top) .none kV_Store_top dc_Store_top pm_Store_top an_Store_top cd_Store_top ct_Store_top) f_Store_kind (PySem.W.fnOf "kind" "Store.kind" (defArgs s_Store_kind) (defBody s_Store_kind) (defScope s_Store_kind) .none kV_Store_kind dc_Store_kind pm_Store_kind an_Store_kind cd_Store_kind ct_Store_kind) f_without (PySem.W.fnOf "without" "without" (defArgs s_without) (defBody s_without) (defScope s_without) .none kV_without dc_without pm_without an_without cd_without ct_without) f_placed (PySem.W.fnOf "placed" "placed" (defArgs s_placed) (defBody s_placed) (defScope s_placed) .none kV_placed dc_placed pm_placed an_placed cd_placed ct_placed) f_rebuilt (PySem.W.fnOf "rebuilt" "rebuilt" (defArgs s_rebuilt) (defBody s_rebuilt) (defScope s_rebuilt) .none kV_rebuilt dc_rebuilt pm_rebuilt an_rebuilt cd_rebuilt ct_rebuilt) f_Store_value (PySem.W.fnOf "value" "Store.value" (defArgs s_Store_value) (defBody s_Store_value) (defScope s_Store_value) .none kV_Store_value dc_Store_value pm_Store_value an_Store_value cd_Store_value ct_Store_value) f_Pile_leaf (PySem.W.fnOf "leaf" "Pile.leaf" (defArgs s_Pile_leaf) (defBody s_Pile_leaf) (defScope s_Pile_leaf) .none kV_Pile_leaf dc_Pile_leaf pm_Pile_leaf an_Pile_leaf cd_Pile_leaf ct_Pile_leaf) f_Store_put (PySem.W.fnOf "put" "Store.put" (defArgs s_Store_put) (defBody s_Store_put) (defScope s_Store_put) .none kV_Store_put dc_Store_put pm_Store_put an_Store_put cd_Store_put ct_Store_put) f_Store_snap (PySem.W.fnOf "snap" "Store.snap" (defArgs s_Store_snap) (defBody s_Store_snap) (defScope s_Store_snap) .none kV_Store_snap dc_Store_snap pm_Store_snap an_Store_snap cd_Store_snap ct_Store_snap) f_Store_drop (PySem.W.fnOf "drop" "Store.drop" (defArgs s_Store_drop) (defBody s_Store_drop) (defScope s_Store_drop) .none kV_Store_drop dc_Store_drop pm_Store_drop an_Store_drop cd_Store_drop ct_Store_drop) f_l_due_of_view (PySem.W.fnOf "_law_due_of_view" "_law_due_of_view" (defArgs s_l_due_of_view) (defBody s_l_due_of_view) (defScope s_l_due_of_view) .none kV_l_due_of_view dc_l_due_of_view pm_l_due_of_view an_l_due_of_view cd_l_due_of_view ct_l_due_of_view) f_l_due (PySem.W.fnOf "_law_due" "_law_due" (defArgs s_l_due) (defBody s_l_due) (defScope s_l_due) .none kV_l_due dc_l_due pm_l_due an_l_due cd_l_due ct_l_due) f_l_cell_at (PySem.W.fnOf "_law_cell_at" "_law_cell_at" (defArgs s_l_cell_at) (defBody s_l_cell_at) (defScope s_l_cell_at) .none kV_l_cell_at dc_l_cell_at pm_l_cell_at an_l_cell_at cd_l_cell_at ct_l_cell_at) f_Pile_kept (PySem.W.fnOf "kept" "Pile.kept" (defArgs s_Pile_kept) (defBody s_Pile_kept) (defScope s_Pile_kept) .none kV_Pile_kept dc_Pile_kept pm_Pile_kept an_Pile_kept cd_Pile_kept ct_Pile_kept) f_Store_shot_numbers (PySem.W.fnOf "shot_numbers" "Store.shot_numbers" (defArgs s_Store_shot_numbers) (defBody s_Store_shot_numbers) (defScope s_Store_shot_numbers) .none kV_Store_shot_numbers dc_Store_shot_numbers pm_Store_shot_numbers an_Store_shot_numbers cd_Store_shot_numbers ct_Store_shot_numbers) f_Store_cut (PySem.W.fnOf "cut" "Store.cut" (defArgs s_Store_cut) (defBody s_Store_cut) (defScope s_Store_cut) .none kV_Store_cut dc_Store_cut pm_Store_cut an_Store_cut cd_Store_cut ct_Store_cut) f_Store_back (PySem.W.fnOf "back" "Store.back" (defArgs s_Store_back) (defBody s_Store_back) (defScope s_Store_back) .none kV_Store_back dc_Store_back pm_Store_back an_Store_back cd_Store_back ct_Store_back) f_Store_names (PySem.W.fnOf "names" "Store.names" (defArgs s_Store_names) (defBody s_Store_names) (defScope s_Store_names) .none kV_Store_names dc_Store_names pm_Store_names an_Store_names cd_Store_names ct_Store_names) f_number_in (PySem.W.fnOf "number_in" "number_in" (defArgs s_number_in) (defBody s_number_in) (defScope s_number_in) .none kV_number_in dc_number_in pm_number_in an_number_in cd_number_in ct_number_in) f_path_of (PySem.W.fnOf "path_of" "path_of" (defArgs s_path_of) (defBody s_path_of) (defScope s_path_of) .none kV_path_of dc_path_of pm_path_of an_path_of cd_path_of ct_path_of) f_differences (PySem.W.fnOf "differences" "differences" (defArgs s_differences) (defBody s_differences) (defScope s_differences) .none kV_differences dc_differences pm_differences an_differences cd_differences ct_differences) f_Store_changes (PySem.W.fnOf "changes" "Store.changes" (defArgs s_Store_changes) (defBody s_Store_changes) (defScope s_Store_changes) .none kV_Store_changes dc_Store_changes pm_Store_changes an_Store_changes cd_Store_changes ct_Store_changes) f_l_asked (PySem.W.fnOf "_law_asked" "_law_asked" (defArgs s_l_asked) (defBody s_l_asked) (defScope s_l_asked) .none kV_l_asked dc_l_asked pm_l_asked an_l_asked cd_l_asked ct_l_asked) f_l_told (PySem.W.fnOf "_law_told" "_law_told" (defArgs s_l_told) (defBody s_l_told) (defScope s_l_told) .none kV_l_told dc_l_told pm_l_told an_l_told cd_l_told ct_l_told) fa (PySem.W.fnOf "law" "law" (defArgs s_law) (defBody s_law) (defScope s_law) .none kV_law dc_law pm_law an_law cd_law ct_law) c_Pile c_Store x_SnapError x_BadPath x_BadNumber x_Nothing x_LeafThere x_BranchThere x_NoShot x_NoBox) :=
    { F_l_word_by := fun_mk (st := s_l_word_by) l_l_word_by c_l_word_by k_l_word_by,
      b_l_word_by := (fun_mk (st := s_l_word_by) l_l_word_by c_l_word_by k_l_word_by).binds (ps := ["_law_cell"]) fun _ _ _ _ _ _ us hl => match us, hl with | [_], _ => rfl,
      m_l_word_by := PySem.W.mg_of X G a_l_word_by,
      F_l_paths := fun_mk (st := s_l_paths) l_l_paths c_l_paths k_l_paths,
      b_l_paths := (fun_mk (st := s_l_paths) l_l_paths c_l_paths k_l_paths).binds (ps := ["_law_word"]) fun _ _ _ _ _ _ us hl => match us, hl with | [_], _ => rfl,
      m_l_paths := PySem.W.mg_of X G a_l_paths,
      F_Pile_init := fun_mk (st := s_Pile_init) l_Pile_init c_Pile_init k_Pile_init,
      b_Pile_init := (fun_mk (st := s_Pile_init) l_Pile_init c_Pile_init k_Pile_init).binds (ps := ["self"]) fun _ _ _ _ _ _ us hl => match us, hl with | [_], _ => rfl,
      F_Pile_fresh := fun_mk (st := s_Pile_fresh) l_Pile_fresh c_Pile_fresh k_Pile_fresh,
      b_Pile_fresh := (fun_mk (st := s_Pile_fresh) l_Pile_fresh c_Pile_fresh k_Pile_fresh).binds (ps := ["self", "content"]) fun _ _ _ _ _ _ us hl => match us, hl with | [_, _], _ => rfl,
      me_Pile_fresh := ⟨a_Pile_fresh, i_Pile_fresh, k_Pile_fresh⟩,
      F_Pile_need := fun_mk (st := s_Pile_need) l_Pile_need c_Pile_need k_Pile_need,
      b_Pile_need := (fun_mk (st := s_Pile_need) l_Pile_need c_Pile_need k_Pile_need).binds (ps := ["self", "box"]) fun _ _ _ _ _ _ us hl => match us, hl with | [_, _], _ => rfl,
      me_Pile_need := ⟨a_Pile_need, i_Pile_need, k_Pile_need⟩,
      F_Pile_hold := fun_mk (st := s_Pile_hold) l_Pile_hold c_Pile_hold k_Pile_hold,
      b_Pile_hold := (fun_mk (st := s_Pile_hold) l_Pile_hold c_Pile_hold k_Pile_hold).binds (ps := ["self", "box"]) fun _ _ _ _ _ _ us hl => match us, hl with | [_, _], _ => rfl,
      me_Pile_hold := ⟨a_Pile_hold, i_Pile_hold, k_Pile_hold⟩,
      F_Pile_branch := fun_mk (st := s_Pile_branch) l_Pile_branch c_Pile_branch k_Pile_branch,
      b_Pile_branch := (fun_mk (st := s_Pile_branch) l_Pile_branch c_Pile_branch k_Pile_branch).binds (ps := ["self", "rows"]) fun _ _ _ _ _ _ us hl => match us, hl with | [_, _], _ => rfl,
      me_Pile_branch := ⟨a_Pile_branch, i_Pile_branch, k_Pile_branch⟩,
      F_Store_init := fun_mk (st := s_Store_init) l_Store_init c_Store_init k_Store_init,
      b_Store_init := (fun_mk (st := s_Store_init) l_Store_init c_Store_init k_Store_init).binds (ps := ["self"]) fun _ _ _ _ _ _ us hl => match us, hl with | [_], _ => rfl,
      F_is_name := fun_mk (st := s_is_name) l_is_name c_is_name k_is_name,
      b_is_name := (fun_mk (st := s_is_name) l_is_name c_is_name k_is_name).binds (ps := ["thing"]) fun _ _ _ _ _ _ us hl => match us, hl with | [_], _ => rfl,
      m_is_name := PySem.W.mg_of X G a_is_name,
      F_checked := fun_mk (st := s_checked) l_checked c_checked k_checked,
      b_checked := (fun_mk (st := s_checked) l_checked c_checked k_checked).binds (ps := ["path"]) fun _ _ _ _ _ _ us hl => match us, hl with | [_], _ => rfl,
      m_checked := PySem.W.mg_of X G a_checked,
      F_Pile_let_go := fun_mk (st := s_Pile_let_go) l_Pile_let_go c_Pile_let_go k_Pile_let_go,
      b_Pile_let_go := (fun_mk (st := s_Pile_let_go) l_Pile_let_go c_Pile_let_go k_Pile_let_go).binds (ps := ["self", "box"]) fun _ _ _ _ _ _ us hl => match us, hl with | [_, _], _ => rfl,
      me_Pile_let_go := ⟨a_Pile_let_go, i_Pile_let_go, k_Pile_let_go⟩,
      F_Store_turned := fun_mk (st := s_Store_turned) l_Store_turned c_Store_turned k_Store_turned,
      b_Store_turned := (fun_mk (st := s_Store_turned) l_Store_turned c_Store_turned k_Store_turned).binds (ps := ["self", "top"]) fun _ _ _ _ _ _ us hl => match us, hl with | [_, _], _ => rfl,
      me_Store_turned := ⟨a_Store_turned, i_Store_turned, k_Store_turned⟩,
      F_box_of := fun_mk (st := s_box_of) l_box_of c_box_of k_box_of,
      b_box_of := (fun_mk (st := s_box_of) l_box_of c_box_of k_box_of).binds (ps := ["rows", "name"]) fun _ _ _ _ _ _ us hl => match us, hl with | [_, _], _ => rfl,
      m_box_of := PySem.W.mg_of X G a_box_of,
      F_Pile_content := fun_mk (st := s_Pile_content) l_Pile_content c_Pile_content k_Pile_content,
      b_Pile_content := (fun_mk (st := s_Pile_content) l_Pile_content c_Pile_content k_Pile_content).binds (ps := ["self", "box"]) fun _ _ _ _ _ _ us hl => match us, hl with | [_, _], _ => rfl,
      me_Pile_content := ⟨a_Pile_content, i_Pile_content, k_Pile_content⟩,
      F_rows_in := fun_mk (st := s_rows_in) l_rows_in c_rows_in k_rows_in,
      b_rows_in := (fun_mk (st := s_rows_in) l_rows_in c_rows_in k_rows_in).binds (ps := ["pile", "box"]) fun _ _ _ _ _ _ us hl => match us, hl with | [_, _], _ => rfl,
      m_rows_in := PySem.W.mg_of X G a_rows_in,
      F_found := fun_mk (st := s_found) l_found c_found k_found,
      b_found := (fun_mk (st := s_found) l_found c_found k_found).binds (ps := ["pile", "top", "path"]) fun _ _ _ _ _ _ us hl => match us, hl with | [_, _, _], _ => rfl,
      m_found := PySem.W.mg_of X G a_found,
      F_Store_top := fun_mk (st := s_Store_top) l_Store_top c_Store_top k_Store_top,
      b_Store_top := (fun_mk (st := s_Store_top) l_Store_top c_Store_top k_Store_top).binds (ps := ["self", "view"]) fun _ _ _ _ _ _ us hl => match us, hl with | [_, _], _ => rfl,
      me_Store_top := ⟨a_Store_top, i_Store_top, k_Store_top⟩,
      F_Store_kind := fun_mk (st := s_Store_kind) l_Store_kind c_Store_kind k_Store_kind,
      b_Store_kind := (fun_mk (st := s_Store_kind) l_Store_kind c_Store_kind k_Store_kind).binds (ps := ["self", "view", "path"]) fun _ _ _ _ _ _ us hl => match us, hl with | [_, _, _], _ => rfl,
      me_Store_kind := ⟨a_Store_kind, i_Store_kind, k_Store_kind⟩,
      F_without := fun_mk (st := s_without) l_without c_without k_without,
      b_without := (fun_mk (st := s_without) l_without c_without k_without).binds (ps := ["rows", "name"]) fun _ _ _ _ _ _ us hl => match us, hl with | [_, _], _ => rfl,
      m_without := PySem.W.mg_of X G a_without,
      F_placed := fun_mk (st := s_placed) l_placed c_placed k_placed,
      b_placed := (fun_mk (st := s_placed) l_placed c_placed k_placed).binds (ps := ["rows", "name", "box"]) fun _ _ _ _ _ _ us hl => match us, hl with | [_, _, _], _ => rfl,
      m_placed := PySem.W.mg_of X G a_placed,
      F_rebuilt := fun_mk (st := s_rebuilt) l_rebuilt c_rebuilt k_rebuilt,
      b_rebuilt := (fun_mk (st := s_rebuilt) l_rebuilt c_rebuilt k_rebuilt).binds (ps := ["pile", "top", "path", "box"]) fun _ _ _ _ _ _ us hl => match us, hl with | [_, _, _, _], _ => rfl,
      m_rebuilt := PySem.W.mg_of X G a_rebuilt,
      F_Store_value := fun_mk (st := s_Store_value) l_Store_value c_Store_value k_Store_value,
      b_Store_value := (fun_mk (st := s_Store_value) l_Store_value c_Store_value k_Store_value).binds (ps := ["self", "view", "path"]) fun _ _ _ _ _ _ us hl => match us, hl with | [_, _, _], _ => rfl,
      me_Store_value := ⟨a_Store_value, i_Store_value, k_Store_value⟩,
      F_Pile_leaf := fun_mk (st := s_Pile_leaf) l_Pile_leaf c_Pile_leaf k_Pile_leaf,
      b_Pile_leaf := (fun_mk (st := s_Pile_leaf) l_Pile_leaf c_Pile_leaf k_Pile_leaf).binds (ps := ["self", "number"]) fun _ _ _ _ _ _ us hl => match us, hl with | [_, _], _ => rfl,
      me_Pile_leaf := ⟨a_Pile_leaf, i_Pile_leaf, k_Pile_leaf⟩,
      F_Store_put := fun_mk (st := s_Store_put) l_Store_put c_Store_put k_Store_put,
      b_Store_put := (fun_mk (st := s_Store_put) l_Store_put c_Store_put k_Store_put).binds (ps := ["self", "path", "number"]) fun _ _ _ _ _ _ us hl => match us, hl with | [_, _, _], _ => rfl,
      me_Store_put := ⟨a_Store_put, i_Store_put, k_Store_put⟩,
      F_Store_snap := fun_mk (st := s_Store_snap) l_Store_snap c_Store_snap k_Store_snap,
      b_Store_snap := (fun_mk (st := s_Store_snap) l_Store_snap c_Store_snap k_Store_snap).binds (ps := ["self"]) fun _ _ _ _ _ _ us hl => match us, hl with | [_], _ => rfl,
      me_Store_snap := ⟨a_Store_snap, i_Store_snap, k_Store_snap⟩,
      F_Store_drop := fun_mk (st := s_Store_drop) l_Store_drop c_Store_drop k_Store_drop,
      b_Store_drop := (fun_mk (st := s_Store_drop) l_Store_drop c_Store_drop k_Store_drop).binds (ps := ["self", "shot"]) fun _ _ _ _ _ _ us hl => match us, hl with | [_, _], _ => rfl,
      me_Store_drop := ⟨a_Store_drop, i_Store_drop, k_Store_drop⟩,
      F_l_due_of_view := fun_mk (st := s_l_due_of_view) l_l_due_of_view c_l_due_of_view k_l_due_of_view,
      b_l_due_of_view := (fun_mk (st := s_l_due_of_view) l_l_due_of_view c_l_due_of_view k_l_due_of_view).binds (ps := ["_law_way", "_law_at", "_law_view"]) fun _ _ _ _ _ _ us hl => match us, hl with | [_, _, _], _ => rfl,
      m_l_due_of_view := PySem.W.mg_of X G a_l_due_of_view,
      F_l_due := fun_mk (st := s_l_due) l_l_due c_l_due k_l_due,
      b_l_due := (fun_mk (st := s_l_due) l_l_due c_l_due k_l_due).binds (ps := ["_law_way", "_law_at", "_law_number", "_law_view"]) fun _ _ _ _ _ _ us hl => match us, hl with | [_, _, _, _], _ => rfl,
      m_l_due := PySem.W.mg_of X G a_l_due,
      F_l_cell_at := fun_mk (st := s_l_cell_at) l_l_cell_at c_l_cell_at k_l_cell_at,
      b_l_cell_at := (fun_mk (st := s_l_cell_at) l_l_cell_at c_l_cell_at k_l_cell_at).binds (ps := ["_law_script", "_law_k"]) fun _ _ _ _ _ _ us hl => match us, hl with | [_, _], _ => rfl,
      m_l_cell_at := PySem.W.mg_of X G a_l_cell_at,
      F_Pile_kept := fun_mk (st := s_Pile_kept) l_Pile_kept c_Pile_kept k_Pile_kept,
      b_Pile_kept := (fun_mk (st := s_Pile_kept) l_Pile_kept c_Pile_kept k_Pile_kept).binds (ps := ["self"]) fun _ _ _ _ _ _ us hl => match us, hl with | [_], _ => rfl,
      me_Pile_kept := ⟨a_Pile_kept, i_Pile_kept, k_Pile_kept⟩,
      F_Store_shot_numbers := fun_mk (st := s_Store_shot_numbers) l_Store_shot_numbers c_Store_shot_numbers k_Store_shot_numbers,
      b_Store_shot_numbers := (fun_mk (st := s_Store_shot_numbers) l_Store_shot_numbers c_Store_shot_numbers k_Store_shot_numbers).binds (ps := ["self"]) fun _ _ _ _ _ _ us hl => match us, hl with | [_], _ => rfl,
      me_Store_shot_numbers := ⟨a_Store_shot_numbers, i_Store_shot_numbers, k_Store_shot_numbers⟩,
      F_Store_cut := fun_mk (st := s_Store_cut) l_Store_cut c_Store_cut k_Store_cut,
      b_Store_cut := (fun_mk (st := s_Store_cut) l_Store_cut c_Store_cut k_Store_cut).binds (ps := ["self", "path"]) fun _ _ _ _ _ _ us hl => match us, hl with | [_, _], _ => rfl,
      me_Store_cut := ⟨a_Store_cut, i_Store_cut, k_Store_cut⟩,
      F_Store_back := fun_mk (st := s_Store_back) l_Store_back c_Store_back k_Store_back,
      b_Store_back := (fun_mk (st := s_Store_back) l_Store_back c_Store_back k_Store_back).binds (ps := ["self", "shot"]) fun _ _ _ _ _ _ us hl => match us, hl with | [_, _], _ => rfl,
      me_Store_back := ⟨a_Store_back, i_Store_back, k_Store_back⟩,
      F_Store_names := fun_mk (st := s_Store_names) l_Store_names c_Store_names k_Store_names,
      b_Store_names := (fun_mk (st := s_Store_names) l_Store_names c_Store_names k_Store_names).binds (ps := ["self", "view", "path"]) fun _ _ _ _ _ _ us hl => match us, hl with | [_, _, _], _ => rfl,
      me_Store_names := ⟨a_Store_names, i_Store_names, k_Store_names⟩,
      F_number_in := fun_mk (st := s_number_in) l_number_in c_number_in k_number_in,
      b_number_in := (fun_mk (st := s_number_in) l_number_in c_number_in k_number_in).binds (ps := ["pile", "box"]) fun _ _ _ _ _ _ us hl => match us, hl with | [_, _], _ => rfl,
      m_number_in := PySem.W.mg_of X G a_number_in,
      F_path_of := fun_mk (st := s_path_of) l_path_of c_path_of k_path_of,
      b_path_of := (fun_mk (st := s_path_of) l_path_of c_path_of k_path_of).binds (ps := ["row"]) fun _ _ _ _ _ _ us hl => match us, hl with | [_], _ => rfl,
      m_path_of := PySem.W.mg_of X G a_path_of,
      F_differences := fun_mk (st := s_differences) l_differences c_differences k_differences,
      b_differences := (fun_mk (st := s_differences) l_differences c_differences k_differences).binds (ps := ["pile", "one", "other"]) fun _ _ _ _ _ _ us hl => match us, hl with | [_, _, _], _ => rfl,
      m_differences := PySem.W.mg_of X G a_differences,
      F_Store_changes := fun_mk (st := s_Store_changes) l_Store_changes c_Store_changes k_Store_changes,
      b_Store_changes := (fun_mk (st := s_Store_changes) l_Store_changes c_Store_changes k_Store_changes).binds (ps := ["self", "one", "other"]) fun _ _ _ _ _ _ us hl => match us, hl with | [_, _, _], _ => rfl,
      me_Store_changes := ⟨a_Store_changes, i_Store_changes, k_Store_changes⟩,
      F_l_asked := fun_mk (st := s_l_asked) l_l_asked c_l_asked k_l_asked,
      b_l_asked := (fun_mk (st := s_l_asked) l_l_asked c_l_asked k_l_asked).binds (ps := ["_law_store", "_law_way", "_law_path", "_law_number", "_law_view"]) fun _ _ _ _ _ _ us hl => match us, hl with | [_, _, _, _, _], _ => rfl,
      m_l_asked := PySem.W.mg_of X G a_l_asked,
      F_l_told := fun_mk (st := s_l_told) l_l_told c_l_told k_l_told,
      b_l_told := (fun_mk (st := s_l_told) l_l_told c_l_told k_l_told).binds (ps := ["_law_store", "_law_way", "_law_path", "_law_number", "_law_view"]) fun _ _ _ _ _ _ us hl => match us, hl with | [_, _, _, _, _], _ => rfl,
      m_l_told := PySem.W.mg_of X G a_l_told,
      F_law := fun_mk (st := s_law) l_law c_law k_law,
      b_law := (fun_mk (st := s_law) l_law c_law k_law).binds (ps := ["_law_script"]) fun _ _ _ _ _ _ us hl => match us, hl with | [_], _ => rfl,
      m_law := PySem.W.mg_of X G a_law,
      m_Pile := PySem.W.mg_of X G n_Pile,
      cl_Pile := ⟨pg_Pile, hd_Pile, po_Pile, sa_Pile⟩,
      mk_Pile := ⟨mk_Pile, a_Pile_init, i_Pile_init, kc_Pile⟩,
      na_boxes := na_boxes,
      na_counts := na_counts,
      na_made := na_made,
      m_Store := PySem.W.mg_of X G n_Store,
      cl_Store := ⟨pg_Store, hd_Store, po_Store, sa_Store⟩,
      mk_Store := ⟨mk_Store, a_Store_init, i_Store_init, kc_Store⟩,
      na_pile := na_pile,
      na_live := na_live,
      na_shots := na_shots,
      na_taken := na_taken,
      n_ValueError := PySem.W.mg_none_of X G z_ValueError,
      n_abs := PySem.W.mg_none_of X G z_abs,
      n_bool := PySem.W.mg_none_of X G z_bool,
      n_int := PySem.W.mg_none_of X G z_int,
      n_isinstance := PySem.W.mg_none_of X G z_isinstance,
      n_len := PySem.W.mg_none_of X G z_len,
      n_list := PySem.W.mg_none_of X G z_list,
      n_max := PySem.W.mg_none_of X G z_max,
      n_range := PySem.W.mg_none_of X G z_range,
      n_sorted := PySem.W.mg_none_of X G z_sorted,
      n_str := PySem.W.mg_none_of X G z_str,
      n_tuple := PySem.W.mg_none_of X G z_tuple,
      m_SnapError := PySem.W.mg_of X G n_SnapError,
      x_SnapError := xx_SnapError,
      k_SnapError := kk_SnapError,
      bs_SnapError := bs_SnapError,
      ty_SnapError := ty_SnapError,
      ic_SnapError := ic_SnapError,
      hd_SnapError := hd_SnapError,
      ec_SnapError := ⟨ga_SnapError, gt_SnapError, bs_SnapError, hd_SnapError, gc_SnapError, oc_get, oc_takes, gm_SnapError⟩,
      vs_SnapError := vs_SnapError,
      m_BadPath := PySem.W.mg_of X G n_BadPath,
      x_BadPath := xx_BadPath,
      k_BadPath := kk_BadPath,
      bs_BadPath := bs_BadPath,
      ty_BadPath := ty_BadPath,
      ic_BadPath := ic_BadPath,
      hd_BadPath := hd_BadPath,
      ec_BadPath := ⟨ga_BadPath, gt_BadPath, bs_BadPath, hd_BadPath, gc_BadPath, oc_get, oc_takes, gm_BadPath⟩,
      vs_BadPath := vs_BadPath,
      m_BadNumber := PySem.W.mg_of X G n_BadNumber,
      x_BadNumber := xx_BadNumber,
      k_BadNumber := kk_BadNumber,
      bs_BadNumber := bs_BadNumber,
      ty_BadNumber := ty_BadNumber,
      ic_BadNumber := ic_BadNumber,
      hd_BadNumber := hd_BadNumber,
      ec_BadNumber := ⟨ga_BadNumber, gt_BadNumber, bs_BadNumber, hd_BadNumber, gc_BadNumber, oc_get, oc_takes, gm_BadNumber⟩,
      vs_BadNumber := vs_BadNumber,
      m_Nothing := PySem.W.mg_of X G n_Nothing,
      x_Nothing := xx_Nothing,
      k_Nothing := kk_Nothing,
      bs_Nothing := bs_Nothing,
      ty_Nothing := ty_Nothing,
      ic_Nothing := ic_Nothing,
      hd_Nothing := hd_Nothing,
      ec_Nothing := ⟨ga_Nothing, gt_Nothing, bs_Nothing, hd_Nothing, gc_Nothing, oc_get, oc_takes, gm_Nothing⟩,
      vs_Nothing := vs_Nothing,
      m_LeafThere := PySem.W.mg_of X G n_LeafThere,
      x_LeafThere := xx_LeafThere,
      k_LeafThere := kk_LeafThere,
      bs_LeafThere := bs_LeafThere,
      ty_LeafThere := ty_LeafThere,
      ic_LeafThere := ic_LeafThere,
      hd_LeafThere := hd_LeafThere,
      ec_LeafThere := ⟨ga_LeafThere, gt_LeafThere, bs_LeafThere, hd_LeafThere, gc_LeafThere, oc_get, oc_takes, gm_LeafThere⟩,
      vs_LeafThere := vs_LeafThere,
      m_BranchThere := PySem.W.mg_of X G n_BranchThere,
      x_BranchThere := xx_BranchThere,
      k_BranchThere := kk_BranchThere,
      bs_BranchThere := bs_BranchThere,
      ty_BranchThere := ty_BranchThere,
      ic_BranchThere := ic_BranchThere,
      hd_BranchThere := hd_BranchThere,
      ec_BranchThere := ⟨ga_BranchThere, gt_BranchThere, bs_BranchThere, hd_BranchThere, gc_BranchThere, oc_get, oc_takes, gm_BranchThere⟩,
      vs_BranchThere := vs_BranchThere,
      m_NoShot := PySem.W.mg_of X G n_NoShot,
      x_NoShot := xx_NoShot,
      k_NoShot := kk_NoShot,
      bs_NoShot := bs_NoShot,
      ty_NoShot := ty_NoShot,
      ic_NoShot := ic_NoShot,
      hd_NoShot := hd_NoShot,
      ec_NoShot := ⟨ga_NoShot, gt_NoShot, bs_NoShot, hd_NoShot, gc_NoShot, oc_get, oc_takes, gm_NoShot⟩,
      vs_NoShot := vs_NoShot,
      m_NoBox := PySem.W.mg_of X G n_NoBox,
      x_NoBox := xx_NoBox,
      k_NoBox := kk_NoBox,
      bs_NoBox := bs_NoBox,
      ty_NoBox := ty_NoBox,
      ic_NoBox := ic_NoBox,
      hd_NoBox := hd_NoBox,
      ec_NoBox := ⟨ga_NoBox, gt_NoBox, bs_NoBox, hd_NoBox, gc_NoBox, oc_get, oc_takes, gm_NoBox⟩,
      vs_NoBox := vs_NoBox,
      su_BadNumber_BadNumber := su_BadNumber_BadNumber,
      su_BadNumber_BadPath := su_BadNumber_BadPath,
      su_BadNumber_BranchThere := su_BadNumber_BranchThere,
      su_BadNumber_LeafThere := su_BadNumber_LeafThere,
      su_BadNumber_NoBox := su_BadNumber_NoBox,
      su_BadNumber_NoShot := su_BadNumber_NoShot,
      su_BadNumber_Nothing := su_BadNumber_Nothing,
      su_BadNumber_SnapError := su_BadNumber_SnapError,
      su_BadPath_BadNumber := su_BadPath_BadNumber,
      su_BadPath_BadPath := su_BadPath_BadPath,
      su_BadPath_BranchThere := su_BadPath_BranchThere,
      su_BadPath_LeafThere := su_BadPath_LeafThere,
      su_BadPath_NoBox := su_BadPath_NoBox,
      su_BadPath_NoShot := su_BadPath_NoShot,
      su_BadPath_Nothing := su_BadPath_Nothing,
      su_BadPath_SnapError := su_BadPath_SnapError,
      su_BranchThere_BadNumber := su_BranchThere_BadNumber,
      su_BranchThere_BadPath := su_BranchThere_BadPath,
      su_BranchThere_BranchThere := su_BranchThere_BranchThere,
      su_BranchThere_LeafThere := su_BranchThere_LeafThere,
      su_BranchThere_NoBox := su_BranchThere_NoBox,
      su_BranchThere_NoShot := su_BranchThere_NoShot,
      su_BranchThere_Nothing := su_BranchThere_Nothing,
      su_BranchThere_SnapError := su_BranchThere_SnapError,
      su_LeafThere_BadNumber := su_LeafThere_BadNumber,
      su_LeafThere_BadPath := su_LeafThere_BadPath,
      su_LeafThere_BranchThere := su_LeafThere_BranchThere,
      su_LeafThere_LeafThere := su_LeafThere_LeafThere,
      su_LeafThere_NoBox := su_LeafThere_NoBox,
      su_LeafThere_NoShot := su_LeafThere_NoShot,
      su_LeafThere_Nothing := su_LeafThere_Nothing,
      su_LeafThere_SnapError := su_LeafThere_SnapError,
      su_NoBox_BadNumber := su_NoBox_BadNumber,
      su_NoBox_BadPath := su_NoBox_BadPath,
      su_NoBox_BranchThere := su_NoBox_BranchThere,
      su_NoBox_LeafThere := su_NoBox_LeafThere,
      su_NoBox_NoBox := su_NoBox_NoBox,
      su_NoBox_NoShot := su_NoBox_NoShot,
      su_NoBox_Nothing := su_NoBox_Nothing,
      su_NoBox_SnapError := su_NoBox_SnapError,
      su_NoShot_BadNumber := su_NoShot_BadNumber,
      su_NoShot_BadPath := su_NoShot_BadPath,
      su_NoShot_BranchThere := su_NoShot_BranchThere,
      su_NoShot_LeafThere := su_NoShot_LeafThere,
      su_NoShot_NoBox := su_NoShot_NoBox,
      su_NoShot_NoShot := su_NoShot_NoShot,
      su_NoShot_Nothing := su_NoShot_Nothing,
      su_NoShot_SnapError := su_NoShot_SnapError,
      su_Nothing_BadNumber := su_Nothing_BadNumber,
      su_Nothing_BadPath := su_Nothing_BadPath,
      su_Nothing_BranchThere := su_Nothing_BranchThere,
      su_Nothing_LeafThere := su_Nothing_LeafThere,
      su_Nothing_NoBox := su_Nothing_NoBox,
      su_Nothing_NoShot := su_Nothing_NoShot,
      su_Nothing_Nothing := su_Nothing_Nothing,
      su_Nothing_SnapError := su_Nothing_SnapError,
      g_BOUND := ⟨_, PySem.W.mg_of X G g_BOUND⟩,
      g_LETTERS := ⟨_, PySem.W.mg_of X G g_LETTERS⟩,
      g_MOST_LETTERS := ⟨_, PySem.W.mg_of X G g_MOST_LETTERS⟩,
      g_MOST_NAMES := ⟨_, PySem.W.mg_of X G g_MOST_NAMES⟩ }
  exact ⟨PySem.W.fnOf "law" "law" (defArgs s_law) (defBody s_law) (defScope s_law) .none kV_law dc_law pm_law an_law cd_law ct_law, fun s v => .of_eq rfl, fun base _ _ => (ok_law T).imp (law_imp (G := gg K _) main)⟩
theorem walk {l : PySem.W.OpenLaw} {q : Program} {loose : List Str} {XP : (Str → Option Value) → Heap → Prop} {YP : World → Heap → Prop} {d : DefRec} {K : Params → PySem.W.Frag} (hn : l.most = some 63) (hdf : d.params.defaults = [])
    (hY : ∀ (w : World) (h : Heap), YP w h → (K w.params).In h)
    (F : ∀ (w : World) (mg : Str → Option Value) (fa : Addr) (h : Heap), (K w.params).In h → h.Ns mainGlobals mg → mg d.name = some (.ref fa) →
      ∃ fd : FuncData, (∀ (s : Shared) (u : Value), BindsTo s fd ⟨[u], []⟩ [("_law_script", u)]) ∧ ∀ base : Heap, (K w.params).In base → base.Ns mainGlobals mg → FnOk l.prog w (K w.params) mg base (L2N.CX l.prog w) 10 fa fd ["_law_script"] (spLaw (K w.params))) :
    PySem.W.WalkO q loose XP YP l.row.toRowW d [] (fun f vs => PySem.call f vs) :=
  walk_law hn hdf ⟨rfl, by decide, by decide⟩ hY F
end Law
open PySem PySem.W PyProof.Rows in
set_option maxRecDepth 100000 in
set_option maxHeartbeats 0 in
theorem PySem.Challenge.cw_snaptree_k05_refused_in_order_holds : PySem.Challenge.rw_snaptree_k05_refused_in_order.Holds := by
  w_on; o_law; k_head; (case hw => w_witness2)
  k_fill
  refine Law.walk (l := PySem.Challenge.rw_snaptree_k05_refused_in_order) rfl rfl (fun w h Y => PySem.W.kIn_of Y) ?F
  case F =>
    intro w mg fa h KX G hmg
    refine' Law.all_mk KX G hmg ?n_Store ?n_Pile ?a_l_word_by ?l_l_word_by ?c_l_word_by ?k_l_word_by ?a_l_paths ?l_l_paths ?c_l_paths ?k_l_paths ?a_Pile_init ?i_Pile_init ?l_Pile_init ?c_Pile_init ?k_Pile_init ?a_Pile_fresh ?i_Pile_fresh ?l_Pile_fresh ?c_Pile_fresh ?k_Pile_fresh ?a_Pile_need ?i_Pile_need ?l_Pile_need ?c_Pile_need ?k_Pile_need ?a_Pile_hold ?i_Pile_hold ?l_Pile_hold ?c_Pile_hold ?k_Pile_hold ?a_Pile_branch ?i_Pile_branch ?l_Pile_branch ?c_Pile_branch ?k_Pile_branch ?a_Store_init ?i_Store_init ?l_Store_init ?c_Store_init ?k_Store_init ?a_is_name ?l_is_name ?c_is_name ?k_is_name ?a_checked ?l_checked ?c_checked ?k_checked ?a_Pile_let_go ?i_Pile_let_go ?l_Pile_let_go ?c_Pile_let_go ?k_Pile_let_go ?a_Store_turned ?i_Store_turned ?l_Store_turned ?c_Store_turned ?k_Store_turned ?a_box_of ?l_box_of ?c_box_of ?k_box_of ?a_Pile_content ?i_Pile_content ?l_Pile_content ?c_Pile_content ?k_Pile_content ?a_rows_in ?l_rows_in ?c_rows_in ?k_rows_in ?a_found ?l_found ?c_found ?k_found ?a_Store_top ?i_Store_top ?l_Store_top ?c_Store_top ?k_Store_top ?a_Store_kind ?i_Store_kind ?l_Store_kind ?c_Store_kind ?k_Store_kind ?a_without ?l_without ?c_without ?k_without ?a_placed ?l_placed ?c_placed ?k_placed ?a_rebuilt ?l_rebuilt ?c_rebuilt ?k_rebuilt ?a_Store_value ?i_Store_value ?l_Store_value ?c_Store_value ?k_Store_value ?a_Pile_leaf ?i_Pile_leaf ?l_Pile_leaf ?c_Pile_leaf ?k_Pile_leaf ?a_Store_put ?i_Store_put ?l_Store_put ?c_Store_put ?k_Store_put ?a_Store_snap ?i_Store_snap ?l_Store_snap ?c_Store_snap ?k_Store_snap ?a_Store_drop ?i_Store_drop ?l_Store_drop ?c_Store_drop ?k_Store_drop ?a_l_due_of_view ?l_l_due_of_view ?c_l_due_of_view ?k_l_due_of_view ?a_l_due ?l_l_due ?c_l_due ?k_l_due ?a_l_cell_at ?l_l_cell_at ?c_l_cell_at ?k_l_cell_at ?a_Pile_kept ?i_Pile_kept ?l_Pile_kept ?c_Pile_kept ?k_Pile_kept ?a_Store_shot_numbers ?i_Store_shot_numbers ?l_Store_shot_numbers ?c_Store_shot_numbers ?k_Store_shot_numbers ?a_Store_cut ?i_Store_cut ?l_Store_cut ?c_Store_cut ?k_Store_cut ?a_Store_back ?i_Store_back ?l_Store_back ?c_Store_back ?k_Store_back ?a_Store_names ?i_Store_names ?l_Store_names ?c_Store_names ?k_Store_names ?a_number_in ?l_number_in ?c_number_in ?k_number_in ?a_path_of ?l_path_of ?c_path_of ?k_path_of ?a_differences ?l_differences ?c_differences ?k_differences ?a_Store_changes ?i_Store_changes ?l_Store_changes ?c_Store_changes ?k_Store_changes ?a_l_asked ?l_l_asked ?c_l_asked ?k_l_asked ?a_l_told ?l_l_told ?c_l_told ?k_l_told ?a_law ?l_law ?c_law ?k_law ?pg_Pile ?hd_Pile ?po_Pile ?sa_Pile ?mk_Pile ?kc_Pile ?na_boxes ?na_counts ?na_made ?pg_Store ?hd_Store ?po_Store ?sa_Store ?mk_Store ?kc_Store ?na_pile ?na_live ?na_shots ?na_taken ?z_ValueError ?z_abs ?z_bool ?z_int ?z_isinstance ?z_len ?z_list ?z_max ?z_range ?z_sorted ?z_str ?z_tuple ?n_SnapError ?xx_SnapError ?kk_SnapError ?bs_SnapError ?ty_SnapError ?ic_SnapError ?hd_SnapError ?ga_SnapError ?gt_SnapError ?gc_SnapError ?gm_SnapError ?vs_SnapError ?n_BadPath ?xx_BadPath ?kk_BadPath ?bs_BadPath ?ty_BadPath ?ic_BadPath ?hd_BadPath ?ga_BadPath ?gt_BadPath ?gc_BadPath ?gm_BadPath ?vs_BadPath ?n_BadNumber ?xx_BadNumber ?kk_BadNumber ?bs_BadNumber ?ty_BadNumber ?ic_BadNumber ?hd_BadNumber ?ga_BadNumber ?gt_BadNumber ?gc_BadNumber ?gm_BadNumber ?vs_BadNumber ?n_Nothing ?xx_Nothing ?kk_Nothing ?bs_Nothing ?ty_Nothing ?ic_Nothing ?hd_Nothing ?ga_Nothing ?gt_Nothing ?gc_Nothing ?gm_Nothing ?vs_Nothing ?n_LeafThere ?xx_LeafThere ?kk_LeafThere ?bs_LeafThere ?ty_LeafThere ?ic_LeafThere ?hd_LeafThere ?ga_LeafThere ?gt_LeafThere ?gc_LeafThere ?gm_LeafThere ?vs_LeafThere ?n_BranchThere ?xx_BranchThere ?kk_BranchThere ?bs_BranchThere ?ty_BranchThere ?ic_BranchThere ?hd_BranchThere ?ga_BranchThere ?gt_BranchThere ?gc_BranchThere ?gm_BranchThere ?vs_BranchThere ?n_NoShot ?xx_NoShot ?kk_NoShot ?bs_NoShot ?ty_NoShot ?ic_NoShot ?hd_NoShot ?ga_NoShot ?gt_NoShot ?gc_NoShot ?gm_NoShot ?vs_NoShot ?n_NoBox ?xx_NoBox ?kk_NoBox ?bs_NoBox ?ty_NoBox ?ic_NoBox ?hd_NoBox ?ga_NoBox ?gt_NoBox ?gc_NoBox ?gm_NoBox ?vs_NoBox ?oc_get ?oc_takes ?su_BadNumber_BadNumber ?su_BadNumber_BadPath ?su_BadNumber_BranchThere ?su_BadNumber_LeafThere ?su_BadNumber_NoBox ?su_BadNumber_NoShot ?su_BadNumber_Nothing ?su_BadNumber_SnapError ?su_BadPath_BadNumber ?su_BadPath_BadPath ?su_BadPath_BranchThere ?su_BadPath_LeafThere ?su_BadPath_NoBox ?su_BadPath_NoShot ?su_BadPath_Nothing ?su_BadPath_SnapError ?su_BranchThere_BadNumber ?su_BranchThere_BadPath ?su_BranchThere_BranchThere ?su_BranchThere_LeafThere ?su_BranchThere_NoBox ?su_BranchThere_NoShot ?su_BranchThere_Nothing ?su_BranchThere_SnapError ?su_LeafThere_BadNumber ?su_LeafThere_BadPath ?su_LeafThere_BranchThere ?su_LeafThere_LeafThere ?su_LeafThere_NoBox ?su_LeafThere_NoShot ?su_LeafThere_Nothing ?su_LeafThere_SnapError ?su_NoBox_BadNumber ?su_NoBox_BadPath ?su_NoBox_BranchThere ?su_NoBox_LeafThere ?su_NoBox_NoBox ?su_NoBox_NoShot ?su_NoBox_Nothing ?su_NoBox_SnapError ?su_NoShot_BadNumber ?su_NoShot_BadPath ?su_NoShot_BranchThere ?su_NoShot_LeafThere ?su_NoShot_NoBox ?su_NoShot_NoShot ?su_NoShot_Nothing ?su_NoShot_SnapError ?su_Nothing_BadNumber ?su_Nothing_BadPath ?su_Nothing_BranchThere ?su_Nothing_LeafThere ?su_Nothing_NoBox ?su_Nothing_NoShot ?su_Nothing_Nothing ?su_Nothing_SnapError ?g_BOUND ?g_LETTERS ?g_MOST_LETTERS ?g_MOST_NAMES
    (case n_Store => k_is)
    (case n_Pile => k_is)
    (case a_l_word_by => k_is)
    (case l_l_word_by => k_is)
    (case c_l_word_by => k_is)
    (case k_l_word_by => k_is)
    (case a_l_paths => k_is)
    (case l_l_paths => k_is)
    (case c_l_paths => k_is)
    (case k_l_paths => k_is)
    (case a_Pile_init => k_is)
    (case i_Pile_init => k_is)
    (case l_Pile_init => k_is)
    (case c_Pile_init => k_is)
    (case k_Pile_init => k_is)
    (case a_Pile_fresh => k_is)
    (case i_Pile_fresh => k_is)
    (case l_Pile_fresh => k_is)
    (case c_Pile_fresh => k_is)
    (case k_Pile_fresh => k_is)
    (case a_Pile_need => k_is)
    (case i_Pile_need => k_is)
    (case l_Pile_need => k_is)
    (case c_Pile_need => k_is)
    (case k_Pile_need => k_is)
    (case a_Pile_hold => k_is)
    (case i_Pile_hold => k_is)
    (case l_Pile_hold => k_is)
    (case c_Pile_hold => k_is)
    (case k_Pile_hold => k_is)
    (case a_Pile_branch => k_is)
    (case i_Pile_branch => k_is)
    (case l_Pile_branch => k_is)
    (case c_Pile_branch => k_is)
    (case k_Pile_branch => k_is)
    (case a_Store_init => k_is)
    (case i_Store_init => k_is)
    (case l_Store_init => k_is)
    (case c_Store_init => k_is)
    (case k_Store_init => k_is)
    (case a_is_name => k_is)
    (case l_is_name => k_is)
    (case c_is_name => k_is)
    (case k_is_name => k_is)
    (case a_checked => k_is)
    (case l_checked => k_is)
    (case c_checked => k_is)
    (case k_checked => k_is)
    (case a_Pile_let_go => k_is)
    (case i_Pile_let_go => k_is)
    (case l_Pile_let_go => k_is)
    (case c_Pile_let_go => k_is)
    (case k_Pile_let_go => k_is)
    (case a_Store_turned => k_is)
    (case i_Store_turned => k_is)
    (case l_Store_turned => k_is)
    (case c_Store_turned => k_is)
    (case k_Store_turned => k_is)
    (case a_box_of => k_is)
    (case l_box_of => k_is)
    (case c_box_of => k_is)
    (case k_box_of => k_is)
    (case a_Pile_content => k_is)
    (case i_Pile_content => k_is)
    (case l_Pile_content => k_is)
    (case c_Pile_content => k_is)
    (case k_Pile_content => k_is)
    (case a_rows_in => k_is)
    (case l_rows_in => k_is)
    (case c_rows_in => k_is)
    (case k_rows_in => k_is)
    (case a_found => k_is)
    (case l_found => k_is)
    (case c_found => k_is)
    (case k_found => k_is)
    (case a_Store_top => k_is)
    (case i_Store_top => k_is)
    (case l_Store_top => k_is)
    (case c_Store_top => k_is)
    (case k_Store_top => k_is)
    (case a_Store_kind => k_is)
    (case i_Store_kind => k_is)
    (case l_Store_kind => k_is)
    (case c_Store_kind => k_is)
    (case k_Store_kind => k_is)
    (case a_without => k_is)
    (case l_without => k_is)
    (case c_without => k_is)
    (case k_without => k_is)
    (case a_placed => k_is)
    (case l_placed => k_is)
    (case c_placed => k_is)
    (case k_placed => k_is)
    (case a_rebuilt => k_is)
    (case l_rebuilt => k_is)
    (case c_rebuilt => k_is)
    (case k_rebuilt => k_is)
    (case a_Store_value => k_is)
    (case i_Store_value => k_is)
    (case l_Store_value => k_is)
    (case c_Store_value => k_is)
    (case k_Store_value => k_is)
    (case a_Pile_leaf => k_is)
    (case i_Pile_leaf => k_is)
    (case l_Pile_leaf => k_is)
    (case c_Pile_leaf => k_is)
    (case k_Pile_leaf => k_is)
    (case a_Store_put => k_is)
    (case i_Store_put => k_is)
    (case l_Store_put => k_is)
    (case c_Store_put => k_is)
    (case k_Store_put => k_is)
    (case a_Store_snap => k_is)
    (case i_Store_snap => k_is)
    (case l_Store_snap => k_is)
    (case c_Store_snap => k_is)
    (case k_Store_snap => k_is)
    (case a_Store_drop => k_is)
    (case i_Store_drop => k_is)
    (case l_Store_drop => k_is)
    (case c_Store_drop => k_is)
    (case k_Store_drop => k_is)
    (case a_l_due_of_view => k_is)
    (case l_l_due_of_view => k_is)
    (case c_l_due_of_view => k_is)
    (case k_l_due_of_view => k_is)
    (case a_l_due => k_is)
    (case l_l_due => k_is)
    (case c_l_due => k_is)
    (case k_l_due => k_is)
    (case a_l_cell_at => k_is)
    (case l_l_cell_at => k_is)
    (case c_l_cell_at => k_is)
    (case k_l_cell_at => k_is)
    (case a_Pile_kept => k_is)
    (case i_Pile_kept => k_is)
    (case l_Pile_kept => k_is)
    (case c_Pile_kept => k_is)
    (case k_Pile_kept => k_is)
    (case a_Store_shot_numbers => k_is)
    (case i_Store_shot_numbers => k_is)
    (case l_Store_shot_numbers => k_is)
    (case c_Store_shot_numbers => k_is)
    (case k_Store_shot_numbers => k_is)
    (case a_Store_cut => k_is)
    (case i_Store_cut => k_is)
    (case l_Store_cut => k_is)
    (case c_Store_cut => k_is)
    (case k_Store_cut => k_is)
    (case a_Store_back => k_is)
    (case i_Store_back => k_is)
    (case l_Store_back => k_is)
    (case c_Store_back => k_is)
    (case k_Store_back => k_is)
    (case a_Store_names => k_is)
    (case i_Store_names => k_is)
    (case l_Store_names => k_is)
    (case c_Store_names => k_is)
    (case k_Store_names => k_is)
    (case a_number_in => k_is)
    (case l_number_in => k_is)
    (case c_number_in => k_is)
    (case k_number_in => k_is)
    (case a_path_of => k_is)
    (case l_path_of => k_is)
    (case c_path_of => k_is)
    (case k_path_of => k_is)
    (case a_differences => k_is)
    (case l_differences => k_is)
    (case c_differences => k_is)
    (case k_differences => k_is)
    (case a_Store_changes => k_is)
    (case i_Store_changes => k_is)
    (case l_Store_changes => k_is)
    (case c_Store_changes => k_is)
    (case k_Store_changes => k_is)
    (case a_l_asked => k_is)
    (case l_l_asked => k_is)
    (case c_l_asked => k_is)
    (case k_l_asked => k_is)
    (case a_l_told => k_is)
    (case l_l_told => k_is)
    (case c_l_told => k_is)
    (case k_l_told => k_is)
    (case a_law => k_is)
    (case l_law => k_is)
    (case c_law => k_is)
    (case k_law => k_is)
    (case pg_Pile => k_is)
    (case hd_Pile => k_is)
    (case po_Pile => k_is)
    (case sa_Pile => k_is)
    (case mk_Pile => k_is)
    (case kc_Pile => k_is)
    (case na_boxes => k_is)
    (case na_counts => k_is)
    (case na_made => k_is)
    (case pg_Store => k_is)
    (case hd_Store => k_is)
    (case po_Store => k_is)
    (case sa_Store => k_is)
    (case mk_Store => k_is)
    (case kc_Store => k_is)
    (case na_pile => k_is)
    (case na_live => k_is)
    (case na_shots => k_is)
    (case na_taken => k_is)
    (case z_ValueError => k_is)
    (case z_abs => k_is)
    (case z_bool => k_is)
    (case z_int => k_is)
    (case z_isinstance => k_is)
    (case z_len => k_is)
    (case z_list => k_is)
    (case z_max => k_is)
    (case z_range => k_is)
    (case z_sorted => k_is)
    (case z_str => k_is)
    (case z_tuple => k_is)
    (case n_SnapError => k_is)
    (case xx_SnapError => k_exc)
    (case kk_SnapError => k_is)
    (case bs_SnapError => k_is)
    (case ty_SnapError => k_is)
    (case ic_SnapError => k_is)
    (case hd_SnapError => k_is)
    (case ga_SnapError => k_is)
    (case gt_SnapError => k_is)
    (case gc_SnapError => k_is)
    (case gm_SnapError => k_is)
    (case vs_SnapError => k_is)
    (case n_BadPath => k_is)
    (case xx_BadPath => k_exc)
    (case kk_BadPath => k_is)
    (case bs_BadPath => k_is)
    (case ty_BadPath => k_is)
    (case ic_BadPath => k_is)
    (case hd_BadPath => k_is)
    (case ga_BadPath => k_is)
    (case gt_BadPath => k_is)
    (case gc_BadPath => k_is)
    (case gm_BadPath => k_is)
    (case vs_BadPath => k_is)
    (case n_BadNumber => k_is)
    (case xx_BadNumber => k_exc)
    (case kk_BadNumber => k_is)
    (case bs_BadNumber => k_is)
    (case ty_BadNumber => k_is)
    (case ic_BadNumber => k_is)
    (case hd_BadNumber => k_is)
    (case ga_BadNumber => k_is)
    (case gt_BadNumber => k_is)
    (case gc_BadNumber => k_is)
    (case gm_BadNumber => k_is)
    (case vs_BadNumber => k_is)
    (case n_Nothing => k_is)
    (case xx_Nothing => k_exc)
    (case kk_Nothing => k_is)
    (case bs_Nothing => k_is)
    (case ty_Nothing => k_is)
    (case ic_Nothing => k_is)
    (case hd_Nothing => k_is)
    (case ga_Nothing => k_is)
    (case gt_Nothing => k_is)
    (case gc_Nothing => k_is)
    (case gm_Nothing => k_is)
    (case vs_Nothing => k_is)
    (case n_LeafThere => k_is)
    (case xx_LeafThere => k_exc)
    (case kk_LeafThere => k_is)
    (case bs_LeafThere => k_is)
    (case ty_LeafThere => k_is)
    (case ic_LeafThere => k_is)
    (case hd_LeafThere => k_is)
    (case ga_LeafThere => k_is)
    (case gt_LeafThere => k_is)
    (case gc_LeafThere => k_is)
    (case gm_LeafThere => k_is)
    (case vs_LeafThere => k_is)
    (case n_BranchThere => k_is)
    (case xx_BranchThere => k_exc)
    (case kk_BranchThere => k_is)
    (case bs_BranchThere => k_is)
    (case ty_BranchThere => k_is)
    (case ic_BranchThere => k_is)
    (case hd_BranchThere => k_is)
    (case ga_BranchThere => k_is)
    (case gt_BranchThere => k_is)
    (case gc_BranchThere => k_is)
    (case gm_BranchThere => k_is)
    (case vs_BranchThere => k_is)
    (case n_NoShot => k_is)
    (case xx_NoShot => k_exc)
    (case kk_NoShot => k_is)
    (case bs_NoShot => k_is)
    (case ty_NoShot => k_is)
    (case ic_NoShot => k_is)
    (case hd_NoShot => k_is)
    (case ga_NoShot => k_is)
    (case gt_NoShot => k_is)
    (case gc_NoShot => k_is)
    (case gm_NoShot => k_is)
    (case vs_NoShot => k_is)
    (case n_NoBox => k_is)
    (case xx_NoBox => k_exc)
    (case kk_NoBox => k_is)
    (case bs_NoBox => k_is)
    (case ty_NoBox => k_is)
    (case ic_NoBox => k_is)
    (case hd_NoBox => k_is)
    (case ga_NoBox => k_is)
    (case gt_NoBox => k_is)
    (case gc_NoBox => k_is)
    (case gm_NoBox => k_is)
    (case vs_NoBox => k_is)
    (case oc_get => k_is)
    (case oc_takes => k_is)
    (case su_BadNumber_BadNumber => k_is)
    (case su_BadNumber_BadPath => k_is)
    (case su_BadNumber_BranchThere => k_is)
    (case su_BadNumber_LeafThere => k_is)
    (case su_BadNumber_NoBox => k_is)
    (case su_BadNumber_NoShot => k_is)
    (case su_BadNumber_Nothing => k_is)
    (case su_BadNumber_SnapError => k_is)
    (case su_BadPath_BadNumber => k_is)
    (case su_BadPath_BadPath => k_is)
    (case su_BadPath_BranchThere => k_is)
    (case su_BadPath_LeafThere => k_is)
    (case su_BadPath_NoBox => k_is)
    (case su_BadPath_NoShot => k_is)
    (case su_BadPath_Nothing => k_is)
    (case su_BadPath_SnapError => k_is)
    (case su_BranchThere_BadNumber => k_is)
    (case su_BranchThere_BadPath => k_is)
    (case su_BranchThere_BranchThere => k_is)
    (case su_BranchThere_LeafThere => k_is)
    (case su_BranchThere_NoBox => k_is)
    (case su_BranchThere_NoShot => k_is)
    (case su_BranchThere_Nothing => k_is)
    (case su_BranchThere_SnapError => k_is)
    (case su_LeafThere_BadNumber => k_is)
    (case su_LeafThere_BadPath => k_is)
    (case su_LeafThere_BranchThere => k_is)
    (case su_LeafThere_LeafThere => k_is)
    (case su_LeafThere_NoBox => k_is)
    (case su_LeafThere_NoShot => k_is)
    (case su_LeafThere_Nothing => k_is)
    (case su_LeafThere_SnapError => k_is)
    (case su_NoBox_BadNumber => k_is)
    (case su_NoBox_BadPath => k_is)
    (case su_NoBox_BranchThere => k_is)
    (case su_NoBox_LeafThere => k_is)
    (case su_NoBox_NoBox => k_is)
    (case su_NoBox_NoShot => k_is)
    (case su_NoBox_Nothing => k_is)
    (case su_NoBox_SnapError => k_is)
    (case su_NoShot_BadNumber => k_is)
    (case su_NoShot_BadPath => k_is)
    (case su_NoShot_BranchThere => k_is)
    (case su_NoShot_LeafThere => k_is)
    (case su_NoShot_NoBox => k_is)
    (case su_NoShot_NoShot => k_is)
    (case su_NoShot_Nothing => k_is)
    (case su_NoShot_SnapError => k_is)
    (case su_Nothing_BadNumber => k_is)
    (case su_Nothing_BadPath => k_is)
    (case su_Nothing_BranchThere => k_is)
    (case su_Nothing_LeafThere => k_is)
    (case su_Nothing_NoBox => k_is)
    (case su_Nothing_NoShot => k_is)
    (case su_Nothing_Nothing => k_is)
    (case su_Nothing_SnapError => k_is)
    (case g_BOUND => k_is)
    (case g_LETTERS => k_is)
    (case g_MOST_LETTERS => k_is)
    (case g_MOST_NAMES => k_is)
