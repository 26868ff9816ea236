import PyProof.Rows.All
import Wide.All
import OpenK.AllK
import Wide.FinOn
import HandS.ForMost
import HandS.ForExc
import HandS.ExcCtx
import HandS.HotCalls
import HandS.IsInst
import HandS.Walk
import HandS.More
import KE.SortData
import HandS.ExcIs
import HandS.TryOnly
import HandS.TryMany
import HandS.CallLocal
import HandS.Codes
import HandS.DeepEq
import HandS.Conv
import HandS.SortKw
import KE.SortKeyHeap
import HandS.Strs
import HandS.SetTxt0
import PySem.Challenge.RW_snaptree_k08_whole_pile
/-! Sn1 -/
set_option Elab.async false
set_option linter.all false
set_option maxRecDepth 100000
set_option autoImplicit false
set_option maxHeartbeats 1000000
/-! Sn1: data values with places, memories, and how they are held by an abstract heap -/
namespace Sn
open PySem PySem.Spec PyProof.Rows L2

/-- a value of the mirror: data, a place of the memory, a def's address -/
inductive Dv where
  | non | bl (b : Bool) | int (i : Int) | str (s : Str) | fn (n : Nat) | loc (n : Nat) | scr (ns : List Int)
  | lst (l : List Dv) | tup (l : List Dv)
  | dic (ks : List Key) (l : List Dv) | dit (ks : List (List Key)) (l : List Dv)
deriving Inhabited

/-- what stands at a place -/
inductive MO where
  | dead
  | lst (l : List Dv)
  | dic (kvs : List (Key × Dv))
  | dit (kvs : List (List Key × Dv))
  | ins (C : Nat) (fs : List Dv)
  | lck (kvs : List (Key × Dv))
  | lct (kvs : List (List Key × Dv))
deriving Inhabited
/-- what may change -/
def Fre : MO → Prop
  | .dead => False
  | .lck _ => False
  | .lct _ => False
  | _ => True
abbrev Mem := List MO
abbrev Lc := List (Option Dv)
/-- the classes of the program's own exceptions -/
abbrev XC := Nat

/-- what stands stays -/
def Le (D D' : Hp) : Prop := ∀ a o, D a = some o → D' a = some o
theorem Le.refl (D : Hp) : Le D D := fun _ _ h => h
theorem Le.trans {D D' D'' : Hp} (a : Le D D') (b : Le D' D'') : Le D D'' := fun x o h => b x o (a x o h)
theorem Le.free {D D' : Hp} (e : Le D D') {a : Addr} (h : D' a = none) : D a = none := by
  cases q : D a with
  | none => rfl
  | some o =>
    rw [e a o q] at h; cases h
theorem Le.new {D : Hp} {p : Addr} {o : HO} (h : D p = none) : Le D (upd D p o) := fun a u e => by
  rw [upd_ne (ne_of_none e h)]; exact e
theorem Le.mut {D H : Hp} {p : Addr} {o : HO} (e : Le D H) (h : D p = none) : Le D (upd H p o) := fun a u r => by
  have hne : a ≠ p := by
    rintro rfl
    rw [h] at r; cases r
  rw [upd_ne hne]
  exact e a u r
theorem Le.upd2 {D H : Hp} {p : Addr} {o : HO} (e : Le D H) : Le (upd D p o) (upd H p o) := fun a u r => by
  by_cases h : a = p
  · subst h
    rw [upd_same] at r ⊢
    exact r
  · rw [upd_ne h] at r ⊢
    exact e a u r
theorem Le.lst {D D' : Hp} (e : Le D D') {a : Addr} {xs : List V} (h : D a = some (.lst xs)) : D' a = some (.lst xs) := e _ _ h
theorem Le.tup {D D' : Hp} (e : Le D D') {a : Addr} {xs : List V} (h : D a = some (.tup xs)) : D' a = some (.tup xs) := e _ _ h
theorem Le.sqL {K : PySem.W.Frag} {D D' : Hp} (e : Le D D') {a : Addr} {xs : List V} (h : SqL K D a xs) : SqL K D' a xs := by
  rcases h with (h | ⟨ob, h⟩) | h
  · exact .inl (.inl (e _ _ h))
  · exact .inl (.inr ⟨ob, e _ _ h⟩)
  · exact .inr h
def DkAt (D : Hp) (a : Addr) (kvs : List (Key × V)) : Prop := D a = some (.dK kvs) ∨ ∃ ob, D a = some (.frz ob (.dK kvs))
def DtAt (D : Hp) (a : Addr) (kvs : List (List Key × V)) : Prop := D a = some (.dT kvs) ∨ ∃ ob, D a = some (.frz ob (.dT kvs))
theorem Le.dk {D D' : Hp} (e : Le D D') {a : Addr} {kvs : List (Key × V)} (h : DkAt D a kvs) : DkAt D' a kvs := by
  rcases h with h | ⟨ob, h⟩
  · exact .inl (e _ _ h)
  · exact .inr ⟨ob, e _ _ h⟩
theorem Le.dt {D D' : Hp} (e : Le D D') {a : Addr} {kvs : List (List Key × V)} (h : DtAt D a kvs) : DtAt D' a kvs := by
  rcases h with h | ⟨ob, h⟩
  · exact .inl (e _ _ h)
  · exact .inr ⟨ob, e _ _ h⟩

/-- the program as it stands: its written part, the classes' addresses, their fields' names in order, the errors' classes, the defs that are handed on -/
structure Cg where
  K : PySem.W.Frag
  cls : Nat → Addr
  names : Nat → List Str
  xa : XC → Addr
  fns : Nat → Addr

mutual
inductive Rep (K : Cg) (D : Hp) (adr : List Addr) : V → Dv → Prop
  | non : Rep K D adr .non .non
  | bl (b : Bool) : Rep K D adr (.bl b) (.bl b)
  | int (i : Int) : Rep K D adr (.int i) (.int i)
  | str (s : Str) : Rep K D adr (.str s) (.str s)
  | fn (n : Nat) : Rep K D adr (.ref (K.fns n)) (.fn n)
  | loc {n : Nat} {a : Addr} : adr[n]? = some a → Rep K D adr (.ref a) (.loc n)
  | scr {p : Addr} {ns : List Int} : SqL K.K D p (ns.map V.int) → Rep K D adr (.ref p) (.scr ns)
  | lst {p : Addr} {vs : List V} {ds : List Dv} : D p = some (.lst vs) → Reps K D adr vs ds → Rep K D adr (.ref p) (.lst ds)
  | tup {p : Addr} {vs : List V} {ds : List Dv} : D p = some (.tup vs) → Reps K D adr vs ds → Rep K D adr (.ref p) (.tup ds)
inductive Reps (K : Cg) (D : Hp) (adr : List Addr) : List V → List Dv → Prop
  | nil : Reps K D adr [] []
  | cons {v : V} {vs : List V} {d : Dv} {ds : List Dv} : Rep K D adr v d → Reps K D adr vs ds → Reps K D adr (v :: vs) (d :: ds)
end

/-- longer address lists -/
def Pf (a b : List Addr) : Prop := ∃ c, b = a ++ c
theorem Pf.refl (a : List Addr) : Pf a a := ⟨[], by simp⟩
theorem Pf.trans {a b c : List Addr} (h : Pf a b) (g : Pf b c) : Pf a c := by
  obtain ⟨x, rfl⟩ := h
  obtain ⟨y, rfl⟩ := g
  exact ⟨x ++ y, by simp⟩
theorem Pf.get {a b : List Addr} (h : Pf a b) {n : Nat} {x : Addr} (e : a[n]? = some x) : b[n]? = some x := by
  obtain ⟨c, rfl⟩ := h
  have hn := (List.getElem?_eq_some_iff.mp e).1
  rw [List.getElem?_append_left hn]
  exact e
theorem Pf.snoc {a : List Addr} {p : Addr} : Pf a (a ++ [p]) := ⟨[p], rfl⟩

section
variable {K : Cg} {D D' : Hp} {adr adr' : List Addr}
mutual
theorem Rep.mono (e : Le D D') (f : Pf adr adr') : ∀ (d : Dv) (v : V), Rep K D adr v d → Rep K D' adr' v d
  | .non, _, h => by cases h; exact .non
  | .bl b, _, h => by cases h; exact .bl b
  | .int i, _, h => by cases h; exact .int i
  | .str s, _, h => by cases h; exact .str s
  | .fn a, _, h => by cases h; exact .fn a
  | .loc n, _, h => by
    cases h with
    | loc q => exact .loc (f.get q)
  | .scr ns, _, h => by
    cases h with
    | scr q => exact .scr (e.sqL q)
  | .lst ds, _, h => by
    cases h with
    | lst q r => exact .lst (e.lst q) (Reps.mono e f ds _ r)
  | .tup ds, _, h => by
    cases h with
    | tup q r => exact .tup (e.tup q) (Reps.mono e f ds _ r)
  | .dic ks ds, _, h => by cases h
  | .dit ks ds, _, h => by cases h
theorem Reps.mono (e : Le D D') (f : Pf adr adr') : ∀ (ds : List Dv) (vs : List V), Reps K D adr vs ds → Reps K D' adr' vs ds
  | [], _, h => by cases h; exact .nil
  | d :: ds, _, h => by
    cases h with
    | cons q r => exact .cons (Rep.mono e f d _ q) (Reps.mono e f ds _ r)
end
theorem Reps.length : ∀ {vs : List V} {ds : List Dv}, Reps K D adr vs ds → vs.length = ds.length
  | [], [], _ => rfl
  | [], _ :: _, h => nomatch h
  | _ :: _, [], h => nomatch h
  | v :: vs, d :: ds, h => by
    cases h with
    | cons _ r => simp [Reps.length r]
theorem Reps.get : ∀ {vs : List V} {ds : List Dv} {i : Nat} {d : Dv}, Reps K D adr vs ds → ds[i]? = some d → ∃ v, vs[i]? = some v ∧ Rep K D adr v d
  | [], [], _, _, _, e => by simp at e
  | [], _ :: _, _, _, h, _ => nomatch h
  | _ :: _, [], _, _, h, _ => nomatch h
  | v :: vs, d :: ds, 0, _, h, e => by
    cases h with
    | cons q _ => simp at e; subst e; exact ⟨v, by simp, q⟩
  | v :: vs, d :: ds, i + 1, _, h, e => by
    cases h with
    | cons _ r =>
      obtain ⟨w, e1, e2⟩ := Reps.get (i := i) r (by simpa using e)
      exact ⟨w, by simpa using e1, e2⟩
theorem Reps.append : ∀ {vs ws : List V} {ds es : List Dv}, Reps K D adr vs ds → Reps K D adr ws es → Reps K D adr (vs ++ ws) (ds ++ es)
  | [], _, [], _, _, h => h
  | [], _, _ :: _, _, h, _ => nomatch h
  | _ :: _, _, [], _, h, _ => nomatch h
  | v :: vs, _, d :: ds, _, h, g => by
    cases h with
    | cons q r => exact .cons q (Reps.append r g)
theorem Reps.one {v : V} {d : Dv} (h : Rep K D adr v d) : Reps K D adr [v] [d] := .cons h .nil
theorem Reps.take : ∀ {vs : List V} {ds : List Dv} (n : Nat), Reps K D adr vs ds → Reps K D adr (vs.take n) (ds.take n)
  | [], [], n, _ => by simp; exact .nil
  | [], _ :: _, _, h => nomatch h
  | _ :: _, [], _, h => nomatch h
  | v :: vs, d :: ds, 0, _ => .nil
  | v :: vs, d :: ds, n + 1, h => by
    cases h with
    | cons q r => exact .cons q (Reps.take n r)
theorem Reps.drop : ∀ {vs : List V} {ds : List Dv} (n : Nat), Reps K D adr vs ds → Reps K D adr (vs.drop n) (ds.drop n)
  | _, _, 0, h => h
  | [], [], n + 1, _ => .nil
  | [], _ :: _, _ + 1, h => nomatch h
  | _ :: _, [], _ + 1, h => nomatch h
  | v :: vs, d :: ds, n + 1, h => by
    cases h with
    | cons q r => exact Reps.drop n r
theorem Reps.set : ∀ {vs : List V} {ds : List Dv} (i : Nat) {v : V} {d : Dv}, Reps K D adr vs ds → Rep K D adr v d → Reps K D adr (vs.set i v) (ds.set i d)
  | [], [], i, _, _, _, _ => by simp; exact .nil
  | [], _ :: _, _, _, _, h, _ => nomatch h
  | _ :: _, [], _, _, _, h, _ => nomatch h
  | v :: vs, d :: ds, 0, _, _, h, g => by
    cases h with
    | cons _ r => exact .cons g r
  | v :: vs, d :: ds, i + 1, _, _, h, g => by
    cases h with
    | cons q r => exact .cons q (Reps.set i r g)
theorem Reps.dropLast : ∀ {vs : List V} {ds : List Dv}, Reps K D adr vs ds → Reps K D adr vs.dropLast ds.dropLast := fun {vs ds} h => by
  rw [List.dropLast_eq_take, List.dropLast_eq_take, h.length]
  exact h.take _

/-! ### a value of a kind -/
theorem Rep.int_inv {v : V} {i : Int} (h : Rep K D adr v (.int i)) : v = .int i := by cases h; rfl
theorem Rep.bl_inv {v : V} {b : Bool} (h : Rep K D adr v (.bl b)) : v = .bl b := by cases h; rfl
theorem Rep.str_inv {v : V} {s : Str} (h : Rep K D adr v (.str s)) : v = .str s := by cases h; rfl
theorem Rep.non_inv {v : V} (h : Rep K D adr v .non) : v = .non := by cases h; rfl
theorem Rep.non_iff {v : V} {d : Dv} (h : Rep K D adr v d) : v = .non ↔ d = .non := by
  cases h <;> simp
end

/-! ### the memory -/
def KReps (K : Cg) (D : Hp) (adr : List Addr) {κ : Type} (kvs : List (κ × V)) (kds : List (κ × Dv)) : Prop :=
  kvs.map (·.1) = kds.map (·.1) ∧ Reps K D adr (kvs.map (·.2)) (kds.map (·.2))
def RO (G : Cg) (D : Hp) (adr : List Addr) (H : Hp) (a : Addr) : MO → Prop
  | .dead => True
  | .lst ds => ∃ vs, H a = some (.lst vs) ∧ Reps G D adr vs ds
  | .dic kds => ∃ kvs, H a = some (.dK kvs) ∧ KReps G D adr kvs kds
  | .dit kds => ∃ kvs, H a = some (.dT kvs) ∧ KReps G D adr kvs kds
  | .lck kds => ∃ kvs ob, D a = some (.frz ob (.dK kvs)) ∧ KReps G D adr kvs kds
  | .lct kds => ∃ kvs ob, D a = some (.frz ob (.dT kvs)) ∧ KReps G D adr kvs kds
  | .ins C ds => ∃ dx fv, H a = some (.ins (G.cls C) dx fv) ∧ fv.map (·.1) = (G.names C).take ds.length ∧ ds.length ≤ (G.names C).length ∧ Reps G D adr (fv.map (·.2)) ds
theorem KReps.mono {K : Cg} {D D' : Hp} {adr adr' : List Addr} {κ : Type} {kvs : List (κ × V)} {kds : List (κ × Dv)} (e : Le D D') (f : Pf adr adr') (h : KReps K D adr kvs kds) : KReps K D' adr' kvs kds :=
  ⟨h.1, Reps.mono e f _ _ h.2⟩
theorem RO.mono {G : Cg} {D D' : Hp} {adr adr' : List Addr} {H : Hp} {a : Addr} (e : Le D D') (f : Pf adr adr') : ∀ {o : MO}, RO G D adr H a o → RO G D' adr' H a o
  | .dead, _ => trivial
  | .lst ds, ⟨vs, h, r⟩ => ⟨vs, h, Reps.mono e f _ _ r⟩
  | .dic kds, ⟨vs, h, r⟩ => ⟨vs, h, r.mono e f⟩
  | .dit kds, ⟨vs, h, r⟩ => ⟨vs, h, r.mono e f⟩
  | .lck kds, ⟨vs, ob, h, r⟩ => ⟨vs, ob, e _ _ h, r.mono e f⟩
  | .lct kds, ⟨vs, ob, h, r⟩ => ⟨vs, ob, e _ _ h, r.mono e f⟩
  | .ins C ds, ⟨dx, fv, h, n, l, r⟩ => ⟨dx, fv, h, n, l, Reps.mono e f _ _ r⟩
theorem RO.heap {G : Cg} {D : Hp} {adr : List Addr} {H H' : Hp} {a : Addr} (e : H' a = H a) : ∀ {o : MO}, RO G D adr H a o → RO G D adr H' a o
  | .dead, _ => trivial
  | .lst ds, ⟨vs, h, r⟩ => ⟨vs, e.trans h, r⟩
  | .dic kds, ⟨vs, h, r⟩ => ⟨vs, e.trans h, r⟩
  | .dit kds, ⟨vs, h, r⟩ => ⟨vs, e.trans h, r⟩
  | .lck kds, h => h
  | .lct kds, h => h
  | .ins C ds, ⟨dx, fv, h, n, l, r⟩ => ⟨dx, fv, e.trans h, n, l, r⟩

structure RM (G : Cg) (D : Hp) (adr : List Addr) (m : Mem) (H : Hp) : Prop where
  le : Le D H
  nd : adr.Nodup
  len : adr.length = m.length
  fr : ∀ (n : Nat) (a : Addr) (o : MO), adr[n]? = some a → m[n]? = some o → Fre o → D a = none
  ex : ∀ a ∈ adr, H a ≠ none
  at_ : ∀ (n : Nat) (a : Addr) (o : MO), adr[n]? = some a → m[n]? = some o → RO G D adr H a o

section
variable {G : Cg} {D : Hp} {adr : List Addr} {m : Mem} {H : Hp}
theorem RM.start (G : Cg) (H : Hp) : RM G H [] [] H := ⟨Le.refl H, List.nodup_nil, rfl, fun n a o h => by simp at h, fun a h => by simp at h, fun n a o h => by simp at h⟩
theorem RM.notin (r : RM G D adr m H) {p : Addr} (h : H p = none) : p ∉ adr := fun q => r.ex p q h
theorem RM.dfree (r : RM G D adr m H) {p : Addr} (h : H p = none) : D p = none := r.le.free h
theorem RM.of_loc (r : RM G D adr m H) {v : V} {n : Nat} {o : MO} (h : Rep G D adr v (.loc n)) (e : m[n]? = some o) : ∃ a, v = .ref a ∧ adr[n]? = some a ∧ RO G D adr H a o := by
  cases h with
  | loc q => exact ⟨_, rfl, q, r.at_ _ _ _ q e⟩
/-- a new thing that is never changed -/
theorem RM.newD (r : RM G D adr m H) {p : Addr} {o : HO} (h : H p = none) : RM G (upd D p o) adr m (upd H p o) := by
  have hd := r.dfree h
  have hne : ∀ n a, adr[n]? = some a → a ≠ p := fun n a e q => r.notin h (q ▸ List.mem_of_getElem? e)
  refine ⟨r.le.upd2, r.nd, r.len, fun n a o' e1 e2 e3 => ?_, fun a e => ?_, fun n a o' e1 e2 => ?_⟩
  · rw [upd_ne (hne n a e1)]; exact r.fr n a o' e1 e2 e3
  · by_cases q : a = p
    · rw [q, upd_same]; exact fun z => nomatch z
    · rw [upd_ne q]; exact r.ex a e
  · exact ((r.at_ n a o' e1 e2).mono (Le.new hd) (Pf.refl _)).heap (upd_ne (hne n a e1))
/-- a new thing with a place -/
theorem RM.newM (r : RM G D adr m H) {p : Addr} {ho : HO} {o : MO} (h : H p = none) (ro : RO G D (adr ++ [p]) (upd H p ho) p o) : RM G D (adr ++ [p]) (m ++ [o]) (upd H p ho) := by
  have hd := r.dfree h
  have hni := r.notin h
  have hne : ∀ n a, adr[n]? = some a → a ≠ p := fun n a e q => hni (q ▸ List.mem_of_getElem? e)
  have split : ∀ n a o', (adr ++ [p])[n]? = some a → (m ++ [o])[n]? = some o' → (adr[n]? = some a ∧ m[n]? = some o') ∨ (a = p ∧ o' = o) := fun n a o' e1 e2 => by
    by_cases hn : n < adr.length
    · rw [List.getElem?_append_left hn] at e1
      rw [List.getElem?_append_left (by rw [← r.len]; exact hn)] at e2
      exact .inl ⟨e1, e2⟩
    · have hn' : adr.length ≤ n := Nat.le_of_not_lt hn
      rw [List.getElem?_append_right hn'] at e1
      rw [List.getElem?_append_right (by rw [← r.len]; exact hn')] at e2
      rw [r.len] at e1
      cases hk : n - m.length with
      | zero => rw [hk] at e1 e2; simp at e1 e2; exact .inr ⟨e1.symm, e2.symm⟩
      | succ k => rw [hk] at e1; simp at e1
  refine ⟨r.le.mut hd, ?_, by simp [r.len], fun n a o' e1 e2 e3 => ?_, fun a e => ?_, fun n a o' e1 e2 => ?_⟩
  · rw [List.nodup_append]
    exact ⟨r.nd, by simp, fun a ha b hb => by rw [List.mem_singleton] at hb; subst hb; exact fun q => hni (q ▸ ha)⟩
  · rcases split n a o' e1 e2 with ⟨q1, q2⟩ | ⟨q1, q2⟩
    · exact r.fr n a o' q1 q2 e3
    · rw [q1]; exact hd
  · by_cases q : a = p
    · rw [q, upd_same]; exact fun z => nomatch z
    · rw [upd_ne q]
      rcases List.mem_append.mp e with e | e
      · exact r.ex a e
      · exact absurd (List.mem_singleton.mp e) q
  · rcases split n a o' e1 e2 with ⟨q1, q2⟩ | ⟨q1, q2⟩
    · exact ((r.at_ n a o' q1 q2).mono (Le.refl D) Pf.snoc).heap (upd_ne (hne n a q1))
    · rw [q1, q2]; exact ro
/-- a thing with a place changes -/
theorem RM.setM (r : RM G D adr m H) {n : Nat} {a : Addr} {o o0 : MO} {ho : HO} (e1 : adr[n]? = some a) (e2 : m[n]? = some o0) (e3 : Fre o0) (ro : RO G D adr (upd H a ho) a o) : RM G D adr (m.set n o) (upd H a ho) := by
  have hd := r.fr n a o0 e1 e2 e3
  refine ⟨r.le.mut hd, r.nd, by simp [r.len], fun k b o' q1 q2 q3 => ?_, fun b q => ?_, fun k b o' q1 q2 => ?_⟩
  · by_cases hk : n = k
    · subst hk
      rw [e1] at q1; cases q1
      exact hd
    · rw [List.getElem?_set_ne hk] at q2
      exact r.fr k b o' q1 q2 q3
  · by_cases z : b = a
    · rw [z, upd_same]; exact fun z => nomatch z
    · rw [upd_ne z]; exact r.ex b q
  · by_cases hk : n = k
    · subst hk
      rw [e1] at q1; cases q1
      rw [List.getElem?_set_self (by have := (List.getElem?_eq_some_iff.mp e2).1; exact this)] at q2
      cases q2
      exact ro
    · rw [List.getElem?_set_ne hk] at q2
      have hba : b ≠ a := by
        rintro rfl
        obtain ⟨l1, g1⟩ := List.getElem?_eq_some_iff.mp e1
        obtain ⟨l2, g2⟩ := List.getElem?_eq_some_iff.mp q1
        exact hk ((List.getElem_inj r.nd).mp (g1.trans g2.symm))
      exact (r.at_ k b o' q1 q2).heap (upd_ne hba)
/-- nothing changes any more at a place: what stands there is data from now on -/
theorem RM.freeze (r : RM G D adr m H) {n : Nat} {a : Addr} {o0 : MO} {ho : HO} (e1 : adr[n]? = some a) (e2 : m[n]? = some o0) (e3 : Fre o0) (h : H a = some ho) : RM G (upd D a ho) adr (m.set n .dead) H ∧ Le D (upd D a ho) := by
  have hd := r.fr n a o0 e1 e2 e3
  have hl : Le D (upd D a ho) := Le.new hd
  refine ⟨⟨fun b u q => ?_, r.nd, by simp [r.len], fun k b o' q1 q2 q3 => ?_, r.ex, fun k b o' q1 q2 => ?_⟩, hl⟩
  · by_cases z : b = a
    · subst z
      rw [upd_same] at q
      exact h.trans q
    · rw [upd_ne z] at q
      exact r.le b u q
  · by_cases hk : n = k
    · subst hk
      rw [List.getElem?_set_self (by have := (List.getElem?_eq_some_iff.mp e2).1; exact this)] at q2
      cases q2
      exact q3.elim
    · rw [List.getElem?_set_ne hk] at q2
      have hba : b ≠ a := by
        rintro rfl
        obtain ⟨l1, g1⟩ := List.getElem?_eq_some_iff.mp e1
        obtain ⟨l2, g2⟩ := List.getElem?_eq_some_iff.mp q1
        exact hk ((List.getElem_inj r.nd).mp (g1.trans g2.symm))
      rw [upd_ne hba]
      exact r.fr k b o' q1 q2 q3
  · by_cases hk : n = k
    · subst hk
      rw [List.getElem?_set_self (by have := (List.getElem?_eq_some_iff.mp e2).1; exact this)] at q2
      cases q2
      trivial
    · rw [List.getElem?_set_ne hk] at q2
      exact (r.at_ k b o' q1 q2).mono hl (Pf.refl _)
end
end Sn
/-! Sn2 -/
set_option Elab.async false
set_option linter.all false
set_option maxRecDepth 100000
set_option autoImplicit false
set_option maxHeartbeats 1000000
/-! Sn2: the mirror's results; what a mirror's reading asks; blocks, names, tests -/
namespace Sn
open PySem PySem.Spec PyProof.Rows L2

/-! with the context of an exception known to be none (L2N) -/
theorem passLN {X : Cx} : Passes (L2N.CX X.prog X.w) X E0 := fun _ _ _ _ _ _ _ h => by
  obtain ⟨_, _, _, _, _, _, _, _, _, _, _, _, z⟩ := h
  exact z.elim
theorem takes0N {X : Cx} : L2N.Takes X (fun _ _ _ _ => False) := fun _ _ x => by
  obtain ⟨_, _, _, _, _, _, _, _, _, _, _, _, _, _, _, _, z⟩ := x
  exact z.elim
theorem okXN {P : Program} {w : World} {K : PySem.W.Frag} {mg : Str → Option Value} {base : Heap} {x qual : Str} {st : Stmt} {f : Addr} {fd : FuncData} {N ps : List Str} {k : Nat} {sp : Sp} (F : Fun K x qual st f fd) (S : FnScope N ps (defScope st)) (len : ∀ vs H Q E, sp vs H Q E → vs.length = ps.length)
    (hbody : ∀ (cdv : Value) (A : Around) (outer : List Env) (s : Shared) (H : Hp) (vs : List V) (Q : VK) (E : XK), Room k (A.deeper (envOfC qual (defScope st) s.heap.objs.size f cdv)) → sp vs H Q E →
      ∃ t, PSs (cxOf (L2N.CX P w) P w K mg base N qual (defScope st) f cdv A outer s H E) (defBody st) t ∧ t { nx := fun _ H' => Q .non H', rt := Q } (start N vs) H) : FnOk P w K mg base (L2N.CX P w) (k + 1) f fd ps sp := by
  obtain ⟨oc, od, kV, doc, pm, an, cdv, ct, osl, rfl, lk, hcd⟩ := F.ex
  exact fn_of lk hcd S len fun A outer s H vs Q E hr hsp => hbody cdv A outer s H vs Q E hr hsp

inductive Res (α : Type) where
  | ok (a : α) (m : Mem)
  | exc (c : XC) (m : Mem)
  | bad
@[simp] def Res.bind {α β : Type} (r : Res α) (k : α → Mem → Res β) : Res β :=
  match r with
  | .ok a m => k a m
  | .exc c m => .exc c m
  | .bad => .bad
abbrev Er (α : Type) := Lc → Mem → Res α
abbrev E := Er Dv
abbrev T := Er Bool
abbrev A := Er (List Dv)
inductive Out where
  | nx (l : Lc) (m : Mem)
  | rt (d : Dv) (m : Mem)
  | bk (l : Lc) (m : Mem)
  | ct (l : Lc) (m : Mem)
  | exc (c : XC) (l : Lc) (m : Mem)
  | bad
abbrev S := Lc → Mem → Out

def RS (G : Cg) (D : Hp) (adr : List Addr) (l : Lc) (σ : L2.St) : Prop :=
  l.length = σ.length ∧ ∀ (i : Nat) (d : Dv), l[i]? = some (some d) → ∃ v, σ[i]? = some (some v) ∧ Rep G D adr v d
theorem RS.mono {G : Cg} {D D' : Hp} {adr adr' : List Addr} {l : Lc} {σ : L2.St} (e : Le D D') (f : Pf adr adr') (h : RS G D adr l σ) : RS G D' adr' l σ :=
  ⟨h.1, fun i d q => let ⟨v, a, b⟩ := h.2 i d q; ⟨v, a, b.mono e f⟩⟩
theorem RS.set {G : Cg} {D : Hp} {adr : List Addr} {l : Lc} {σ : L2.St} {i : Nat} {d : Dv} {v : V} (h : RS G D adr l σ) (r : Rep G D adr v d) : RS G D adr (l.set i (some d)) (σ.set i (some v)) := by
  refine ⟨by simp [h.1], fun j e q => ?_⟩
  by_cases hij : i = j
  · subst hij
    have hl : i < l.length := by
      have := (List.getElem?_eq_some_iff.mp q).1
      simpa using this
    rw [List.getElem?_set_self hl] at q
    cases q
    exact ⟨v, by rw [List.getElem?_set_self (by rw [← h.1]; exact hl)], r⟩
  · rw [List.getElem?_set_ne hij] at q
    obtain ⟨w, a, b⟩ := h.2 j e q
    exact ⟨w, by rw [List.getElem?_set_ne hij]; exact a, b⟩

abbrev Rel (α β : Type) := Hp → List Addr → β → α → Prop
abbrev relE (G : Cg) : Rel Dv V := fun D adr v d => Rep G D adr v d
abbrev relT : Rel Bool Bool := fun _ _ b c => b = c
abbrev relA (G : Cg) : Rel (List Dv) (List V) := fun D adr vs ds => Reps G D adr vs ds

/-- behind an expression -/
def Aft (G : Cg) (W : WX) (σ : L2.St) {α β : Type} (rel : Rel α β) (D : Hp) (adr : List Addr) (r : Res α) (Q : β → Hp → Prop) : Prop :=
  match r with
  | .ok d m' => ∀ v H' D' adr', Le D D' → Pf adr adr' → RM G D' adr' m' H' → rel D' adr' v d → Q v H'
  | .exc c m' => ∀ H' D' adr', Le D D' → Pf adr adr' → RM G D' adr' m' H' → W (.ref (G.xa c)) none σ H'
  | .bad => False
section
variable {G : Cg} {W : WX} {σ : L2.St} {α β γ δ : Type} {rel : Rel α β} {rel2 : Rel γ δ} {D D' : Hp} {adr adr' : List Addr} {r : Res α}
theorem Aft.mono {Q : β → Hp → Prop} (e : Le D D') (f : Pf adr adr') (h : Aft G W σ rel D adr r Q) : Aft G W σ rel D' adr' r Q := by
  cases r with
  | ok d m => exact fun v H' D2 a2 l p => h v H' D2 a2 (e.trans l) (f.trans p)
  | exc c m => exact fun H' D2 a2 l p => h H' D2 a2 (e.trans l) (f.trans p)
  | bad => exact h
theorem Aft.imp {Q Q' : β → Hp → Prop} (h : Aft G W σ rel D adr r Q) (q : ∀ v H, Q v H → Q' v H) : Aft G W σ rel D adr r Q' := by
  cases r with
  | ok d m => exact fun v H' D2 a2 l p rm re => q _ _ (h v H' D2 a2 l p rm re)
  | exc c m => exact h
  | bad => exact h
theorem Aft.bind {k : α → Mem → Res γ} {Q : δ → Hp → Prop} (h : Aft G W σ rel2 D adr (r.bind k) Q) :
    Aft G W σ rel D adr r (fun v H1 => ∃ D1 adr1 d m1, Le D D1 ∧ Pf adr adr1 ∧ RM G D1 adr1 m1 H1 ∧ rel D1 adr1 v d ∧ Aft G W σ rel2 D1 adr1 (k d m1) Q) := by
  cases r with
  | ok d m => exact fun v H1 D1 a1 l p rm re => ⟨D1, a1, d, m, l, p, rm, re, h.mono l p⟩
  | exc c m => exact h
  | bad => exact h
theorem Aft.ok {d : α} {m : Mem} {Q : β → Hp → Prop} {v : β} {H : Hp} (h : Aft G W σ rel D adr (.ok d m) Q) (rm : RM G D adr m H) (re : rel D adr v d) : Q v H :=
  h v H D adr (Le.refl _) (Pf.refl _) rm re
end

/-- a mirror's reading -/
def tX (G : Cg) (W : WX) {α β : Type} (rel : Rel α β) (e : Er α) : L2.St → Hp → (β → Hp → Prop) → Prop := fun σ H Q =>
  ∃ D adr l m, RM G D adr m H ∧ RS G D adr l σ ∧ Aft G W σ rel D adr (e l m) Q
abbrev tM (G : Cg) (W : WX) (e : E) : TE := tX G W (relE G) e
abbrev tMT (G : Cg) (W : WX) (e : T) : TT := tX G W relT e
abbrev tMA (G : Cg) (W : WX) (e : A) : TA := tX G W (relA G) e

/-- behind a statement -/
def AftS (G : Cg) (W : WX) (De : Ends) (D : Hp) (adr : List Addr) (r : Out) : Prop :=
  match r with
  | .nx l m => ∀ σ' H' D' adr', Le D D' → Pf adr adr' → RM G D' adr' m H' → RS G D' adr' l σ' → De.nx σ' H'
  | .bk l m => ∀ σ' H' D' adr', Le D D' → Pf adr adr' → RM G D' adr' m H' → RS G D' adr' l σ' → De.bk σ' H'
  | .ct l m => ∀ σ' H' D' adr', Le D D' → Pf adr adr' → RM G D' adr' m H' → RS G D' adr' l σ' → De.ct σ' H'
  | .rt d m => ∀ v H' D' adr', Le D D' → Pf adr adr' → RM G D' adr' m H' → Rep G D' adr' v d → De.rt v H'
  | .exc c l m => ∀ σ' H' D' adr', Le D D' → Pf adr adr' → RM G D' adr' m H' → RS G D' adr' l σ' → W (.ref (G.xa c)) none σ' H'
  | .bad => False
theorem AftS.mono {G : Cg} {W : WX} {De : Ends} {D D' : Hp} {adr adr' : List Addr} {r : Out} (e : Le D D') (f : Pf adr adr') (h : AftS G W De D adr r) : AftS G W De D' adr' r := by
  cases r with
  | nx l m => exact fun s H' D2 a2 x p => h s H' D2 a2 (e.trans x) (f.trans p)
  | bk l m => exact fun s H' D2 a2 x p => h s H' D2 a2 (e.trans x) (f.trans p)
  | ct l m => exact fun s H' D2 a2 x p => h s H' D2 a2 (e.trans x) (f.trans p)
  | rt d m => exact fun s H' D2 a2 x p => h s H' D2 a2 (e.trans x) (f.trans p)
  | exc c l m => exact fun s H' D2 a2 x p => h s H' D2 a2 (e.trans x) (f.trans p)
  | bad => exact h
def tS (G : Cg) (W : WX) (s : S) : TS := fun De σ H => ∃ D adr l m, RM G D adr m H ∧ RS G D adr l σ ∧ AftS G W De D adr (s l m)

theorem PE_imp {X : Cx} {e : Expr} {t t' : TE} (h : PE X e t) (i : ∀ σ H Q, t' σ H Q → t σ H Q) : PE X e t' := ⟨fun pins s σ H Q I q => h.run pins s σ H Q I (i σ H Q q)⟩
theorem PT_imp {X : Cx} {e : Expr} {t t' : TT} (h : PT X e t) (i : ∀ σ H Q, t' σ H Q → t σ H Q) : PT X e t' := ⟨fun pins s σ H Q I q => h.run pins s σ H Q I (i σ H Q q)⟩
theorem PW_imp {X : Cx} {e : Expr} {t t' : TT} (h : PW X e t) (i : ∀ σ H Q, t' σ H Q → t σ H Q) : PW X e t' := ⟨fun w pins s σ H Q I q => h.run w pins s σ H Q I (i σ H Q q)⟩
theorem PA_imp {X : Cx} {e : List Expr} {t t' : TA} (h : PA X e t) (i : ∀ σ H Q, t' σ H Q → t σ H Q) : PA X e t' := ⟨fun pos pins s σ H Q I q => h.run pos pins s σ H Q I (i σ H Q q)⟩
theorem PS_imp {X : Cx} {e : Stmt} {t t' : TS} (h : PS X e t) (i : ∀ D σ H, t' D σ H → t D σ H) : PS X e t' := ⟨fun pins s σ H D I q => h.run pins s σ H D I (i D σ H q)⟩
theorem PSs_imp {X : Cx} {e : List Stmt} {t t' : TS} (h : PSs X e t) (i : ∀ D σ H, t' D σ H → t D σ H) : PSs X e t' := ⟨fun pins s σ H D I q => h.run pins s σ H D I (i D σ H q)⟩

/-- what a body's rules lean on -/
structure Ct (G : Cg) (X : Cx) (W : WX) : Prop where
  hk : X.K = G.K
  calm : X.calm = true
  tk : L2N.Takes X W
  nd : X.N.Nodup
  hu : X.A.units + 64 < cLine

section
variable {G : Cg} {X : Cx} {W : WX} {α β : Type} {rel : Rel α β} {σ : L2.St} {H : Hp}
/-- one step: what e gives, and the rest -/
theorem step {γ δ : Type} {rel2 : Rel γ δ} {D : Hp} {adr : List Addr} {l : Lc} {m : Mem} {e : Er α} {k : α → Mem → Res γ} {Q : δ → Hp → Prop} (rm : RM G D adr m H) (rs : RS G D adr l σ) (h : Aft G W σ rel2 D adr ((e l m).bind k) Q)
    {R : β → Hp → Prop} (q : ∀ v H1 D1 adr1 d m1, Le D D1 → Pf adr adr1 → RM G D1 adr1 m1 H1 → RS G D1 adr1 l σ → rel D1 adr1 v d → Aft G W σ rel2 D1 adr1 (k d m1) Q → R v H1) : tX G W rel e σ H R :=
  ⟨D, adr, l, m, rm, rs, (h.bind (rel := rel)).imp fun v H1 ⟨D1, a1, d, m1, e1, f1, rm1, re1, h1⟩ => q v H1 D1 a1 d m1 e1 f1 rm1 (rs.mono e1 f1) re1 h1⟩
/-- a last step -/
theorem last {D : Hp} {adr : List Addr} {l : Lc} {m : Mem} {e : Er α} {Q : β → Hp → Prop} (rm : RM G D adr m H) (rs : RS G D adr l σ) (h : Aft G W σ rel D adr (e l m) Q) : tX G W rel e σ H Q := ⟨D, adr, l, m, rm, rs, h⟩

/-! ### names, constants -/
def eVar (i : Nat) : E := fun l m => match l[i]? with
  | some (some d) => .ok d m
  | _ => .bad
def eC (d : Dv) : E := fun _ m => .ok d m
theorem me_var {i : Nat} {x : Str} {pos : Pos} (h : PE X (.Name x pos) (tVar i)) : PE X (.Name x pos) (tM G W (eVar i)) := PE_imp h fun σ H Q ⟨D, adr, l, m, rm, rs, a⟩ => by
  unfold eVar at a
  cases e : l[i]? with
  | none => rw [e] at a; exact False.elim a
  | some o =>
    cases o with
    | none => rw [e] at a; exact False.elim a
    | some d =>
      rw [e] at a
      obtain ⟨v, h1, h2⟩ := rs.2 i d e
      exact ⟨v, h1, a.ok rm h2⟩
theorem me_c {e : Expr} {v : V} {d : Dv} (h : PE X e (tC v)) (r : ∀ K D adr, Rep K D adr v d) : PE X e (tM G W (eC d)) := PE_imp h fun σ H Q ⟨D, adr, l, m, rm, rs, a⟩ => a.ok rm (r _ _ _)
theorem me_int {i : Int} {j pos} : PE X (.Constant (.int i) j pos) (tM G W (eC (.int i))) := me_c pe_int fun _ _ _ => .int i
theorem me_str {i : Str} {j pos} : PE X (.Constant (.str i) j pos) (tM G W (eC (.str i))) := me_c pe_str fun _ _ _ => .str i
theorem me_bl {i : Bool} {j pos} : PE X (.Constant (.bool i) j pos) (tM G W (eC (.bl i))) := me_c pe_bl fun _ _ _ => .bl i
theorem me_non {j pos} : PE X (.Constant .none j pos) (tM G W (eC .non)) := me_c pe_non fun _ _ _ => .non

/-! ### operators by values -/
def OpS (G : Cg) (r : R2) (f : Dv → Dv → Mem → Res Dv) : Prop := ∀ (D : Hp) (adr : List Addr) (m : Mem) (H : Hp) (x y : V) (dx dy : Dv), RM G D adr m H → Rep G D adr x dx → Rep G D adr y dy →
  ∀ (σ : L2.St) (W : WX) (Q : VK), Aft G W σ (relE G) D adr (f dx dy m) Q → r x y H Q
def eBin (f : Dv → Dv → Mem → Res Dv) (a b : E) : E := fun l m => (a l m).bind fun x m1 => (b l m1).bind fun y m2 => f x y m2
theorem bin_imp {r : R2} {f : Dv → Dv → Mem → Res Dv} {ma mb : E} (s : OpS G r f) (σ : L2.St) (H : Hp) (Q : VK) : tM G W (eBin f ma mb) σ H Q → tOp r (tM G W ma) (tM G W mb) σ H Q := fun ⟨D, adr, l, m, rm, rs, a⟩ =>
  step rm rs a fun x H1 D1 a1 dx m1 e1 f1 rm1 rs1 rx b => step rm1 rs1 b fun y H2 D2 a2 dy m2 e2 f2 rm2 rs2 ry c =>
    s D2 a2 m2 H2 x y dx dy rm2 (rx.mono e2 f2) ry σ W Q c
theorem me_bin {op : Operator} {r : R2} {f : Dv → Dv → Mem → Res Dv} {a b : Expr} {ma mb : E} {pos : Pos} (s : OpS G r f) (ho : OpR X (binaryOp op) r) (ha : PE X a (tM G W ma)) (hb : PE X b (tM G W mb)) : PE X (.BinOp a op b pos) (tM G W (eBin f ma mb)) :=
  PE_imp (pe_op ho ha hb) (bin_imp s)
theorem me_cmp {op : CmpOp} {r : R2} {f : Dv → Dv → Mem → Res Dv} {a b : Expr} {ma mb : E} {pos : Pos} (s : OpS G r f) (ho : OpR X (compareOp op) r) (ha : PE X a (tM G W ma)) (hb : PE X b (tM G W mb)) (hm : behindInMarks op b = false) : PE X (.Compare a [op] [b] pos) (tM G W (eBin f ma mb)) :=
  PE_imp (pe_cmpR ho ha hb hm) (bin_imp s)
def asB : Dv → Mem → Res Bool := fun d m => match d with
  | .bl b => .ok b m
  | _ => .bad
def tV (e : E) : T := fun l m => (e l m).bind asB
theorem asB_rel {D : Hp} {adr : List Addr} {H : Hp} {v : V} {d : Dv} {m : Mem} {Q : Bool → Hp → Prop} (rm : RM G D adr m H) (r : Rep G D adr v d) (a : Aft G W σ relT D adr (asB d m) Q) : ∃ b, v = .bl b ∧ Q b H := by
  unfold asB at a
  cases d with
  | bl b => exact ⟨b, r.bl_inv, a.ok rm rfl⟩
  | _ => exact False.elim a
theorem mt_cmp {op : CmpOp} {r : R2} {f : Dv → Dv → Mem → Res Dv} {a b : Expr} {ma mb : E} {pos : Pos} (s : OpS G r f) (ho : OpR X (compareOp op) r) (ha : PE X a (tM G W ma)) (hb : PE X b (tM G W mb)) (hm : behindInMarks op b = false) : PT X (.Compare a [op] [b] pos) (tMT G W (tV (eBin f ma mb))) :=
  PT_imp (pt_cmpR ho ha hb hm) fun σ H Q ⟨D, adr, l, m, rm, rs, a⟩ => bin_imp s σ H _ (step rm rs a fun v H1 D1 a1 d m1 e1 f1 rm1 rs1 re b => asB_rel rm1 re b)
/-- an expression whose value is True or False, as a test -/
theorem mt_val {e : Expr} {me : E} (h : PE X e (tM G W me)) (he : ∀ whole, isTrue e X.env whole = (do let v ← whole; standAt e.pos; holding [v] (truthy v)) := by intro _; rfl) : PT X e (tMT G W (tV me)) :=
  PT_imp (pt_val h he) fun σ H Q ⟨D, adr, l, m, rm, rs, a⟩ => step rm rs a fun v H1 D1 a1 d m1 e1 f1 rm1 rs1 re b => asB_rel rm1 re b
def eUn (f : Dv → Mem → Res Dv) (a : E) : E := fun l m => (a l m).bind f
def UnS (G : Cg) (r : V → Hp → VK → Prop) (f : Dv → Mem → Res Dv) : Prop := ∀ (D : Hp) (adr : List Addr) (m : Mem) (H : Hp) (x : V) (dx : Dv), RM G D adr m H → Rep G D adr x dx →
  ∀ (σ : L2.St) (W : WX) (Q : VK), Aft G W σ (relE G) D adr (f dx m) Q → r x H Q
theorem me_un {op : UnaryOp} {r : V → Hp → VK → Prop} {f : Dv → Mem → Res Dv} {a : Expr} {ma : E} {pos : Pos} (s : UnS G r f) (ho : UnR X (unaryOp op) r) (ha : PE X a (tM G W ma)) : PE X (.UnaryOp op a pos) (tM G W (eUn f ma)) :=
  PE_imp (pe_un ho ha) fun σ H Q ⟨D, adr, l, m, rm, rs, a⟩ => step rm rs a fun x H1 D1 a1 dx m1 e1 f1 rm1 rs1 rx b => s D1 a1 m1 H1 x dx rm1 rx σ W Q b

/-! ### and, or, not -/
def tAndM (a b : T) : T := fun l m => (a l m).bind fun x m1 => if x then b l m1 else .ok false m1
def tOrM (a b : T) : T := fun l m => (a l m).bind fun x m1 => if x then .ok true m1 else b l m1
def tNotM (a : T) : T := fun l m => (a l m).bind fun x m1 => .ok (!x) m1
theorem mw_and1 {a : Expr} {ma : T} {pos : Pos} (h : PT X a (tMT G W ma)) : PW X (.BoolOp .And [a] pos) (tMT G W ma) := pw_and1 h
theorem mw_or1 {a : Expr} {ma : T} {pos : Pos} (h : PT X a (tMT G W ma)) : PW X (.BoolOp .Or [a] pos) (tMT G W ma) := pw_or1 h
theorem mw_and {a b : Expr} {rest : List Expr} {ma mb : T} {pos : Pos} (ha : PT X a (tMT G W ma)) (hb : PW X (.BoolOp .And (b :: rest) pos) (tMT G W mb)) : PW X (.BoolOp .And (a :: b :: rest) pos) (tMT G W (tAndM ma mb)) :=
  PW_imp (pw_and ha hb) fun σ H Q ⟨D, adr, l, m, rm, rs, a⟩ => step rm rs a fun x H1 D1 a1 dx m1 e1 f1 rm1 rs1 rx b => by
    subst rx
    cases x with
    | true => exact last rm1 rs1 b
    | false => exact b.ok rm1 rfl
theorem mw_or {a b : Expr} {rest : List Expr} {ma mb : T} {pos : Pos} (ha : PT X a (tMT G W ma)) (hb : PW X (.BoolOp .Or (b :: rest) pos) (tMT G W mb)) : PW X (.BoolOp .Or (a :: b :: rest) pos) (tMT G W (tOrM ma mb)) :=
  PW_imp (pw_or ha hb) fun σ H Q ⟨D, adr, l, m, rm, rs, a⟩ => step rm rs a fun x H1 D1 a1 dx m1 e1 f1 rm1 rs1 rx b => by
    subst rx
    cases x with
    | true => exact b.ok rm1 rfl
    | false => exact last rm1 rs1 b
theorem mt_not {a : Expr} {ma : T} {pos : Pos} (ha : PT X a (tMT G W ma)) : PT X (.UnaryOp .Not a pos) (tMT G W (tNotM ma)) :=
  PT_imp (pt_not ha) fun σ H Q ⟨D, adr, l, m, rm, rs, a⟩ => step rm rs a fun x H1 D1 a1 dx m1 e1 f1 rm1 rs1 rx b => by
    subst rx
    exact b.ok rm1 rfl
/-- as values -/
def eAnd (a b : E) : E := fun l m => (a l m).bind fun x m1 => match x with
  | .bl c => if c then b l m1 else .ok (.bl false) m1
  | _ => .bad
def eOr (a b : E) : E := fun l m => (a l m).bind fun x m1 => match x with
  | .bl c => if c then .ok (.bl true) m1 else b l m1
  | _ => .bad
def eNot (a : E) : E := fun l m => (a l m).bind fun x m1 => match x with
  | .bl c => .ok (.bl (!c)) m1
  | _ => .bad
theorem me_one {a : Expr} {ma : E} {op} {pos : Pos} (h : PE X a (tM G W ma)) : PE X (.BoolOp op [a] pos) (tM G W ma) := pe_one h
theorem me_and {a b : Expr} {rest : List Expr} {ma mb : E} {pos : Pos} (ha : PE X a (tM G W ma)) (hb : PE X (.BoolOp .And (b :: rest) pos) (tM G W mb)) : PE X (.BoolOp .And (a :: b :: rest) pos) (tM G W (eAnd ma mb)) :=
  PE_imp (pe_and ha hb) fun σ H Q ⟨D, adr, l, m, rm, rs, a⟩ => step rm rs a fun x H1 D1 a1 dx m1 e1 f1 rm1 rs1 rx b => by
    cases dx with
    | bl c =>
      refine ⟨c, rx.bl_inv, ?_⟩
      cases c with
      | true => exact last rm1 rs1 b
      | false => exact b.ok rm1 (.bl false)
    | _ => exact False.elim b
theorem me_or {a b : Expr} {rest : List Expr} {ma mb : E} {pos : Pos} (ha : PE X a (tM G W ma)) (hb : PE X (.BoolOp .Or (b :: rest) pos) (tM G W mb)) : PE X (.BoolOp .Or (a :: b :: rest) pos) (tM G W (eOr ma mb)) :=
  PE_imp (pe_or ha hb) fun σ H Q ⟨D, adr, l, m, rm, rs, a⟩ => step rm rs a fun x H1 D1 a1 dx m1 e1 f1 rm1 rs1 rx b => by
    cases dx with
    | bl c =>
      refine ⟨c, rx.bl_inv, ?_⟩
      cases c with
      | true => exact b.ok rm1 (.bl true)
      | false => exact last rm1 rs1 b
    | _ => exact False.elim b
theorem me_not {a : Expr} {ma : E} {pos : Pos} (ha : PE X a (tM G W ma)) : PE X (.UnaryOp .Not a pos) (tM G W (eNot ma)) :=
  PE_imp (pe_not ha) fun σ H Q ⟨D, adr, l, m, rm, rs, a⟩ => step rm rs a fun x H1 D1 a1 dx m1 e1 f1 rm1 rs1 rx b => by
    cases dx with
    | bl c => exact ⟨c, rx.bl_inv, b.ok rm1 (.bl _)⟩
    | _ => exact False.elim b

/-! ### arguments, displays -/
def aNil : A := fun _ m => .ok [] m
def aCons (e : E) (r : A) : A := fun l m => (e l m).bind fun x m1 => (r l m1).bind fun xs m2 => .ok (x :: xs) m2
theorem ma_nil : PA X [] (tMA G W aNil) := PA_imp pa_nil fun σ H Q ⟨D, adr, l, m, rm, rs, a⟩ => a.ok rm .nil
theorem ma_cons {e : Expr} {es : List Expr} {me : E} {mr : A} (he : PE X e (tM G W me)) (hr : PA X es (tMA G W mr)) (hs : starEach (e :: es) X.env = (false, eval e X.env) :: starEach es X.env := by rfl) : PA X (e :: es) (tMA G W (aCons me mr)) :=
  PA_imp (pa_cons he hr hs) fun σ H Q ⟨D, adr, l, m, rm, rs, a⟩ => step rm rs a fun x H1 D1 a1 dx m1 e1 f1 rm1 rs1 rx b =>
    step rm1 rs1 b fun xs H2 D2 a2 ds m2 e2 f2 rm2 rs2 rxs c => c.ok rm2 (.cons (rx.mono e2 f2) rxs)
def big : Nat := 16777216
theorem big_eq : big = sizeLine := by decide +kernel
/-- a new tuple, a new list that is data, a new list with a place -/
def mkTup (ds : List Dv) (m : Mem) : Res Dv := if ds.length ≤ big then .ok (.tup ds) m else .bad
def mkLst (ds : List Dv) (m : Mem) : Res Dv := if ds.length ≤ big then .ok (.lst ds) m else .bad
def newLst (ds : List Dv) (m : Mem) : Res Dv := if ds.length ≤ big then .ok (.loc m.length) (m ++ [.lst ds]) else .bad
theorem mkTup_ok {D : Hp} {adr : List Addr} {H : Hp} {m : Mem} {vs : List V} {ds : List Dv} {Q : VK} (rm : RM G D adr m H) (r : Reps G D adr vs ds) (a : Aft G W σ (relE G) D adr (mkTup ds m) Q) :
    vs.length ≤ sizeLine ∧ ∀ p, H p = none → Q (.ref p) (upd H p (.tup vs)) := by
  unfold mkTup at a
  split at a
  · rename_i h
    refine ⟨by rw [r.length, ← big_eq]; exact h, fun p hp => ?_⟩
    have hd := rm.dfree hp
    have hl : Le D (upd D p (.tup vs)) := Le.new hd
    exact a _ _ (upd D p (.tup vs)) adr hl (Pf.refl _) (rm.newD hp) (.tup upd_same (Reps.mono hl (Pf.refl _) _ _ r))
  · exact False.elim a
theorem mkLst_ok {D : Hp} {adr : List Addr} {H : Hp} {m : Mem} {vs : List V} {ds : List Dv} {Q : VK} (rm : RM G D adr m H) (r : Reps G D adr vs ds) (a : Aft G W σ (relE G) D adr (mkLst ds m) Q) :
    vs.length ≤ sizeLine ∧ ∀ p, H p = none → Q (.ref p) (upd H p (.lst vs)) := by
  unfold mkLst at a
  split at a
  · rename_i h
    refine ⟨by rw [r.length, ← big_eq]; exact h, fun p hp => ?_⟩
    have hd := rm.dfree hp
    have hl : Le D (upd D p (.lst vs)) := Le.new hd
    exact a _ _ (upd D p (.lst vs)) adr hl (Pf.refl _) (rm.newD hp) (.lst upd_same (Reps.mono hl (Pf.refl _) _ _ r))
  · exact False.elim a
theorem newLst_ok {D : Hp} {adr : List Addr} {H : Hp} {m : Mem} {vs : List V} {ds : List Dv} {Q : VK} (rm : RM G D adr m H) (r : Reps G D adr vs ds) (a : Aft G W σ (relE G) D adr (newLst ds m) Q) :
    vs.length ≤ sizeLine ∧ ∀ p, H p = none → Q (.ref p) (upd H p (.lst vs)) := by
  unfold newLst at a
  split at a
  · rename_i h
    refine ⟨by rw [r.length, ← big_eq]; exact h, fun p hp => ?_⟩
    exact a _ _ D (adr ++ [p]) (Le.refl D) Pf.snoc (rm.newM hp ⟨vs, upd_same, Reps.mono (Le.refl D) Pf.snoc _ _ r⟩) (.loc (by rw [← rm.len]; simp))
  · exact False.elim a
def eMk (k : List Dv → Mem → Res Dv) (es : A) : E := fun l m => (es l m).bind k
theorem me_tup {es : List Expr} {ms : A} {x1} {pos : Pos} (h : PA X es (tMA G W ms)) : PE X (.Tuple es x1 pos) (tM G W (eMk mkTup ms)) :=
  PE_imp (pe_tup h) fun σ H Q ⟨D, adr, l, m, rm, rs, a⟩ => step rm rs a fun vs H1 D1 a1 ds m1 e1 f1 rm1 rs1 r b => mkTup_ok rm1 r b
theorem me_lst {es : List Expr} {ms : A} {pos : Pos} (h : PA X es (tMA G W ms)) : PE X (.List es pos) (tM G W (eMk mkLst ms)) :=
  PE_imp (pe_lst h) fun σ H Q ⟨D, adr, l, m, rm, rs, a⟩ => step rm rs a fun vs H1 D1 a1 ds m1 e1 f1 rm1 rs1 r b => mkLst_ok rm1 r b
theorem me_lstN {es : List Expr} {ms : A} {pos : Pos} (h : PA X es (tMA G W ms)) : PE X (.List es pos) (tM G W (eMk newLst ms)) :=
  PE_imp (pe_lst h) fun σ H Q ⟨D, adr, l, m, rm, rs, a⟩ => step rm rs a fun vs H1 D1 a1 ds m1 e1 f1 rm1 rs1 r b => newLst_ok rm1 r b
/-- an if-else expression -/
def eIf (t : T) (a b : E) : E := fun l m => (t l m).bind fun x m1 => if x then a l m1 else b l m1

/-! ### blocks and small statements -/
def sNil : S := fun l m => .nx l m
def sSeq (a b : S) : S := fun l m => match a l m with
  | .nx l1 m1 => b l1 m1
  | .rt d m1 => .rt d m1
  | .bk l1 m1 => .bk l1 m1
  | .ct l1 m1 => .ct l1 m1
  | .exc c l1 m1 => .exc c l1 m1
  | .bad => .bad
theorem mss_nil : PSs X [] (tS G W sNil) := PSs_imp pss_nil fun De σ H ⟨D, adr, l, m, rm, rs, a⟩ => a σ H D adr (Le.refl _) (Pf.refl _) rm rs
theorem mss_cons {st : Stmt} {rest : List Stmt} {a b : S} (ha : PS X st (tS G W a)) (hb : PSs X rest (tS G W b)) : PSs X (st :: rest) (tS G W (sSeq a b)) :=
  PSs_imp (pss_cons ha hb) fun De σ H ⟨D, adr, l, m, rm, rs, h⟩ => by
    refine ⟨D, adr, l, m, rm, rs, ?_⟩
    unfold sSeq at h
    cases e : a l m with
    | nx l1 m1 =>
      rw [e] at h
      exact fun σ' H' D' a' x p rm' rs' => ⟨D', a', l1, m1, rm', rs', h.mono x p⟩
    | rt d m1 => rw [e] at h; exact h
    | bk l1 m1 => rw [e] at h; exact h
    | ct l1 m1 => rw [e] at h; exact h
    | exc c l1 m1 => rw [e] at h; exact h
    | bad => rw [e] at h; exact h
theorem mss_one {st : Stmt} {a : S} (ha : PS X st (tS G W a)) : PSs X [st] (tS G W a) := pss_one ha
/-- a statement over an expression's result -/
@[simp] def Res.out {α : Type} (r : Res α) (l : Lc) (k : α → Mem → Out) : Out := match r with
  | .ok d m => k d m
  | .exc c m => .exc c l m
  | .bad => .bad
theorem stepS {De : Ends} {D : Hp} {adr : List Addr} {l : Lc} {m : Mem} {e : Er α} {k : α → Mem → Out} (rm : RM G D adr m H) (rs : RS G D adr l σ) (h : AftS G W De D adr ((e l m).out l k))
    {R : β → Hp → Prop} (q : ∀ v H1 D1 adr1 d m1, Le D D1 → Pf adr adr1 → RM G D1 adr1 m1 H1 → RS G D1 adr1 l σ → rel D1 adr1 v d → AftS G W De D1 adr1 (k d m1) → R v H1) : tX G W rel e σ H R := by
  refine ⟨D, adr, l, m, rm, rs, ?_⟩
  cases x : e l m with
  | ok d m1 => rw [x] at h; exact fun v H' D' a' e1 f1 rm' re => q v H' D' a' d m1 e1 f1 rm' (rs.mono e1 f1) re (h.mono e1 f1)
  | exc c m1 => rw [x] at h; exact fun H' D' a' e1 f1 rm' => h σ H' D' a' e1 f1 rm' (rs.mono e1 f1)
  | bad => rw [x] at h; exact h
def sSet (i : Nat) (e : E) : S := fun l m => (e l m).out l fun d m1 => .nx (l.set i (some d)) m1
theorem ms_set {i : Nat} {x : Str} {e : Expr} {me : E} {pos pos' : Pos} (h : PS X (.Assign [.Name x pos'] e pos) (tAsg (tM G W me) (gName i))) : PS X (.Assign [.Name x pos'] e pos) (tS G W (sSet i me)) :=
  PS_imp h fun De σ H ⟨D, adr, l, m, rm, rs, a⟩ => stepS rm rs a fun v H1 D1 a1 d m1 e1 f1 rm1 rs1 re b => b _ _ _ _ (Le.refl _) (Pf.refl _) rm1 (rs1.set re)
def sExpr (e : E) : S := fun l m => (e l m).out l fun _ m1 => .nx l m1
theorem ms_expr {e : Expr} {me : E} {pos : Pos} (h : PE X e (tM G W me)) (hs : swapsWith e none pos.line X.env = pure false := by rfl) : PS X (.Expr e pos) (tS G W (sExpr me)) :=
  PS_imp (ps_expr h hs) fun De σ H ⟨D, adr, l, m, rm, rs, a⟩ => stepS rm rs a fun v H1 D1 a1 d m1 e1 f1 rm1 rs1 re b => b _ _ _ _ (Le.refl _) (Pf.refl _) rm1 rs1
def sRet (e : E) : S := fun l m => (e l m).out l fun d m1 => .rt d m1
theorem ms_ret {e : Expr} {me : E} {pos : Pos} (h : PE X e (tM G W me)) : PS X (.Return (some e) pos) (tS G W (sRet me)) :=
  PS_imp (ps_ret h) fun De σ H ⟨D, adr, l, m, rm, rs, a⟩ => stepS rm rs a fun v H1 D1 a1 d m1 e1 f1 rm1 rs1 re b => b _ _ _ _ (Le.refl _) (Pf.refl _) rm1 re
theorem ms_pass {pos : Pos} : PS X (.Pass pos) (tS G W sNil) := PS_imp ps_pass fun De σ H ⟨D, adr, l, m, rm, rs, a⟩ => a σ H D adr (Le.refl _) (Pf.refl _) rm rs
def sIf (t : T) (a b : S) : S := fun l m => (t l m).out l fun x m1 => if x then a l m1 else b l m1
theorem ms_if {c : Expr} {a b : List Stmt} {mc : T} {ma mb : S} {pos : Pos} (hc : PT X c (tMT G W mc)) (ha : PSs X a (tS G W ma)) (hb : PSs X b (tS G W mb)) : PS X (.If c a b pos) (tS G W (sIf mc ma mb)) :=
  PS_imp (ps_if hc ha hb) fun De σ H ⟨D, adr, l, m, rm, rs, a⟩ => stepS rm rs a fun v H1 D1 a1 d m1 e1 f1 rm1 rs1 re b => by
    subst re
    cases v with
    | true => exact ⟨D1, a1, l, m1, rm1, rs1, b⟩
    | false => exact ⟨D1, a1, l, m1, rm1, rs1, b⟩
end
end Sn
/-! Sn3 -/
set_option Elab.async false
set_option linter.all false
set_option maxRecDepth 100000
set_option autoImplicit false
set_option maxHeartbeats 1000000
/-! Sn3: operators, items, slices, kinds, lengths -/
namespace Sn
open PySem PySem.Spec PyProof.Rows L2

/-- an exact list; a list that is read; a tuple -/
def lx (m : Mem) : Dv → Option (List Dv)
  | .lst ds => some ds
  | .loc n => match m[n]? with
    | some (.lst ds) => some ds
    | _ => none
  | _ => none
def sq (m : Mem) : Dv → Option (List Dv)
  | .scr ns => some (ns.map Dv.int)
  | d => lx m d
def tq : Dv → Option (List Dv)
  | .tup ds => some ds
  | _ => none
section
variable {G : Cg} {X : Cx} {W : WX} {D : Hp} {adr : List Addr} {m : Mem} {H : Hp} {v : V} {d : Dv} {ds : List Dv} {σ : L2.St}
theorem RM.lx (rm : RM G D adr m H) (r : Rep G D adr v d) (e : lx m d = some ds) : ∃ p vs, v = .ref p ∧ H p = some (.lst vs) ∧ Reps G D adr vs ds := by
  unfold Sn.lx at e
  split at e
  · cases e
    cases r with
    | lst q s => exact ⟨_, _, rfl, rm.le.lst q, s⟩
  · rename_i n
    split at e
    · rename_i ds' h
      cases e
      obtain ⟨a, rfl, h1, vs, h2, h3⟩ := rm.of_loc r h
      exact ⟨a, vs, rfl, h2, h3⟩
    · cases e
  · cases e
theorem reps_ints (K : Cg) (D : Hp) (adr : List Addr) : ∀ ns : List Int, Reps K D adr (ns.map V.int) (ns.map Dv.int)
  | [] => .nil
  | n :: r => .cons (.int n) (reps_ints K D adr r)
theorem RM.sq (rm : RM G D adr m H) (r : Rep G D adr v d) (e : sq m d = some ds) : ∃ p vs, v = .ref p ∧ SqL G.K H p vs ∧ Reps G D adr vs ds := by
  unfold Sn.sq at e
  split at e
  · cases e
    cases r with
    | scr q => exact ⟨_, _, rfl, rm.le.sqL q, reps_ints _ _ _ _⟩
  · obtain ⟨p, vs, h1, h2, h3⟩ := rm.lx r e
    exact ⟨p, vs, h1, SqL.of h2, h3⟩
theorem RM.tq (rm : RM G D adr m H) (r : Rep G D adr v d) (e : tq d = some ds) : ∃ p vs, v = .ref p ∧ H p = some (.tup vs) ∧ Reps G D adr vs ds := by
  unfold Sn.tq at e
  split at e
  · cases e
    cases r with
    | tup q s => exact ⟨_, _, rfl, rm.le.tup q, s⟩
  · cases e

/-! ### + - * // % ** -/
def rAddS : R2 := fun x y H Q => ∃ i j, x = .str i ∧ y = .str j ∧ i.length + j.length ≤ sizeLine ∧ Q (.str (i ++ j)) H
def rAddX (K : PySem.W.Frag) : R2 := fun x y H Q => rI0 (fun i j => .int (i + j)) x y H Q ∨ rAddS x y H Q ∨ rCat x y H Q ∨ rCatT K x y H Q
theorem op_addX : OpR X (binaryOp .Add) (rAddX X.K) := op_add.or (OpR.or op_add_str (op_cat.or op_catT))
def addD (x y : Dv) (m : Mem) : Res Dv :=
  match x, y with
  | .int i, .int j => .ok (.int (i + j)) m
  | .str i, .str j => if i.length + j.length ≤ big then .ok (.str (i ++ j)) m else .bad
  | .tup xs, .tup ys => if xs.length + ys.length ≤ big ∧ xs ≠ [] then .ok (.tup (xs ++ ys)) m else .bad
  | x, y => match lx m x, lx m y with
    | some xs, some ys => mkLst (xs ++ ys) m
    | _, _ => .bad
theorem addD_lst {x y : V} {dx dy : Dv} {xs ys : List Dv} {Q : VK} (rm : RM G D adr m H) (rx : Rep G D adr x dx) (ry : Rep G D adr y dy) (hx : lx m dx = some xs) (hy : lx m dy = some ys) (a : Aft G W σ (relE G) D adr (mkLst (xs ++ ys) m) Q) : rCat x y H Q := by
  obtain ⟨p, vs, rfl, h1, h2⟩ := rm.lx rx hx
  obtain ⟨q, ws, rfl, h3, h4⟩ := rm.lx ry hy
  obtain ⟨z, k⟩ := mkLst_ok rm (h2.append h4) a
  exact ⟨p, q, vs, ws, rfl, rfl, h1, h3, by rw [List.length_append] at z; exact z, k⟩
theorem addD_s : OpS G (rAddX G.K) addD := fun D adr m H x y dx dy rm rx ry σ W Q a => by
  unfold addD at a
  split at a
  · exact .inl ⟨_, _, rx.int_inv, ry.int_inv, a.ok rm (.int _)⟩
  · split at a
    · rename_i h
      exact .inr (.inl ⟨_, _, rx.str_inv, ry.str_inv, by rw [← big_eq]; exact h, a.ok rm (.str _)⟩)
    · exact a.elim
  · split at a
    · rename_i h
      cases rx with
      | @tup p vs _ q s =>
        cases ry with
        | @tup p' ws _ q' s' =>
          refine .inr (.inr (.inr ⟨_, _, vs, ws, rfl, rfl, SqT.of (rm.le.tup q), SqT.of (rm.le.tup q'), fun z => h.2 ?_, by rw [s.length, s'.length, ← big_eq]; exact h.1, fun z => ?_, fun z t ht => ?_⟩))
          · subst z
            have := s.length
            exact List.eq_nil_of_length_eq_zero (by simpa using this.symm)
          · subst z
            cases s'
            simp only [List.append_nil] at a
            exact a.ok rm (.tup q s)
          · have hl : Le D (upd D t (.tup (vs ++ ws))) := Le.new (rm.dfree ht)
            exact a _ _ _ adr hl (Pf.refl _) (rm.newD ht) (.tup upd_same (Reps.mono hl (Pf.refl _) _ _ (s.append s')))
    · exact a.elim
  · split at a
    · rename_i xs ys hx hy
      exact .inr (.inr (.inl (addD_lst rm rx ry hx hy a)))
    · exact a.elim
def intOp (f : Int → Int → Option Dv) (x y : Dv) (m : Mem) : Res Dv := match x, y with
  | .int i, .int j => match f i j with
    | some d => .ok d m
    | none => .bad
  | _, _ => .bad
theorem intOp_s {C : Int → Int → Prop} {g : Int → Int → V} {f : Int → Int → Option Dv} (h : ∀ i j d, f i j = some d → C i j ∧ ∀ D adr, Rep G D adr (g i j) d) : OpS G (rI C g) (intOp f) := fun D adr m H x y dx dy rm rx ry σ W Q a => by
  unfold intOp at a
  split at a
  · rename_i i j
    split at a
    · rename_i d e
      obtain ⟨h1, h2⟩ := h _ _ _ e
      exact ⟨i, j, rx.int_inv, ry.int_inv, h1, a.ok rm (h2 _ _)⟩
    · exact a.elim
  · exact a.elim
theorem intOp0_s {g : Int → Int → V} {f : Int → Int → Option Dv} (h : ∀ i j d, f i j = some d → ∀ D adr, Rep G D adr (g i j) d) : OpS G (rI0 g) (intOp f) := fun D adr m H x y dx dy rm rx ry σ W Q a => by
  obtain ⟨i, j, h1, h2, _, q⟩ := intOp_s (C := fun _ _ => True) (fun i j d e => ⟨trivial, h i j d e⟩) D adr m H x y dx dy rm rx ry σ W Q a
  exact ⟨i, j, h1, h2, q⟩
def subD : Dv → Dv → Mem → Res Dv := intOp fun i j => some (.int (i - j))
theorem subD_s : OpS G (rI0 fun i j => .int (i - j)) subD := intOp0_s fun i j d e D adr => by cases e; exact .int _
def fdivD : Dv → Dv → Mem → Res Dv := intOp fun i j => if 0 < j ∧ j < 1073741824 then some (.int (i / j)) else none
theorem fdivD_s : OpS G (rI CDiv fun i j => .int (i / j)) fdivD := intOp_s fun i j d e => by
  split at e
  · rename_i h; cases e; exact ⟨h, fun _ _ => .int _⟩
  · cases e
def modD : Dv → Dv → Mem → Res Dv := intOp fun i j => if 0 < j then some (.int (i % j)) else none
theorem modD_s : OpS G (rI (fun _ j => 0 < j) fun i j => .int (i % j)) modD := intOp_s fun i j d e => by
  split at e
  · rename_i h; cases e; exact ⟨h, fun _ _ => .int _⟩
  · cases e
def powD : Dv → Dv → Mem → Res Dv := intOp fun i j => if 0 ≤ j ∧ j ≤ 1000000 ∧ i.natAbs < 2 ^ 64 then some (.int (i ^ j.toNat)) else none
theorem powD_s : OpS G (rI CPow fun i j => .int (i ^ j.toNat)) powD := intOp_s fun i j d e => by
  split at e
  · rename_i h; cases e; exact ⟨h, fun _ _ => .int _⟩
  · cases e
def negD : Dv → Mem → Res Dv := fun x m => match x with
  | .int i => .ok (.int (-i)) m
  | _ => .bad
theorem negD_s : UnS G (rU fun i => .int (-i)) negD := fun D adr m H x dx rm rx σ W Q a => by
  unfold negD at a
  split at a
  · exact ⟨_, rx.int_inv, a.ok rm (.int _)⟩
  · exact a.elim
/-- a text times a number -/
def rRepS : R2 := fun x y H Q => ∃ z k, x = .str z ∧ y = .int k ∧ 0 ≤ k ∧ k ≤ 1000 ∧ z.length ≤ 1000 ∧ Q (.str (Txt.mul z k)) H
theorem mulOk_small {z : Str} {k : Int} (h0 : 0 ≤ k) (h1 : k ≤ 1000) (h2 : z.length ≤ 1000) : MulOk z k := by
  refine ⟨?_, fun hk _ => ?_, fun hk _ => ?_⟩
  · rw [decide_eq_false (by omega), decide_eq_false (by omega)] <;> rfl
  · have h3 : ((2 ^ 63 - 1 : Int) / 1000) ≤ (2 ^ 63 - 1) / k := Int.le_ediv_of_mul_le (by omega) (by
      have : (2 ^ 63 - 1 : Int) / 1000 * k ≤ (2 ^ 63 - 1 : Int) / 1000 * 1000 := Int.mul_le_mul_of_nonneg_left h1 (by decide)
      omega)
    have h4 : (1000 : Int) ≤ (2 ^ 63 - 1) / 1000 := by decide
    omega
  · unfold Builtin.Str.tooLong
    have : z.length * k.toNat ≤ 1000 * 1000 := Nat.mul_le_mul h2 (by omega)
    rw [sizeLine_eq]
    exact decide_eq_false (by omega)
theorem op_repS : OpR X (binaryOp .Mult) rRepS := by
  intro pins s σ H x y v u Q I rx ry h
  obtain ⟨z, k, rfl, rfl, h0, h1, h2, q⟩ := h
  obtain ⟨t, rfl⟩ := rx
  obtain ⟨t', rfl⟩ := ry
  exact SB.mul (mulOk_small h0 h1 h2) fun t2 k2 => ⟨.str _, H, I.tok _, ⟨_, rfl⟩, q⟩
def rMulX : R2 := fun x y H Q => rI CMul (fun i j => .int (i * j)) x y H Q ∨ rRepS x y H Q ∨ rRep x y H Q
theorem op_mulX' : OpR X (binaryOp .Mult) rMulX := op_mul.or (op_repS.or op_rep)
def mulD (x y : Dv) (m : Mem) : Res Dv := match x, y with
  | .int i, .int j => if (-(2 ^ 64) < i ∧ i < 2 ^ 64) ∨ (-(2 ^ 64) < j ∧ j < 2 ^ 64) then .ok (.int (i * j)) m else .bad
  | .str z, .int k => if 0 ≤ k ∧ k ≤ 1000 ∧ z.length ≤ 1000 then .ok (.str (Txt.mul z k)) m else .bad
  | x, .int k => match lx m x with
    | some xs => if 0 ≤ k ∧ k ≤ 1000 ∧ xs.length ≤ 1000 then .ok (.lst (List.replicate k.toNat xs).flatten) m else .bad
    | none => .bad
  | _, _ => .bad
theorem Reps.rep {K : Cg} {vs : List V} {ds : List Dv} (h : Reps K D adr vs ds) : ∀ k : Nat, Reps K D adr (List.replicate k vs).flatten (List.replicate k ds).flatten
  | 0 => .nil
  | k + 1 => by
    rw [List.replicate_succ, List.replicate_succ, List.flatten_cons, List.flatten_cons]
    exact h.append (Reps.rep h k)
theorem mulD_s : OpS G rMulX mulD := fun D adr m H x y dx dy rm rx ry σ W Q a => by
  unfold mulD at a
  split at a
  · split at a
    · rename_i h
      exact .inl ⟨_, _, rx.int_inv, ry.int_inv, h, a.ok rm (.int _)⟩
    · exact a.elim
  · split at a
    · rename_i h
      exact .inr (.inl ⟨_, _, rx.str_inv, ry.int_inv, h.1, h.2.1, h.2.2, a.ok rm (.str _)⟩)
    · exact a.elim
  · rename_i k h1 h2
    split at a
    · rename_i xs hx
      split at a
      · rename_i h
        obtain ⟨p, vs, rfl, h3, h4⟩ := rm.lx rx hx
        have hz : vs.length * k.toNat ≤ 1000 * 1000 := by rw [h4.length]; exact Nat.mul_le_mul h.2.2 (by omega)
        refine .inr (.inr ⟨p, k, vs, rfl, ry.int_inv, h3, by omega, by omega, Nat.le_trans hz (by decide +kernel), fun q hq => ?_⟩)
        have hl : Le D (upd D q (.lst (List.replicate k.toNat vs).flatten)) := Le.new (rm.dfree hq)
        exact a _ _ _ adr hl (Pf.refl _) (rm.newD hq) (.lst upd_same (Reps.mono hl (Pf.refl _) _ _ (h4.rep _)))
      · exact a.elim
    · exact a.elim
  · exact a.elim

/-! ### comparisons -/
def ltD : Dv → Dv → Mem → Res Dv := intOp fun i j => some (.bl (decide (i < j)))
theorem ltD_s : OpS G (rI0 fun i j => .bl (decide (i < j))) ltD := intOp0_s fun i j d e D adr => by cases e; exact .bl _
def gtD : Dv → Dv → Mem → Res Dv := intOp fun i j => some (.bl (decide (j < i)))
theorem gtD_s : OpS G (rI0 fun i j => .bl (decide (j < i))) gtD := intOp0_s fun i j d e D adr => by cases e; exact .bl _
def geD : Dv → Dv → Mem → Res Dv := intOp fun i j => some (.bl (decide (j ≤ i)))
theorem geD_s : OpS G (rI0 fun i j => .bl (decide (j ≤ i))) geD := intOp0_s fun i j d e D adr => by cases e; exact .bl _
def rLeX : R2 := fun x y H Q => rI0 (fun i j => .bl (decide (i ≤ j))) x y H Q ∨ (∃ i j, x = .str i ∧ y = .str j ∧ Q (.bl (!decide (j.cps.toList < i.cps.toList))) H)
theorem op_leX : OpR X (compareOp .LtE) rLeX := op_le.or op_le_str
def leD (x y : Dv) (m : Mem) : Res Dv := match x, y with
  | .int i, .int j => .ok (.bl (decide (i ≤ j))) m
  | .str i, .str j => .ok (.bl (!decide (j.cps.toList < i.cps.toList))) m
  | _, _ => .bad
theorem leD_s : OpS G rLeX leD := fun D adr m H x y dx dy rm rx ry σ W Q a => by
  unfold leD at a
  split at a
  · exact .inl ⟨_, _, rx.int_inv, ry.int_inv, a.ok rm (.bl _)⟩
  · exact .inr ⟨_, _, rx.str_inv, ry.str_inv, a.ok rm (.bl _)⟩
  · exact a.elim
/-- is None, is not None -/
def rIsNn : R2 := fun x y H Q => y = .non ∧ Q (.bl (decide (x = .non))) H
def rNotNn : R2 := fun x y H Q => y = .non ∧ Q (.bl (!decide (x = .non))) H
def isNon : Dv → Bool
  | .non => true
  | _ => false
theorem isNon_iff {x : V} {d : Dv} (r : Rep G D adr x d) : decide (x = .non) = isNon d := by
  cases r <;> rfl
def isD (x y : Dv) (m : Mem) : Res Dv := match y with
  | .non => .ok (.bl (isNon x)) m
  | _ => .bad
def isnD (x y : Dv) (m : Mem) : Res Dv := match y with
  | .non => .ok (.bl (!isNon x)) m
  | _ => .bad
theorem isD_s : OpS G rIsNn isD := fun D adr m H x y dx dy rm rx ry σ W Q a => by
  unfold isD at a
  split at a
  · exact ⟨ry.non_inv, by rw [isNon_iff rx]; exact a.ok rm (.bl _)⟩
  · exact a.elim
theorem isnD_s : OpS G rNotNn isnD := fun D adr m H x y dx dy rm rx ry σ W Q a => by
  unfold isnD at a
  split at a
  · exact ⟨ry.non_inv, by rw [isNon_iff rx]; exact a.ok rm (.bl _)⟩
  · exact a.elim
/-! data in the library's own words -/
mutual
def toPy (m : Mem) : Dv → Option PyData
  | .non => some .none
  | .bl b => some (.bool b)
  | .int i => some (.int i)
  | .str s => some (.str s)
  | .scr ns => some (.list (ns.map PyData.int))
  | .lst ds => (toPys m ds).map .list
  | .tup ds => (toPys m ds).map .tuple
  | _ => none
def toPys (m : Mem) : List Dv → Option (List PyData)
  | [] => some []
  | d :: ds => match toPy m d, toPys m ds with
    | some p, some ps => some (p :: ps)
    | _, _ => none
end
/-- a list at a place, seen as data -/
def vw (m : Mem) (d : Dv) : Dv := match d with
  | .loc n => match m[n]? with
    | some (.lst ds) => .lst ds
    | _ => d
  | _ => d
theorem dp_ints (K : PySem.W.Frag) (H : Hp) : ∀ ns : List Int, DpAll K H (ns.map V.int) (ns.map PyData.int)
  | [] => .nil
  | n :: r => .cons (.int n) (dp_ints K H r)
mutual
theorem toPy_dp (rm : RM G D adr m H) : ∀ (d : Dv) (v : V) (p : PyData), Rep G D adr v d → toPy m d = some p → Dp G.K H v p
  | .non, _, _, r, e => by cases r; cases e; exact .non
  | .bl b, _, _, r, e => by cases r; cases e; exact .bl b
  | .int b, _, _, r, e => by cases r; cases e; exact .int b
  | .str b, _, _, r, e => by cases r; cases e; exact .str b
  | .scr ns, _, _, r, e => by
    cases r with
    | scr q => cases e; exact .lst (rm.le.sqL q) (dp_ints _ _ _)
  | .lst ds, _, _, r, e => by
    cases r with
    | lst q s =>
      unfold toPy at e
      cases h : toPys m ds with
      | none => rw [h] at e; cases e
      | some ps => rw [h] at e; cases e; exact .lst (SqL.of (rm.le.lst q)) (toPys_dp rm ds _ ps s h)
  | .tup ds, _, _, r, e => by
    cases r with
    | tup q s =>
      unfold toPy at e
      cases h : toPys m ds with
      | none => rw [h] at e; cases e
      | some ps => rw [h] at e; cases e; exact .tup (SqT.of (rm.le.tup q)) (toPys_dp rm ds _ ps s h)
  | .fn _, _, _, _, e => by cases e
  | .loc _, _, _, _, e => by cases e
  | .dic _ _, _, _, _, e => by cases e
  | .dit _ _, _, _, _, e => by cases e
theorem toPys_dp (rm : RM G D adr m H) : ∀ (ds : List Dv) (vs : List V) (ps : List PyData), Reps G D adr vs ds → toPys m ds = some ps → DpAll G.K H vs ps
  | [], _, _, r, e => by cases r; cases e; exact .nil
  | d :: ds, _, _, r, e => by
    cases r with
    | cons q s =>
      unfold toPys at e
      split at e
      · rename_i p ps h1 h2
        cases e
        exact .cons (toPy_dp rm d _ p q h1) (toPys_dp rm ds _ ps s h2)
      · cases e
end
theorem vw_dp (rm : RM G D adr m H) {d : Dv} {v : V} {p : PyData} (r : Rep G D adr v d) (e : toPy m (vw m d) = some p) : Dp G.K H v p := by
  unfold vw at e
  split at e
  · rename_i n
    split at e
    · rename_i ds h
      obtain ⟨a, rfl, h1, vs, h2, h3⟩ := rm.of_loc r h
      unfold toPy at e
      cases h : toPys m ds with
      | none => rw [h] at e; cases e
      | some ps => rw [h] at e; cases e; exact .lst (SqL.of h2) (toPys_dp rm ds _ ps h3 h)
    · exact toPy_dp rm _ _ _ r e
  · exact toPy_dp rm _ _ _ r e
/-- scalars -/
def scD : Dv → Option V
  | .non => some .non
  | .bl b => some (.bl b)
  | .int i => some (.int i)
  | .str s => some (.str s)
  | _ => none
theorem scD_v {d : Dv} {v w : V} (r : Rep G D adr v d) (e : scD d = some w) : v = w := by
  unfold scD at e
  split at e <;> cases e <;> cases r <;> rfl
def eqB (m : Mem) (x y : Dv) : Option Bool :=
  match scD x, scD y with
  | some v, some w => if scal v w then some (decide (v = w)) else none
  | _, _ => match toPy m (vw m x), toPy m (vw m y) with
    | some p, some q => if SeqAt.shaped p && SeqAt.shaped q then some (PyData.eqv p q) else none
    | _, _ => none
def eqD (x y : Dv) (m : Mem) : Res Dv := match eqB m x y with
  | some b => .ok (.bl b) m
  | none => .bad
def neD (x y : Dv) (m : Mem) : Res Dv := match eqB m x y with
  | some b => .ok (.bl (!b)) m
  | none => .bad
def rEqX (K : PySem.W.Frag) : R2 := fun x y H Q => rEq x y H Q ∨ rEqD K x y H Q
def rNeX (K : PySem.W.Frag) : R2 := fun x y H Q => rNe x y H Q ∨ rNeD K x y H Q
theorem op_eqX (hu : X.A.units + 64 < cLine) : OpR X (compareOp .Eq) (rEqX X.K) := op_eq.or (op_eqD hu)
theorem op_neX (hu : X.A.units + 64 < cLine) : OpR X (compareOp .NotEq) (rNeX X.K) := op_ne.or (op_neD hu)
theorem eqB_s (rm : RM G D adr m H) {x y : V} {dx dy : Dv} {b : Bool} (rx : Rep G D adr x dx) (ry : Rep G D adr y dy) (e : eqB m dx dy = some b) :
    (scal x y = true ∧ b = decide (x = y)) ∨ ∃ p q, Dp G.K H x p ∧ Dp G.K H y q ∧ SeqAt.shaped p = true ∧ SeqAt.shaped q = true ∧ b = PyData.eqv p q := by
  unfold eqB at e
  split at e
  · rename_i v w h1 h2
    split at e
    · rename_i h
      cases e
      rw [scD_v rx h1, scD_v ry h2]
      exact .inl ⟨h, rfl⟩
    · cases e
  · split at e
    · rename_i p q h1 h2
      split at e
      · rename_i h
        cases e
        rw [Bool.and_eq_true] at h
        exact .inr ⟨p, q, vw_dp rm rx h1, vw_dp rm ry h2, h.1, h.2, rfl⟩
      · cases e
    · cases e
theorem eqD_s : OpS G (rEqX G.K) eqD := fun D adr m H x y dx dy rm rx ry σ W Q a => by
  unfold eqD at a
  split at a
  · rename_i b e
    rcases eqB_s rm rx ry e with ⟨h1, h2⟩ | ⟨p, q, h1, h2, h3, h4, h5⟩
    · exact .inl ⟨h1, by rw [← h2]; exact a.ok rm (.bl _)⟩
    · exact .inr ⟨p, q, h1, h2, h3, h4, by rw [← h5]; exact a.ok rm (.bl _)⟩
  · exact a.elim
theorem neD_s : OpS G (rNeX G.K) neD := fun D adr m H x y dx dy rm rx ry σ W Q a => by
  unfold neD at a
  split at a
  · rename_i b e
    rcases eqB_s rm rx ry e with ⟨h1, h2⟩ | ⟨p, q, h1, h2, h3, h4, h5⟩
    · exact .inl ⟨h1, by rw [← h2]; exact a.ok rm (.bl _)⟩
    · exact .inr ⟨p, q, h1, h2, h3, h4, by rw [← h5]; exact a.ok rm (.bl _)⟩
  · exact a.elim
/-- one sign in a text; a flat thing in a list -/
def rInX (K : PySem.W.Frag) : R2 := fun x y H Q => (∃ (c : Nat) (z : Str), x = .str ⟨#[c]⟩ ∧ y = .str z ∧ Q (.bl (decide (c ∈ z.cps.toList))) H) ∨ rIn K false x y H Q
def rNotInX (K : PySem.W.Frag) : R2 := fun x y H Q => (∃ (c : Nat) (z : Str), x = .str ⟨#[c]⟩ ∧ y = .str z ∧ Q (.bl (!decide (c ∈ z.cps.toList))) H) ∨ rIn K true x y H Q
theorem op_inX : OpR X (compareOp .In) (rInX X.K) := op_in_sign.or op_in_seq
theorem op_notInX : OpR X (compareOp .NotIn) (rNotInX X.K) := op_notIn_sign.or op_notIn_seq
/-- flat data in the layer's words -/
def fl : List Dv → Option (List V)
  | [] => some []
  | d :: ds => match scD d, fl ds with
    | some v, some vs => some (v :: vs)
    | _, _ => none
theorem fl_v : ∀ {ds : List Dv} {vs ws : List V}, Reps G D adr vs ds → fl ds = some ws → vs = ws
  | [], _, _, r, e => by cases r; cases e; rfl
  | d :: ds, _, _, r, e => by
    cases r with
    | cons q s =>
      unfold fl at e
      split at e
      · rename_i v ws h1 h2
        cases e
        rw [scD_v q h1, fl_v s h2]
      · cases e
theorem scD_flat {d : Dv} {v : V} (e : scD d = some v) : flatV v = true := by
  unfold scD at e
  split at e <;> cases e <;> rfl
theorem fl_flat : ∀ {ds : List Dv} {vs : List V}, fl ds = some vs → vs.all flatV = true
  | [], _, e => by cases e; rfl
  | d :: ds, _, e => by
    unfold fl at e
    split at e
    · rename_i v ws h1 h2
      cases e
      rw [List.all_cons, scD_flat h1, fl_flat h2] <;> rfl
    · cases e
def inB (m : Mem) (x y : Dv) : Option Bool := match x, y with
  | .str c, .str z => if c.cps.size = 1 then some (decide (c.cps.getD 0 0 ∈ z.cps.toList)) else none
  | x, y => match scD x, (sq m y).bind fl with
    | some v, some vs => some (inV v vs)
    | _, _ => none
def inD (x y : Dv) (m : Mem) : Res Dv := match inB m x y with
  | some b => .ok (.bl b) m
  | none => .bad
def ninD (x y : Dv) (m : Mem) : Res Dv := match inB m x y with
  | some b => .ok (.bl (!b)) m
  | none => .bad
theorem inB_s (rm : RM G D adr m H) {x y : V} {dx dy : Dv} {b : Bool} (rx : Rep G D adr x dx) (ry : Rep G D adr y dy) (e : inB m dx dy = some b) :
    (∃ (c : Nat) (z : Str), x = .str ⟨#[c]⟩ ∧ y = .str z ∧ b = decide (c ∈ z.cps.toList)) ∨ ∃ p xs, y = .ref p ∧ (SqL G.K H p xs ∨ SqT G.K H p xs) ∧ flatV x = true ∧ xs.all flatV = true ∧ b = inV x xs := by
  unfold inB at e
  split at e
  · rename_i c z
    split at e
    · rename_i h
      cases e
      refine .inl ⟨c.cps.getD 0 0, z, ?_, ry.str_inv, rfl⟩
      rw [rx.str_inv]
      obtain ⟨a⟩ := c
      obtain ⟨l⟩ := a
      match l, h with
      | [n], _ => rfl
    · cases e
  · split at e
    · rename_i v vs h1 h2
      cases e
      obtain ⟨ds, h3, h4⟩ := Option.bind_eq_some_iff.mp h2
      obtain ⟨p, xs, rfl, h5, h6⟩ := rm.sq ry h3
      rw [scD_v rx h1]
      rw [fl_v h6 h4] at h5
      exact .inr ⟨p, vs, rfl, .inl h5, scD_flat h1, fl_flat h4, rfl⟩
    · cases e
theorem inD_s : OpS G (rInX G.K) inD := fun D adr m H x y dx dy rm rx ry σ W Q a => by
  unfold inD at a
  split at a
  · rename_i b e
    rcases inB_s rm rx ry e with ⟨c, z, h1, h2, h3⟩ | ⟨p, xs, h1, h2, h3, h4, h5⟩
    · exact .inl ⟨c, z, h1, h2, by rw [← h3]; exact a.ok rm (.bl _)⟩
    · exact .inr ⟨p, xs, h1, h2, h3, h4, by rw [if_neg Bool.false_ne_true, ← h5]; exact a.ok rm (.bl _)⟩
  · exact a.elim
theorem ninD_s : OpS G (rNotInX G.K) ninD := fun D adr m H x y dx dy rm rx ry σ W Q a => by
  unfold ninD at a
  split at a
  · rename_i b e
    rcases inB_s rm rx ry e with ⟨c, z, h1, h2, h3⟩ | ⟨p, xs, h1, h2, h3, h4, h5⟩
    · exact .inl ⟨c, z, h1, h2, by rw [← h3]; exact a.ok rm (.bl _)⟩
    · exact .inr ⟨p, xs, h1, h2, h3, h4, by rw [if_pos rfl, ← h5]; exact a.ok rm (.bl _)⟩
  · exact a.elim

/-! ### items, slices -/
def ixD (x y : Dv) (m : Mem) : Res Dv := match x, y with
  | .str z, .int i => if z.length ≤ big then (match atI z.cps.toList i with
    | some c => .ok (.str ⟨#[c]⟩) m
    | none => .bad) else .bad
  | .tup ds, .int i => (match atI ds i with
    | some d => .ok d m
    | none => .bad)
  | x, .int i => (match sq m x with
    | some ds => (match atI ds i with
      | some d => .ok d m
      | none => .bad)
    | none => .bad)
  | _, _ => .bad
theorem Reps.atI {K : Cg} {vs : List V} {ds : List Dv} {i : Int} {d : Dv} (h : Reps K D adr vs ds) (e : atI ds i = some d) : ∃ v, atI vs i = some v ∧ Rep K D adr v d := by
  unfold L2.atI at e ⊢
  obtain ⟨j, h1, h2⟩ := Option.bind_eq_some_iff.mp e
  obtain ⟨v, h3, h4⟩ := h.get h2
  exact ⟨v, by rw [h.length, h1]; exact h3, h4⟩
theorem ixD_s : OpS G (rIx G.K) ixD := fun D adr m H x y dx dy rm rx ry σ W Q a => by
  unfold ixD at a
  split at a
  · split at a
    · rename_i h
      split at a
      · rename_i c e
        exact .inr (.inr ⟨_, _, c, rx.str_inv, ry.int_inv, by rw [← big_eq]; exact h, e, a.ok rm (.str _)⟩)
      · exact a.elim
    · exact a.elim
  · split at a
    · rename_i d e
      obtain ⟨p, vs, rfl, h1, h2⟩ := rm.tq rx rfl
      obtain ⟨v, h3, h4⟩ := h2.atI e
      exact .inr (.inl ⟨p, vs, _, v, rfl, ry.int_inv, SqT.of h1, h3, a.ok rm h4⟩)
    · exact a.elim
  · split at a
    · rename_i ds e
      split at a
      · rename_i d e2
        obtain ⟨p, vs, rfl, h1, h2⟩ := rm.sq rx e
        obtain ⟨v, h3, h4⟩ := h2.atI e2
        exact .inl ⟨p, vs, _, v, rfl, ry.int_inv, h1, h3, a.ok rm h4⟩
      · exact a.elim
    · exact a.elim
  · exact a.elim
theorem me_ix {a b : Expr} {ma mb : E} {pos : Pos} (hk : X.K = G.K) (ha : PE X a (tM G W ma)) (hb : PE X b (tM G W mb)) (hs : PlainIx b) : PE X (.Subscript a b pos) (tM G W (eBin ixD ma mb)) :=
  PE_imp (pe_ix (by have h : IxR X (rIx X.K) := ix_seq
                    rw [hk] at h
                    exact h) ha hb hs) (bin_imp ixD_s)
/-- a part of a slice -/
abbrev O := Er (Option Int)
abbrev relO : Rel (Option Int) (Option Int) := fun _ _ b c => b = c
def oNone : O := fun _ m => .ok none m
def oSome (e : E) : O := fun l m => (e l m).bind fun d m1 => match d with
  | .int i => .ok (some i) m1
  | _ => .bad
theorem mo_none : PO X none (tX G W relO oNone) := ⟨fun pins s σ H Q I ⟨D, adr, l, m, rm, rs, a⟩ => po_none.run pins s σ H Q I (show tNoPart σ H Q from a.ok rm rfl)⟩
theorem mo_some {e : Expr} {me : E} (h : PE X e (tM G W me)) : PO X (some e) (tX G W relO (oSome me)) := ⟨fun pins s σ H Q I ⟨D, adr, l, m, rm, rs, a⟩ => (po_some h).run pins s σ H Q I (by
  refine step rm rs a fun v H1 D1 a1 d m1 e1 f1 rm1 rs1 re b => ?_
  cases d with
  | int i => exact ⟨i, re.int_inv, b.ok rm1 rfl⟩
  | _ => exact b.elim)⟩
def cutL {α : Type} (xs : List α) (lo hi : Option Int) : List α := (xs.drop (HT.sIx xs.length 0 lo)).take (HT.sIx xs.length xs.length hi - HT.sIx xs.length 0 lo)
theorem cutV_eq (xs : List V) (lo hi : Option Int) : cutV xs lo hi = cutL xs lo hi := rfl
theorem Reps.cut {K : Cg} {vs : List V} {ds : List Dv} (h : Reps K D adr vs ds) (lo hi : Option Int) : Reps K D adr (cutL vs lo hi) (cutL ds lo hi) := by
  unfold cutL
  rw [h.length]
  exact (h.drop _).take _
def rSlX (K : PySem.W.Frag) : V → Option Int → Option Int → Hp → VK → Prop := fun x lo hi H Q => rSlS x lo hi H Q ∨ rSlT K x lo hi H Q ∨ rSlL K x lo hi H Q
theorem sl_X : SlR X (rSlX X.K) := sl_str.or (sl_tup.or sl_list)
/-- a slice (of a tuple: not the whole) -/
def slD (x : Dv) (lo hi : Option Int) (m : Mem) : Res Dv := match x with
  | .str z => if z.length ≤ big then .ok (.str (cutS z lo hi)) m else .bad
  | .tup ds => if HT.sIx ds.length 0 lo = 0 ∧ HT.sIx ds.length ds.length hi = ds.length then .bad else .ok (.tup (cutL ds lo hi)) m
  | x => match sq m x with
    | some ds => .ok (.lst (cutL ds lo hi)) m
    | none => .bad
def eSl (e : E) (lo hi : O) : E := fun l m => (e l m).bind fun d m1 => (lo l m1).bind fun i m2 => (hi l m2).bind fun j m3 => slD d i j m3
theorem me_sl {e : Expr} {lo hi : Option Expr} {me : E} {ml mh : O} {p2 pos : Pos} (hk : X.K = G.K) (he : PE X e (tM G W me)) (hl : PO X lo (tX G W relO ml)) (hh : PO X hi (tX G W relO mh)) : PE X (.Subscript e (.Slice lo hi none p2) pos) (tM G W (eSl me ml mh)) := by
  have hr : SlR X (rSlX G.K) := by
    have h : SlR X (rSlX X.K) := sl_X
    rw [hk] at h
    exact h
  refine PE_imp (pe_slice hr he hl hh) fun σ H Q ⟨D, adr, l, m, rm, rs, a⟩ => ?_
  refine step rm rs a fun x H1 D1 a1 d m1 e1 f1 rm1 rs1 rx b => ?_
  refine step rm1 rs1 b fun i H2 D2 a2 i' m2 e2 f2 rm2 rs2 ri c => ?_
  subst ri
  refine step rm2 rs2 c fun j H3 D3 a3 j' m3 e3 f3 rm3 rs3 rj h => ?_
  subst rj
  have rx3 := (rx.mono e2 f2).mono e3 f3
  unfold slD at h
  split at h
  · split at h
    · rename_i hz
      exact .inl ⟨_, rx3.str_inv, by rw [← big_eq]; exact hz, h.ok rm3 (.str _)⟩
    · exact h.elim
  · split at h
    · exact h.elim
    · rename_i hw
      obtain ⟨p, vs, rfl, h1, h2⟩ := rm3.tq rx3 rfl
      refine .inr (.inl ⟨p, vs, rfl, SqT.of h1, by rw [h2.length]; exact hw, fun q hq => ?_⟩)
      have hl : Le D3 (upd D3 q (.tup (cutV vs i j))) := Le.new (rm3.dfree hq)
      exact h _ _ _ a3 hl (Pf.refl _) (rm3.newD hq) (.tup upd_same (Reps.mono hl (Pf.refl _) _ _ (h2.cut i j)))
  · split at h
    · rename_i ds e
      obtain ⟨p, vs, rfl, h1, h2⟩ := rm3.sq rx3 e
      refine .inr (.inr ⟨p, vs, rfl, h1, fun q hq => ?_⟩)
      have hl : Le D3 (upd D3 q (.lst (cutV vs i j))) := Le.new (rm3.dfree hq)
      exact h _ _ _ a3 hl (Pf.refl _) (rm3.newD hq) (.lst upd_same (Reps.mono hl (Pf.refl _) _ _ (h2.cut i j)))
    · exact h.elim

/-! ### built-in functions by values -/
def CaS (G : Cg) (r : List V → Hp → VK → Prop) (f : List Dv → Mem → Res Dv) : Prop := ∀ (D : Hp) (adr : List Addr) (m : Mem) (H : Hp) (xs : List V) (ds : List Dv), RM G D adr m H → Reps G D adr xs ds →
  ∀ (σ : L2.St) (W : WX) (Q : VK), Aft G W σ (relE G) D adr (f ds m) Q → r xs H Q
theorem cb_imp {r : List V → Hp → VK → Prop} {f : List Dv → Mem → Res Dv} {ms : A} (s : CaS G r f) (σ : L2.St) (H : Hp) (Q : VK) : tM G W (eMk f ms) σ H Q → tCB r (tMA G W ms) σ H Q := fun ⟨D, adr, l, m, rm, rs, a⟩ =>
  step rm rs a fun vs H1 D1 a1 ds m1 e1 f1 rm1 rs1 r b => s D1 a1 m1 H1 vs ds rm1 r σ W Q b
inductive Tn where
  | none | bool | int | str | list | tuple | dict
deriving DecidableEq
def Tn.name : Tn → String
  | .none => "NoneType" | .bool => "bool" | .int => "int" | .str => "str" | .list => "list" | .tuple => "tuple" | .dict => "dict"
def tyOf (m : Mem) : Dv → Option Tn
  | .non => some .none
  | .bl _ => some .bool
  | .int _ => some .int
  | .str _ => some .str
  | .scr _ => some .list
  | .lst _ => some .list
  | .tup _ => some .tuple
  | .dic _ _ => some .dict
  | .loc n => match m[n]? with
    | some (.lst _) => some .list
    | some (.dic _) => some .dict
    | some (.dit _) => some .dict
    | _ => none
  | _ => none
def isA (t T : Tn) : Bool := decide (t = T) || (decide (t = .bool) && decide (T = .int))
theorem isA_kit (t T : Tn) : kitB t.name T.name = some (isA t T) := by
  cases t <;> cases T <;> decide +kernel
theorem tyOf_x (rm : RM G D adr m H) {v : V} {d : Dv} {t : Tn} (r : Rep G D adr v d) (e : tyOf m d = some t) : TyX G.K H v (.type t.name) := by
  have lst : ∀ {a : Addr} {xs : List V}, SqL G.K H a xs → TyX G.K H (.ref a) (.type "list") := fun {a xs} h => by
    rcases h with (h | ⟨o, h⟩) | ⟨o, its, n, h, hc, _⟩
    · exact .base (.lst h)
    · exact .base (.frz h)
    · exact .kList h hc
  unfold tyOf at e
  split at e
  · cases e; cases r; exact .base .non
  · cases e; cases r; exact .base (.bl _)
  · cases e; cases r; exact .base (.int _)
  · cases e; cases r; exact .base (.str _)
  · cases e
    cases r with
    | scr q => exact lst (rm.le.sqL q)
  · cases e
    cases r with
    | lst q s => exact .base (.lst (rm.le.lst q))
  · cases e
    cases r with
    | tup q s => exact .base (.tup (rm.le.tup q))
  · cases e
    cases r
  · split at e
    · rename_i h
      cases e
      obtain ⟨a, rfl, h1, vs, h2, h3⟩ := rm.of_loc r h
      exact .base (.lst h2)
    · rename_i h
      cases e
      obtain ⟨a, rfl, h1, vs, h2, h3⟩ := rm.of_loc r h
      exact .base (.dK h2)
    · rename_i h
      cases e
      obtain ⟨a, rfl, h1, vs, h2, h3⟩ := rm.of_loc r h
      exact .base (.dT h2)
    · cases e
  · cases e
/-- isinstance of one of the built-in types; of one out of two -/
def isiD (T : Tn) (x : Dv) (m : Mem) : Res Dv := match tyOf m x with
  | some t => .ok (.bl (isA t T)) m
  | none => .bad
def isi2D (T U : Tn) (x : Dv) (m : Mem) : Res Dv := match tyOf m x with
  | some t => .ok (.bl (isA t T || isA t U)) m
  | none => .bad
theorem me_isi {x y : Expr} {me : E} {p pos : Pos} {T : Tn} (hk : X.K = G.K) (hg : Gl X "isinstance") (hm : X.mg "isinstance" = none) (hx : PE X x (tM G W me)) (hy : PE X y (tC (.ty T.name)))
    (he : starEach [x, y] X.env = (false, eval x X.env) :: starEach [y] X.env := by rfl) (he2 : starEach [y] X.env = (false, eval y X.env) :: starEach [] X.env := by rfl) (hpl : (backTo pos (starEach [y] X.env)).any (·.1) = false := by rfl) :
    PE X (.Call (.Name "isinstance" p) [x, y] [] pos) (tM G W (eUn (isiD T) me)) := by
  have hr : CallR X (.builtin "isinstance") (rIsi G.K) := by
    have h : CallR X (.builtin "isinstance") (rIsi X.K) := call_isi
    rw [hk] at h
    exact h
  refine PE_imp (pe_callB hr hg hm (by decide +kernel) (pa_cons hx (pa_cons hy pa_nil he2) he) (he := he) (hpl := hpl)) fun σ H Q ⟨D, adr, l, m, rm, rs, a⟩ => ?_
  refine step rm rs a fun v H1 D1 a1 d m1 e1 f1 rm1 rs1 r b => ?_
  unfold isiD at b
  split at b
  · rename_i t e
    exact ⟨v, .ty T.name, .type t.name, .type T.name, _, rfl, .ty _, tyOf_x rm1 r e, kit_ty (isA_kit t T), b.ok rm1 (.bl _)⟩
  · exact b.elim
theorem me_isi2 {x y z : Expr} {me : E} {p pos tp : Pos} {x1} {T U : Tn} (hk : X.K = G.K) (hg : Gl X "isinstance") (hm : X.mg "isinstance" = none) (hx : PE X x (tM G W me)) (hy : PE X y (tC (.ty T.name))) (hz : PE X z (tC (.ty U.name)))
    (he : starEach [x, .Tuple [y, z] x1 tp] X.env = (false, eval x X.env) :: starEach [.Tuple [y, z] x1 tp] X.env := by rfl) (he2 : starEach [.Tuple [y, z] x1 tp] X.env = (false, eval (.Tuple [y, z] x1 tp) X.env) :: starEach [] X.env := by rfl)
    (he3 : starEach [y, z] X.env = (false, eval y X.env) :: starEach [z] X.env := by rfl) (he4 : starEach [z] X.env = (false, eval z X.env) :: starEach [] X.env := by rfl)
    (hpl : (backTo pos (starEach [.Tuple [y, z] x1 tp] X.env)).any (·.1) = false := by rfl) :
    PE X (.Call (.Name "isinstance" p) [x, .Tuple [y, z] x1 tp] [] pos) (tM G W (eUn (isi2D T U) me)) := by
  have hr : CallR X (.builtin "isinstance") (rIsiT G.K) := by
    have h : CallR X (.builtin "isinstance") (rIsiT X.K) := call_isiT
    rw [hk] at h
    exact h
  refine PE_imp (pe_callB hr hg hm (by decide +kernel) (pa_cons hx (pa_cons (pe_tup (pa_cons hy (pa_cons hz pa_nil he4) he3)) pa_nil he2) he) (he := he) (hpl := hpl)) fun σ H Q ⟨D, adr, l, m, rm, rs, a⟩ => ?_
  refine step rm rs a fun v H1 D1 a1 d m1 e1 f1 rm1 rs1 r b => ?_
  refine ⟨by show 2 ≤ sizeLine; decide +kernel, fun q hq => ?_⟩
  unfold isi2D at b
  split at b
  · rename_i t e
    have hl : Le D1 (upd D1 q (.tup [.ty T.name, .ty U.name])) := Le.new (rm1.dfree hq)
    have rm2 := rm1.newD (o := .tup [.ty T.name, .ty U.name]) hq
    refine ⟨v, q, [.ty T.name, .ty U.name], .type t.name, [.type T.name, .type U.name], _, rfl, upd_same, .cons (.ty _) (.cons (.ty _) .nil), tyOf_x rm2 (r.mono hl (Pf.refl _)) e, ?_, (b.mono hl (Pf.refl _)).ok rm2 (.bl _)⟩
    exact kitAny_cons (kit_ty (isA_kit t T)) (fun h0 => kitAny_cons (kit_ty (isA_kit t U)) (fun h1 => by rw [h0, h1]; exact kitAny_nil) (fun h1 => by rw [h0, h1] <;> rfl)) (fun h0 => by rw [h0] <;> rfl)
  · exact b.elim
/-- len -/
def lenD (ds : List Dv) (m : Mem) : Res Dv := match ds with
  | [.str z] => if z.length ≤ big then .ok (.int z.length) m else .bad
  | [.tup xs] => .ok (.int xs.length) m
  | [x] => match sq m x with
    | some xs => .ok (.int xs.length) m
    | none => .bad
  | _ => .bad
theorem Reps.one_inv {K : Cg} {vs : List V} {d : Dv} (h : Reps K D adr vs [d]) : ∃ v, vs = [v] ∧ Rep K D adr v d := by
  cases h with
  | cons q r => cases r; exact ⟨_, rfl, q⟩
theorem Reps.two_inv {K : Cg} {vs : List V} {d e : Dv} (h : Reps K D adr vs [d, e]) : ∃ v w, vs = [v, w] ∧ Rep K D adr v d ∧ Rep K D adr w e := by
  cases h with
  | cons q r =>
    obtain ⟨w, rfl, p⟩ := r.one_inv
    exact ⟨_, w, rfl, q, p⟩
def rLen (K : PySem.W.Frag) : List V → Hp → VK → Prop := fun xs H Q => ∃ x n, xs = [x] ∧ LenV K x H n ∧ Q (.int n) H
theorem lenD_s : CaS G (rLen G.K) lenD := fun D adr m H xs ds rm r σ W Q a => by
  unfold lenD at a
  split at a
  · split at a
    · rename_i h
      obtain ⟨v, rfl, q⟩ := r.one_inv
      exact ⟨v, _, rfl, by rw [q.str_inv]; exact ⟨by rw [← big_eq]; exact h, rfl⟩, a.ok rm (.int _)⟩
    · exact a.elim
  · obtain ⟨v, rfl, q⟩ := r.one_inv
    obtain ⟨p, vs, rfl, h1, h2⟩ := rm.tq q rfl
    exact ⟨_, vs.length, rfl, .inr ⟨vs, SqT.of h1, rfl⟩, by rw [h2.length]; exact a.ok rm (.int _)⟩
  · obtain ⟨v, rfl, q⟩ := r.one_inv
    split at a
    · rename_i xs e
      obtain ⟨p, vs, rfl, h1, h2⟩ := rm.sq q e
      exact ⟨_, vs.length, rfl, .inl ⟨vs, h1, rfl⟩, by rw [h2.length]; exact a.ok rm (.int _)⟩
    · exact a.elim
  · exact a.elim
/-- list(..) as data, with a place; tuple(..) -/
def stq (m : Mem) : Dv → Option (List Dv)
  | .tup ds => some ds
  | d => sq m d
theorem RM.stq (rm : RM G D adr m H) (r : Rep G D adr v d) (e : stq m d = some ds) : ∃ p vs, v = .ref p ∧ (SqL G.K H p vs ∨ SqT G.K H p vs) ∧ Reps G D adr vs ds := by
  unfold Sn.stq at e
  split at e
  · cases e
    obtain ⟨p, vs, rfl, h1, h2⟩ := rm.tq r rfl
    exact ⟨p, vs, rfl, .inr (SqT.of h1), h2⟩
  · obtain ⟨p, vs, rfl, h1, h2⟩ := rm.sq r e
    exact ⟨p, vs, rfl, .inl h1, h2⟩
def listD (ds : List Dv) (m : Mem) : Res Dv := match ds with
  | [x] => match stq m x with
    | some xs => mkLst xs m
    | none => .bad
  | _ => .bad
def listN (ds : List Dv) (m : Mem) : Res Dv := match ds with
  | [x] => match stq m x with
    | some xs => newLst xs m
    | none => .bad
  | _ => .bad
def tupleD (ds : List Dv) (m : Mem) : Res Dv := match ds with
  | [.tup xs] => .ok (.tup xs) m
  | [x] => match sq m x with
    | some xs => mkTup xs m
    | none => .bad
  | _ => .bad
def rListOf (K : PySem.W.Frag) : List V → Hp → VK → Prop := fun xs H Q => ∃ p ys, xs = [.ref p] ∧ (SqL K H p ys ∨ SqT K H p ys) ∧ ∀ l, H l = none → Q (.ref l) (upd H l (.lst ys))
theorem listD_s : CaS G (rListOf G.K) listD := fun D adr m H xs ds rm r σ W Q a => by
  unfold listD at a
  split at a
  · obtain ⟨v, rfl, q⟩ := r.one_inv
    split at a
    · rename_i xs e
      obtain ⟨p, vs, rfl, h1, h2⟩ := rm.stq q e
      exact ⟨p, vs, rfl, h1, (mkLst_ok rm h2 a).2⟩
    · exact a.elim
  · exact a.elim
theorem listN_s : CaS G (rListOf G.K) listN := fun D adr m H xs ds rm r σ W Q a => by
  unfold listN at a
  split at a
  · obtain ⟨v, rfl, q⟩ := r.one_inv
    split at a
    · rename_i xs e
      obtain ⟨p, vs, rfl, h1, h2⟩ := rm.stq q e
      exact ⟨p, vs, rfl, h1, (newLst_ok rm h2 a).2⟩
    · exact a.elim
  · exact a.elim
def rTupOf (K : PySem.W.Frag) : List V → Hp → VK → Prop := fun xs H Q => ∃ p ys, xs = [.ref p] ∧ ((SqL K H p ys ∧ ∀ l, H l = none → Q (.ref l) (upd H l (.tup ys))) ∨ (SqT K H p ys ∧ Q (.ref p) H))
theorem tupleD_s : CaS G (rTupOf G.K) tupleD := fun D adr m H xs ds rm r σ W Q a => by
  unfold tupleD at a
  split at a
  · obtain ⟨v, rfl, q⟩ := r.one_inv
    cases q with
    | tup q s => exact ⟨_, _, rfl, .inr ⟨SqT.of (rm.le.tup q), a.ok rm (.tup q s)⟩⟩
  · obtain ⟨v, rfl, q⟩ := r.one_inv
    split at a
    · rename_i xs e
      obtain ⟨p, vs, rfl, h1, h2⟩ := rm.sq q e
      exact ⟨p, vs, rfl, .inl ⟨h1, (mkTup_ok rm h2 a).2⟩⟩
    · exact a.elim
  · exact a.elim
/-- int(..) of an int or a bool; abs; max, min of two -/
def intD (ds : List Dv) (m : Mem) : Res Dv := match ds with
  | [.int i] => .ok (.int i) m
  | [.bl b] => .ok (.int (if b then 1 else 0)) m
  | _ => .bad
theorem intD_s : CaS G (fun xs H Q => (∃ i, xs = [.int i] ∧ Q (.int i) H) ∨ ∃ k, xs = [.bl k] ∧ Q (.int (if k then 1 else 0)) H) intD := fun D adr m H xs ds rm r σ W Q a => by
  unfold intD at a
  split at a
  · obtain ⟨v, rfl, q⟩ := r.one_inv
    exact .inl ⟨_, by rw [q.int_inv], a.ok rm (.int _)⟩
  · obtain ⟨v, rfl, q⟩ := r.one_inv
    exact .inr ⟨_, by rw [q.bl_inv], a.ok rm (.int _)⟩
  · exact a.elim
def absD (ds : List Dv) (m : Mem) : Res Dv := match ds with
  | [.int i] => .ok (.int (if i < 0 then -i else i)) m
  | _ => .bad
theorem absD_s : CaS G (fun xs H Q => ∃ i, xs = [.int i] ∧ Q (.int (if i < 0 then -i else i)) H) absD := fun D adr m H xs ds rm r σ W Q a => by
  unfold absD at a
  split at a
  · obtain ⟨v, rfl, q⟩ := r.one_inv
    exact ⟨_, by rw [q.int_inv], a.ok rm (.int _)⟩
  · exact a.elim
def maxD (ds : List Dv) (m : Mem) : Res Dv := match ds with
  | [.int i, .int j] => .ok (.int (if j > i then j else i)) m
  | _ => .bad
def minD (ds : List Dv) (m : Mem) : Res Dv := match ds with
  | [.int i, .int j] => .ok (.int (if j < i then j else i)) m
  | _ => .bad
theorem maxD_s : CaS G (fun xs H Q => ∃ i j, xs = [.int i, .int j] ∧ Q (.int (if j > i then j else i)) H) maxD := fun D adr m H xs ds rm r σ W Q a => by
  unfold maxD at a
  split at a
  · obtain ⟨v, w, rfl, q1, q2⟩ := r.two_inv
    exact ⟨_, _, by rw [q1.int_inv, q2.int_inv], a.ok rm (.int _)⟩
  · exact a.elim
theorem minD_s : CaS G (fun xs H Q => ∃ i j, xs = [.int i, .int j] ∧ Q (.int (if j < i then j else i)) H) minD := fun D adr m H xs ds rm r σ W Q a => by
  unfold minD at a
  split at a
  · obtain ⟨v, w, rfl, q1, q2⟩ := r.two_inv
    exact ⟨_, _, by rw [q1.int_inv, q2.int_inv], a.ok rm (.int _)⟩
  · exact a.elim
/-- all([..]) over truth values -/
def bls : List Dv → Option (List Bool)
  | [] => some []
  | .bl b :: r => (bls r).map (b :: ·)
  | _ => none
theorem bls_v : ∀ {ds : List Dv} {vs : List V} {bs : List Bool}, Reps G D adr vs ds → bls ds = some bs → vs = bs.map V.bl
  | [], _, _, r, e => by cases r; cases e; rfl
  | d :: ds, _, _, r, e => by
    cases r with
    | cons q s =>
      cases d with
      | bl b =>
        unfold bls at e
        obtain ⟨cs, h1, h2⟩ := Option.map_eq_some_iff.mp e
        subst h2
        rw [q.bl_inv, bls_v s h1] <;> rfl
      | _ => cases e
def allD (ds : List Dv) (m : Mem) : Res Dv := match ds with
  | [x] => match (sq m x).bind bls with
    | some bs => .ok (.bl (bs.all id)) m
    | none => .bad
  | _ => .bad
end
end Sn
/-! Sn4 -/
set_option Elab.async false
set_option linter.all false
set_option maxRecDepth 100000
set_option autoImplicit false
set_option maxHeartbeats 1000000
/-! Sn4: defs, calls, instances, raise -/
namespace Sn
open PySem PySem.Spec PyProof.Rows L2

/-! ### back to fewer places -/
mutual
def clo (n : Nat) : Dv → Bool
  | .loc k => decide (k < n)
  | .lst ds => clos n ds
  | .tup ds => clos n ds
  | .dic _ ds => clos n ds
  | .dit _ ds => clos n ds
  | _ => true
def clos (n : Nat) : List Dv → Bool
  | [] => true
  | d :: ds => clo n d && clos n ds
end
section
variable {K : Cg} {D D' : Hp} {adr adr' : List Addr}
theorem Pf.back {a b : List Addr} (h : Pf a b) {n : Nat} {x : Addr} (hn : n < a.length) (e : b[n]? = some x) : a[n]? = some x := by
  obtain ⟨c, rfl⟩ := h
  rw [List.getElem?_append_left hn] at e
  exact e
mutual
theorem Rep.back (f : Pf adr adr') : ∀ (d : Dv) (v : V), clo adr.length d = true → Rep K D adr' v d → Rep K D adr v d
  | .non, _, _, h => by cases h; exact .non
  | .bl b, _, _, h => by cases h; exact .bl b
  | .int i, _, _, h => by cases h; exact .int i
  | .str s, _, _, h => by cases h; exact .str s
  | .fn a, _, _, h => by cases h; exact .fn a
  | .loc n, _, c, h => by
    cases h with
    | loc q => exact .loc (f.back (of_decide_eq_true c) q)
  | .scr ns, _, _, h => by
    cases h with
    | scr q => exact .scr q
  | .lst ds, _, c, h => by
    cases h with
    | lst q r => exact .lst q (Reps.back f ds _ c r)
  | .tup ds, _, c, h => by
    cases h with
    | tup q r => exact .tup q (Reps.back f ds _ c r)
  | .dic ks ds, _, c, h => by cases h
  | .dit ks ds, _, c, h => by cases h
theorem Reps.back (f : Pf adr adr') : ∀ (ds : List Dv) (vs : List V), clos adr.length ds = true → Reps K D adr' vs ds → Reps K D adr vs ds
  | [], _, _, h => by cases h; exact .nil
  | d :: ds, _, c, h => by
    cases h with
    | cons q r =>
      unfold clos at c
      rw [Bool.and_eq_true] at c
      exact .cons (Rep.back f d _ c.1 q) (Reps.back f ds _ c.2 r)
end
mutual
theorem Rep.clo : ∀ (d : Dv) (v : V), Rep K D adr v d → clo adr.length d = true
  | .non, _, _ => rfl
  | .bl b, _, _ => rfl
  | .int i, _, _ => rfl
  | .str s, _, _ => rfl
  | .fn a, _, _ => rfl
  | .loc n, _, h => by
    cases h with
    | loc q => exact decide_eq_true (List.getElem?_eq_some_iff.mp q).1
  | .scr ns, _, _ => rfl
  | .lst ds, _, h => by
    cases h with
    | lst q r => exact Reps.clos ds _ r
  | .tup ds, _, h => by
    cases h with
    | tup q r => exact Reps.clos ds _ r
  | .dic ks ds, _, h => by cases h
  | .dit ks ds, _, h => by cases h
theorem Reps.clos : ∀ (ds : List Dv) (vs : List V), Reps K D adr vs ds → clos adr.length ds = true
  | [], _, _ => rfl
  | d :: ds, _, h => by
    cases h with
    | cons q r =>
      unfold Sn.clos
      rw [Rep.clo d _ q, Reps.clos ds _ r] <;> rfl
end
end
theorem RO.back {G : Cg} {D D' : Hp} {adr adr' : List Addr} {H H' : Hp} {a : Addr} (f : Pf adr adr') : ∀ {o : MO}, RO G D adr H a o → RO G D' adr' H' a o → RO G D' adr H' a o
  | .dead, _, _ => trivial
  | .lst ds, ⟨_, _, r0⟩, ⟨vs, h, r⟩ => ⟨vs, h, Reps.back f _ _ (Reps.clos _ _ r0) r⟩
  | .dic kds, ⟨_, _, r0⟩, ⟨vs, h, r⟩ => ⟨vs, h, r.1, Reps.back f _ _ (Reps.clos _ _ r0.2) r.2⟩
  | .dit kds, ⟨_, _, r0⟩, ⟨vs, h, r⟩ => ⟨vs, h, r.1, Reps.back f _ _ (Reps.clos _ _ r0.2) r.2⟩
  | .lck kds, ⟨_, _, _, r0⟩, ⟨vs, ob, h, r⟩ => ⟨vs, ob, h, r.1, Reps.back f _ _ (Reps.clos _ _ r0.2) r.2⟩
  | .lct kds, ⟨_, _, _, r0⟩, ⟨vs, ob, h, r⟩ => ⟨vs, ob, h, r.1, Reps.back f _ _ (Reps.clos _ _ r0.2) r.2⟩
  | .ins C ds, ⟨_, _, _, _, _, r0⟩, ⟨dx, fv, h, n, l, r⟩ => ⟨dx, fv, h, n, l, Reps.back f _ _ (Reps.clos _ _ r0) r⟩
/-- what was made besides is forgotten, where the old places are as they were -/
theorem RM.back {G : Cg} {D D' : Hp} {adr adr' : List Addr} {m m' : Mem} {H H' : Hp} (r : RM G D adr m H) (r' : RM G D' adr' m' H') (f : Pf adr adr') (e : m'.take m.length = m) : RM G D' adr m H' := by
  have get : ∀ (n : Nat) (o : MO), m[n]? = some o → m'[n]? = some o := fun n o q => by
    have hn := (List.getElem?_eq_some_iff.mp q).1
    rw [← e, List.getElem?_take_of_lt hn] at q
    exact q
  refine ⟨r'.le, r.nd, r.len, fun n a o e1 e2 e3 => r'.fr n a o (f.get e1) (get n o e2) e3, fun a e1 => r'.ex a ?_, fun n a o e1 e2 => (r.at_ n a o e1 e2).back f (r'.at_ n a o (f.get e1) (get n o e2))⟩
  obtain ⟨c, rfl⟩ := f
  exact List.mem_append_left _ e1

/-! ### defs -/
abbrev Fn := List Dv → Mem → Res Dv
open Classical in
/-- how a body's outcome is handed back: what it made besides is forgotten where it changed nothing that stood -/
noncomputable def fin (m0 : Mem) : Out → Res Dv
  | .nx _ m => if m.take m0.length = m0 then .ok .non m0 else .ok .non m
  | .rt d m => if m.take m0.length = m0 ∧ clo m0.length d = true then .ok d m0 else .ok d m
  | .exc c _ m => if m.take m0.length = m0 then .exc c m0 else .exc c m
  | _ => .bad
open Classical in
/-- .. a list with a place handed back as data -/
noncomputable def finF (m0 : Mem) : Out → Res Dv
  | .rt (.loc n) m => match m[n]? with
    | some (.lst ds) => if m.take m0.length = m0 ∧ m0.length ≤ n ∧ clos m0.length ds = true then .ok (.lst ds) m0 else .bad
    | _ => .bad
  | _ => .bad
noncomputable def mkFn (n N : Nat) (body : S) : Fn := fun ds m => if ds.length = n then fin m (body (ds.map some ++ List.replicate (N - n) none) m) else .bad
noncomputable def mkFnF (n N : Nat) (body : S) : Fn := fun ds m => if ds.length = n then finF m (body (ds.map some ++ List.replicate (N - n) none) m) else .bad
/-- the wish of a def's caller -/
abbrev We (E : XK) : WX := fun c d _ H => E c d H
/-- the promise of a def whose mirror is f -/
def spM (G : Cg) (n : Nat) (f : Fn) : Sp := fun vs H Q E => ∃ D adr m ds, RM G D adr m H ∧ Reps G D adr vs ds ∧ ds.length = n ∧ Aft G (We E) [] (relE G) D adr (f ds m) Q
theorem rs_start {G : Cg} {D : Hp} {adr : List Addr} {vs : List V} {ds : List Dv} (r : Reps G D adr vs ds) (k : Nat) : RS G D adr (ds.map some ++ List.replicate k none) (vs.map some ++ List.replicate k none) := by
  refine ⟨by simp [r.length], fun i d e => ?_⟩
  by_cases hi : i < ds.length
  · rw [List.getElem?_append_left (by simpa using hi), List.getElem?_map] at e
    cases h : ds[i]? with
    | none => rw [h] at e; cases e
    | some d' =>
      rw [h] at e
      cases e
      obtain ⟨v, h1, h2⟩ := r.get h
      refine ⟨v, ?_, h2⟩
      rw [List.getElem?_append_left (by simpa [r.length] using hi), List.getElem?_map, h1] <;> rfl
  · rw [List.getElem?_append_right (by simpa using Nat.le_of_not_lt hi), List.getElem?_replicate] at e
    split at e <;> cases e
section
variable {G : Cg} {P : Program} {w : World} {mg : Str → Option Value} {base : Heap}
theorem fin_s {D : Hp} {adr : List Addr} {m : Mem} {H : Hp} {o : Out} {Q : VK} {E : XK} (rm : RM G D adr m H) (a : Aft G (We E) [] (relE G) D adr (fin m o) Q) : AftS G (We E) { nx := fun _ H' => Q .non H', rt := Q } D adr o := by
  have hlen := rm.len
  cases o with
  | nx l m' =>
    simp only [fin] at a
    intro σ' H' D' a' e f rm' rs'
    split at a
    · rename_i h
      exact a .non H' D' adr e (Pf.refl _) (rm.back rm' f h) .non
    · exact a .non H' D' a' e f rm' .non
  | rt d m' =>
    simp only [fin] at a
    intro v H' D' a' e f rm' re
    split at a
    · rename_i h
      exact a v H' D' adr e (Pf.refl _) (rm.back rm' f h.1) (Rep.back f _ _ (by rw [hlen]; exact h.2) re)
    · exact a v H' D' a' e f rm' re
  | exc c l m' =>
    simp only [fin] at a
    intro σ' H' D' a' e f rm' rs'
    split at a
    · rename_i h
      exact a H' D' adr e (Pf.refl _) (rm.back rm' f h)
    · exact a H' D' a' e f rm'
  | bk l m' => exact False.elim a
  | ct l m' => exact False.elim a
  | bad => exact False.elim a
theorem finF_s {D : Hp} {adr : List Addr} {m : Mem} {H : Hp} {o : Out} {Q : VK} {E : XK} (rm : RM G D adr m H) (a : Aft G (We E) [] (relE G) D adr (finF m o) Q) : AftS G (We E) { nx := fun _ H' => Q .non H', rt := Q } D adr o := by
  have hlen := rm.len
  unfold finF at a
  split at a
  · rename_i n m'
    split at a
    · rename_i ds h
      split at a
      · rename_i hc
        intro v H' D' a' e f rm' re
        obtain ⟨b, rfl, h1, vs, h2, h3⟩ := rm'.of_loc re h
        obtain ⟨rm2, hl⟩ := rm'.freeze h1 h trivial h2
        have ht : (m'.set n .dead).take m.length = m := by
          rw [List.take_set_of_le hc.2.1]
          exact hc.1
        exact a (.ref b) H' (upd D' b (.lst vs)) adr (e.trans hl) (Pf.refl _) (rm.back rm2 f ht) (.lst upd_same (Reps.back f _ _ (by rw [hlen]; exact hc.2.2) (Reps.mono hl (Pf.refl _) _ _ h3)))
      · exact a.elim
    · exact a.elim
  · exact a.elim
/-- THE RULE for a def -/
theorem fn_ok {x qual : Str} {st : Stmt} {f : Addr} {fd : FuncData} {N ps : List Str} {k n M : Nat} {body : S} {g : Fn} (F : Fun G.K x qual st f fd) (Sc : FnScope N ps (defScope st)) (hn : ps.length = n) (hM : N.length = M) (hg : g = mkFn n M body)
    (hbody : ∀ (cdv : Value) (A : Around) (outer : List Env) (s : Shared) (H : Hp) (E : XK), Room k (A.deeper (envOfC qual (defScope st) s.heap.objs.size f cdv)) →
      PSs (cxOf (L2N.CX P w) P w G.K mg base N qual (defScope st) f cdv A outer s H E) (defBody st) (tS G (We E) body)) : FnOk P w G.K mg base (L2N.CX P w) (k + 1) f fd ps (spM G n g) := by
  subst hn hM hg
  refine okXN F Sc (fun vs H Q E h => ?_) (fun cdv A outer s H vs Q E hr h => ⟨tS G (We E) body, hbody cdv A outer s H E hr, ?_⟩)
  · obtain ⟨D, adr, m, ds, rm, r, hl, a⟩ := h
    rw [r.length, hl]
  · obtain ⟨D, adr, m, ds, rm, r, hl, a⟩ := h
    unfold mkFn at a
    rw [if_pos hl] at a
    refine ⟨D, adr, _, m, rm, ?_, fin_s rm a⟩
    have := rs_start r (N.length - ps.length)
    unfold L2.start
    rw [r.length, hl]
    exact this
theorem fn_okF {x qual : Str} {st : Stmt} {f : Addr} {fd : FuncData} {N ps : List Str} {k n M : Nat} {body : S} {g : Fn} (F : Fun G.K x qual st f fd) (Sc : FnScope N ps (defScope st)) (hn : ps.length = n) (hM : N.length = M) (hg : g = mkFnF n M body)
    (hbody : ∀ (cdv : Value) (A : Around) (outer : List Env) (s : Shared) (H : Hp) (E : XK), Room k (A.deeper (envOfC qual (defScope st) s.heap.objs.size f cdv)) →
      PSs (cxOf (L2N.CX P w) P w G.K mg base N qual (defScope st) f cdv A outer s H E) (defBody st) (tS G (We E) body)) : FnOk P w G.K mg base (L2N.CX P w) (k + 1) f fd ps (spM G n g) := by
  subst hn hM hg
  refine okXN F Sc (fun vs H Q E h => ?_) (fun cdv A outer s H vs Q E hr h => ⟨tS G (We E) body, hbody cdv A outer s H E hr, ?_⟩)
  · obtain ⟨D, adr, m, ds, rm, r, hl, a⟩ := h
    rw [r.length, hl]
  · obtain ⟨D, adr, m, ds, rm, r, hl, a⟩ := h
    unfold mkFnF at a
    rw [if_pos hl] at a
    refine ⟨D, adr, _, m, rm, ?_, finF_s rm a⟩
    have := rs_start r (N.length - ps.length)
    unfold L2.start
    rw [r.length, hl]
    exact this
end
section
variable {G : Cg} {X : Cx} {W : WX} {σ : L2.St} {H : Hp}
theorem aft_we {D : Hp} {adr : List Addr} {r : Res Dv} {Q : VK} (a : Aft G W σ (relE G) D adr r Q) : Aft G (We (WE W σ)) [] (relE G) D adr r Q := by
  cases r with
  | ok d m => exact a
  | exc c m => exact a
  | bad => exact a
/-- f(..) -/
def eCall (n : Nat) (f : Fn) (ms : A) : E := fun l m => (ms l m).bind fun ds m1 => if ds.length = n then f ds m1 else .bad
theorem me_call {x : Str} {p pos : Pos} {e : Expr} {es : List Expr} {ms : A} {k n : Nat} {f : Addr} {fd : FuncData} {ps : List Str} {g : Fn} (F : FnOk X.prog X.w X.K X.mg X.base (L2N.CX X.prog X.w) k f fd ps (spM G n g)) (tk : L2N.Takes X W) (hr : Room k X.A) (hg : Gl X x) (hm : X.mg x = some (.ref f))
    (hk : PySem.W.keepIn X.K (.ref f) = true) (hb : Binds X.K fd ps []) (ha : PA X (e :: es) (tMA G W ms)) (hdb : (x == ("__debug__" : Str)) = false := by decide) (he : starEach (e :: es) X.env = (false, eval e X.env) :: starEach es X.env := by rfl) (hpl : (backTo pos (starEach es X.env)).any (·.1) = false := by rfl) :
    PE X (.Call (.Name x p) (e :: es) [] pos) (tM G W (eCall n g ms)) :=
  PE_imp (pe_callS F hr hg hm hk hb (fun σ => L2N.passAt tk σ) ha hdb he hpl) fun σ H Q ⟨D, adr, l, m, rm, rs, a⟩ => step rm rs a fun vs H1 D1 a1 ds m1 e1 f1 rm1 rs1 r b => by
    split at b
    · rename_i hl
      exact ⟨D1, a1, m1, ds, rm1, r, hl, aft_we b⟩
    · exact b.elim
/-- o.m(..), what is raised wished at the slots -/
def tMethX (C : Addr) (m : Str) (sp : Sp) (E : L2.St → XK) (ta : TE) (t : TA) : TE := fun σ H Q => ta σ H fun x H1 => ∃ a dx fs, x = .ref a ∧ H1 a = some (.ins C dx fs) ∧ fs.lookup m = none ∧
  t σ H1 fun vs H2 => sp (x :: vs) H2 Q (E σ)
theorem pe_methX {CX : CXT} {k : Nat} {f C : Addr} {fd : FuncData} {ps : List Str} {sp : Sp} {E : L2.St → XK} {o e : Expr} {es : List Expr} {m : Str} {apos pos : Pos} {ta : TE} {t : TA} {pl : Sem Bool} (he : PE X o ta) (c : Cls X.K C) (hm : Meth X.K C m f) (F : FnOk X.prog X.w X.K X.mg X.base CX k f fd ps sp) (hr : Room k X.A) (hb : Binds X.K fd ps [])
    (hx : ∀ σ, PassesAt CX X σ (E σ)) (ha : PA X (e :: es) t)
    (hst : starEach (e :: es) X.env = (false, eval e X.env) :: starEach es X.env := by rfl) (hpl : (backTo pos (starEach es X.env)).any (·.1) = false := by rfl)
    (ht : eval (.Call (.Attribute o m apos) (e :: es) [] pos) X.env = (do
      let ov ← eval o X.env
      standAt apos.atName
      let (f, first) ← holding [ov] (getMethod ov m pl)
      callWith pos f first (backTo pos (starEach (e :: es) X.env)) (backToKw pos (keywordEach [] X.env))) := by rfl) :
    PE X (.Call (.Attribute o m apos) (e :: es) [] pos) (tMethX C m sp E ta t) := by
  refine ⟨fun pins s σ H Q I h => ?_⟩
  refine PySem.W.methodCall_KW (pl := pl) (thn (he.run pins s σ H _ I h) fun u s1 ⟨x, H1, I1, rx, a, dx, fs, ex, ea, l, q⟩ => ?_) ht
  subst ex
  obtain rfl : u = Value.ref a := rx
  refine getmeth_ok I1 ea c hm l ?_
  refine PySem.W.callWith_K (first := [.ref a]) (h₀ := X.base) I.ok.mod.kin hm.kp (thn (ha.run pos pins s1 σ H1 _ I1 q) fun us s2 ⟨vs, H2, I2, r, q2⟩ => ⟨I2.kIn, ?_⟩) hst hpl
  exact run_fnS (us := .ref a :: us) (vs := .ref a :: vs) F hr hb (hx σ) I2 (.cons rfl r) q2
theorem pe_methX0 {CX : CXT} {k : Nat} {f C : Addr} {fd : FuncData} {ps : List Str} {sp : Sp} {E : L2.St → XK} {o : Expr} {m : Str} {apos pos : Pos} {ta : TE} {pl : Sem Bool} (he : PE X o ta) (c : Cls X.K C) (hm : Meth X.K C m f) (F : FnOk X.prog X.w X.K X.mg X.base CX k f fd ps sp) (hr : Room k X.A) (hb : Binds X.K fd ps [])
    (hx : ∀ σ, PassesAt CX X σ (E σ))
    (ht : eval (.Call (.Attribute o m apos) [] [] pos) X.env = (do
      let ov ← eval o X.env
      standAt apos.atName
      let (f, first) ← holding [ov] (getMethod ov m pl)
      callWith pos f first (backTo pos (starEach [] X.env)) (backToKw pos (keywordEach [] X.env))) := by rfl) :
    PE X (.Call (.Attribute o m apos) [] [] pos) (tMethX C m sp E ta tNil) := by
  refine ⟨fun pins s σ H Q I h => ?_⟩
  refine PySem.W.methodCall_KW (pl := pl) (thn (he.run pins s σ H _ I h) fun u s1 ⟨x, H1, I1, rx, a, dx, fs, ex, ea, l, q⟩ => ?_) ht
  subst ex
  obtain rfl : u = Value.ref a := rx
  refine getmeth_ok I1 ea c hm l ?_
  exact PySem.W.callWith_K0 (first := [.ref a]) I1.kIn hm.kp (run_fnS (us := [.ref a]) (vs := [.ref a]) F hr hb (hx σ) I1 (.cons rfl .nil) q)
/-- the class of the instance at a place -/
def insOf (m : Mem) : Dv → Option (Nat × List Dv)
  | .loc n => match m[n]? with
    | some (.ins C fs) => some (C, fs)
    | _ => none
  | _ => none
/-- o.m(..), o an instance of the class C -/
def eMeth (C n : Nat) (f : Fn) (o : E) (ms : A) : E := fun l m => (o l m).bind fun x m1 => match insOf m1 x with
  | some (C', _) => if C' = C then (ms l m1).bind fun ds m2 => (if ds.length + 1 = n then f (x :: ds) m2 else .bad) else .bad
  | none => .bad
theorem RM.ins {D : Hp} {adr : List Addr} {m : Mem} {v : V} {d : Dv} {C : Nat} {fs : List Dv} (rm : RM G D adr m H) (r : Rep G D adr v d) (e : insOf m d = some (C, fs)) :
    ∃ a dx fv, v = .ref a ∧ H a = some (.ins (G.cls C) dx fv) ∧ fv.map (·.1) = (G.names C).take fs.length ∧ fs.length ≤ (G.names C).length ∧ Reps G D adr (fv.map (·.2)) fs := by
  unfold insOf at e
  split at e
  · split at e
    · rename_i n C fs h
      cases e
      obtain ⟨a, rfl, h1, dx, fv, h2, h3, h4, h5⟩ := rm.of_loc r h
      exact ⟨a, dx, fv, rfl, h2, h3, h4, h5⟩
    · cases e
  · cases e
theorem lookup_none {fs : List (Str × V)} {m : Str} : m ∉ fs.map (·.1) → fs.lookup m = none := by
  induction fs with
  | nil => intro _; rfl
  | cons p r ih =>
    intro h
    rw [List.map_cons, List.mem_cons, not_or] at h
    obtain ⟨k, v⟩ := p
    show (match m == k with | true => some v | false => r.lookup m) = none
    rw [beq_eq_false_iff_ne.mpr h.1]
    exact ih h.2
theorem me_meth {k n C : Nat} {f : Addr} {fd : FuncData} {ps : List Str} {g : Fn} {o e : Expr} {es : List Expr} {mo : E} {ms : A} {nm : Str} {apos pos : Pos} {pl : Sem Bool} (F : FnOk X.prog X.w X.K X.mg X.base (L2N.CX X.prog X.w) k f fd ps (spM G n g)) (tk : L2N.Takes X W) (hr : Room k X.A) (hb : Binds X.K fd ps [])
    (c : Cls X.K (G.cls C)) (hm : Meth X.K (G.cls C) nm f) (hn : nm ∉ G.names C) (ho : PE X o (tM G W mo)) (ha : PA X (e :: es) (tMA G W ms))
    (hst : starEach (e :: es) X.env = (false, eval e X.env) :: starEach es X.env := by rfl) (hpl : (backTo pos (starEach es X.env)).any (·.1) = false := by rfl)
    (ht : eval (.Call (.Attribute o nm apos) (e :: es) [] pos) X.env = (do
      let ov ← eval o X.env
      standAt apos.atName
      let (f, first) ← holding [ov] (getMethod ov nm pl)
      callWith pos f first (backTo pos (starEach (e :: es) X.env)) (backToKw pos (keywordEach [] X.env))) := by rfl) :
    PE X (.Call (.Attribute o nm apos) (e :: es) [] pos) (tM G W (eMeth C n g mo ms)) :=
  PE_imp (pe_methX ho c hm F hr hb (fun σ => L2N.passAt tk σ) ha hst hpl ht) fun σ H Q ⟨D, adr, l, m, rm, rs, a⟩ => step rm rs a fun v H1 D1 a1 d m1 e1 f1 rm1 rs1 r b => by
    split at b
    · rename_i C' fs h
      split at b
      · rename_i hC
        subst hC
        obtain ⟨p, dx, fv, rfl, h1, h2, h3, h4⟩ := rm1.ins r h
        refine ⟨p, dx, fv, rfl, h1, lookup_none (fun z => hn (by rw [h2] at z; exact List.mem_of_mem_take z)), ?_⟩
        refine step rm1 rs1 b fun vs H2 D2 a2 ds m2 e2 f2 rm2 rs2 r2 c => ?_
        split at c
        · rename_i hl
          exact ⟨D2, a2, m2, d :: ds, rm2, .cons (r.mono e2 f2) r2, hl, aft_we c⟩
        · exact c.elim
      · exact b.elim
    · exact b.elim
theorem me_meth0 {k C n : Nat} {f : Addr} {fd : FuncData} {ps : List Str} {g : Fn} {o : Expr} {mo : E} {nm : Str} {apos pos : Pos} {pl : Sem Bool} (F : FnOk X.prog X.w X.K X.mg X.base (L2N.CX X.prog X.w) k f fd ps (spM G n g)) (tk : L2N.Takes X W) (hr : Room k X.A) (hb : Binds X.K fd ps [])
    (c : Cls X.K (G.cls C)) (hm : Meth X.K (G.cls C) nm f) (hn : nm ∉ G.names C) (ho : PE X o (tM G W mo))
    (ht : eval (.Call (.Attribute o nm apos) [] [] pos) X.env = (do
      let ov ← eval o X.env
      standAt apos.atName
      let (f, first) ← holding [ov] (getMethod ov nm pl)
      callWith pos f first (backTo pos (starEach [] X.env)) (backToKw pos (keywordEach [] X.env))) := by rfl) :
    PE X (.Call (.Attribute o nm apos) [] [] pos) (tM G W (eMeth C n g mo aNil)) :=
  PE_imp (pe_methX0 ho c hm F hr hb (fun σ => L2N.passAt tk σ) ht) fun σ H Q ⟨D, adr, l, m, rm, rs, a⟩ => step rm rs a fun v H1 D1 a1 d m1 e1 f1 rm1 rs1 r b => by
    split at b
    · rename_i C' fs h
      split at b
      · rename_i hC
        subst hC
        obtain ⟨p, dx, fv, rfl, h1, h2, h3, h4⟩ := rm1.ins r h
        refine ⟨p, dx, fv, rfl, h1, lookup_none (fun z => hn (by rw [h2] at z; exact List.mem_of_mem_take z)), ?_⟩
        have b' : Aft G W σ (relE G) D1 a1 (if ([] : List Dv).length + 1 = n then g (d :: []) m1 else .bad) Q := b
        split at b'
        · rename_i hl
          exact ⟨D1, a1, m1, [d], rm1, .cons r .nil, hl, aft_we b'⟩
        · exact b'.elim
      · exact b.elim
    · exact b.elim
/-- C(): a new instance -/
def eMake0 (C : Nat) (f : Fn) : E := fun _ m => match f [.loc m.length] (m ++ [.ins C []]) with
  | .ok .non m1 => .ok (.loc m.length) m1
  | _ => .bad
theorem me_make0 {k C : Nat} {f : Addr} {fd : FuncData} {ps : List Str} {g : Fn} {x : Str} {p pos : Pos} (M : Mk X.K (G.cls C) f) (F : FnOk X.prog X.w X.K X.mg X.base (L2N.CX X.prog X.w) k f fd ps (spM G 1 g)) (hr : Room (k + 1) X.A) (hg : Gl X x) (hm : X.mg x = some (.ref (G.cls C))) (hb : Binds X.K fd ps [])
    (hdb : (x == ("__debug__" : Str)) = false := by decide) : PE X (.Call (.Name x p) [] [] pos) (tM G W (eMake0 C g)) :=
  PE_imp (pe_make0 M F hr hg hm hb .nil passLN hdb) fun σ H Q ⟨D, adr, l, m, rm, rs, a⟩ => by
    unfold eMake0 at a
    show ∀ x dx, H x = none → H dx = none → dx ≠ x → _
    intro x dx hx hdx hne
    have rm1 := rm.newD (o := .own x) hdx
    have hx1 : upd H dx (.own x) x = none := by rw [upd_ne (Ne.symm hne)]; exact hx
    have rm2 := rm1.newM (p := x) (ho := .ins (G.cls C) dx []) (o := .ins C []) hx1 ⟨dx, [], upd_same, by simp, by simp, .nil⟩
    have hl : Le D (upd D dx (.own x)) := Le.new (rm.dfree hdx)
    refine ⟨_, _, _, [.loc m.length], rm2, .cons (.loc (by rw [← rm.len]; simp)) .nil, rfl, ?_⟩
    split at a
    · rename_i m1 e
      rw [e]
      intro v H' D' a' l1 p1 rm' re
      refine ⟨re.non_inv, a (.ref x) H' D' a' (hl.trans l1) (Pf.snoc.trans p1) rm' (.loc (p1.get (by rw [← rm.len]; simp)))⟩
    · exact a.elim

/-! ### fields -/
def eFld (C i : Nat) (o : E) : E := fun l m => (o l m).bind fun x m1 => match insOf m1 x with
  | some (C', fs) => if C' = C then (match fs[i]? with
    | some d => .ok d m1
    | none => .bad) else .bad
  | none => .bad
theorem lookup_at : ∀ {fv : List (Str × V)} {N : List Str} {i : Nat} {f : Str} {v : V}, N.Nodup → (∃ n, fv.map (·.1) = N.take n) → N[i]? = some f → (fv.map (·.2))[i]? = some v → fv.lookup f = some v
  | [], _, i, _, _, _, _, _, e => by simp at e
  | (k, u) :: r, N, 0, f, v, nd, ⟨n, e⟩, e1, e2 => by
    cases N with
    | nil => simp at e
    | cons a N =>
      cases n with
      | zero => simp at e
      | succ n =>
        simp at e e1 e2
        subst e2
        rw [← e1, ← e.1]
        show (match k == k with | true => some u | false => r.lookup k) = some u
        rw [beq_self_eq_true]
  | (k, u) :: r, N, i + 1, f, v, nd, ⟨n, e⟩, e1, e2 => by
    cases N with
    | nil => simp at e
    | cons a N =>
      cases n with
      | zero => simp at e
      | succ n =>
        simp only [List.map_cons, List.take_succ_cons, List.cons.injEq] at e
        have hne : f ≠ k := by
          rintro rfl
          rw [List.getElem?_cons_succ] at e1
          have := List.mem_of_getElem? e1
          rw [e.1] at this
          exact (List.nodup_cons.mp nd).1 this
        show (match f == k with | true => some u | false => r.lookup f) = some v
        rw [beq_eq_false_iff_ne.mpr hne]
        exact lookup_at (List.nodup_cons.mp nd).2 ⟨n, e.2⟩ (by simpa using e1) (by simpa using e2)
theorem me_fld {C i : Nat} {f : Str} {o : Expr} {mo : E} {pos : Pos} (c : Cls X.K (G.cls C)) (hn : NoAttr X.K (G.cls C) f) (nd : (G.names C).Nodup) (hi : (G.names C)[i]? = some f) (ho : PE X o (tM G W mo)) (hb : attributeBase o f X.env (eval o X.env) = eval o X.env := by rfl) :
    PE X (.Attribute o f pos) (tM G W (eFld C i mo)) :=
  PE_imp (pe_fld ho hb) fun σ H Q ⟨D, adr, l, m, rm, rs, a⟩ => step rm rs a fun v H1 D1 a1 d m1 e1 f1 rm1 rs1 r b => by
    split at b
    · rename_i C' fs h
      split at b
      · rename_i hC
        subst hC
        split at b
        · rename_i y hy
          obtain ⟨p, dx, fv, rfl, h1, h2, h3, h4⟩ := rm1.ins r h
          obtain ⟨u, h5, h6⟩ := h4.get hy
          exact ⟨p, _, dx, fv, u, rfl, h1, c, hn, lookup_at nd ⟨_, h2⟩ hi h5, b.ok rm1 h6⟩
        · exact b.elim
      · exact b.elim
    · exact b.elim
/-- o.f = e: an old field or the next one -/
def putI (i : Nat) (d : Dv) (fs : List Dv) : Option (List Dv) := if i < fs.length then some (fs.set i d) else if i = fs.length then some (fs ++ [d]) else none
def setIns (m : Mem) (x : Dv) (C i : Nat) (d : Dv) : Option Mem := match x with
  | .loc n => match m[n]? with
    | some (.ins C' fs) => if C' = C then (putI i d fs).map fun gs => m.set n (.ins C gs) else none
    | _ => none
  | _ => none
def sFldM (C i : Nat) (o e : E) : S := fun l m => (e l m).out l fun d m1 => (o l m1).out l fun x m2 => match setIns m2 x C i d with
  | some m3 => .nx l m3
  | none => .bad
theorem zip_fs : ∀ r : List (Str × V), (r.map (·.1)).zip (r.map (·.2)) = r
  | [] => rfl
  | p :: r => by rw [List.map_cons, List.map_cons, List.zip_cons_cons, zip_fs r]
theorem putF_at : ∀ {fv : List (Str × V)} {N : List Str} {i n : Nat} {f : Str} {v : V}, N.Nodup → fv.map (·.1) = N.take n → n ≤ N.length → N[i]? = some f → i < n → putF f v fv = (N.take n).zip ((fv.map (·.2)).set i v) ∧ (putF f v fv).map (·.1) = N.take n
  | [], N, i, n, f, v, nd, e, hn, e1, hi => by
    cases N with
    | nil => simp at hn; omega
    | cons a N =>
      cases n with
      | zero => omega
      | succ n => simp at e
  | (k, u) :: r, N, i, n, f, v, nd, e, hn, e1, hi => by
    cases N with
    | nil => simp at e1
    | cons a N =>
      cases n with
      | zero => omega
      | succ n =>
        simp only [List.map_cons, List.take_succ_cons, List.cons.injEq] at e
        obtain ⟨ek, er⟩ := e
        cases i with
        | zero =>
          simp at e1
          subst e1
          subst ek
          have : putF k v ((k, u) :: r) = (k, v) :: r := by
            show (if k = k then (k, v) :: r else (k, u) :: putF k v r) = _
            rw [if_pos rfl]
          rw [this]
          refine ⟨?_, by simp [er]⟩
          simp only [List.take_succ_cons, List.map_cons, List.set_cons_zero, List.zip_cons_cons, ← er, List.cons.injEq, true_and]
          exact (zip_fs r).symm
        | succ i =>
          rw [List.getElem?_cons_succ] at e1
          have hne : k ≠ f := by
            rintro rfl
            have := List.mem_of_getElem? e1
            rw [ek] at this
            exact (List.nodup_cons.mp nd).1 this
          obtain ⟨q1, q2⟩ := putF_at (v := v) (List.nodup_cons.mp nd).2 er (by simpa using hn) e1 (by omega)
          have : putF f v ((k, u) :: r) = (k, u) :: putF f v r := by
            show (if k = f then (k, v) :: r else (k, u) :: putF f v r) = _
            rw [if_neg hne]
          rw [this]
          refine ⟨?_, by simp [q2, ek]⟩
          simp only [List.take_succ_cons, List.map_cons, List.set_cons_succ, List.zip_cons_cons, ← q1, ← ek]
theorem putF_new {f : Str} {v : V} : ∀ {fv : List (Str × V)}, f ∉ fv.map (·.1) → putF f v fv = fv ++ [(f, v)]
  | [], _ => rfl
  | (k, u) :: r, h => by
    rw [List.map_cons, List.mem_cons, not_or] at h
    show (if k = f then (k, v) :: r else (k, u) :: putF f v r) = _
    rw [if_neg (fun e => h.1 e.symm), putF_new h.2] <;> rfl
theorem ms_fld {C i : Nat} {f : Str} {o e : Expr} {mo me : E} {pos pos' : Pos} (c : Cls X.K (G.cls C)) (hn : NoAttr X.K (G.cls C) f) (nd : (G.names C).Nodup) (hi : (G.names C)[i]? = some f) (hz : (G.names C).length < 1000) (ho : PE X o (tM G W mo)) (he : PE X e (tM G W me))
    (hs : swapsWith e (some (.Attribute o f pos')) pos.line X.env = pure false) : PS X (.Assign [.Attribute o f pos'] e pos) (tS G W (sFldM C i mo me)) :=
  PS_imp (ps_fld ho he hs) fun De σ H ⟨D, adr, l, m, rm, rs, a⟩ => stepS rm rs a fun y H1 D1 a1 dy m1 e1 f1 rm1 rs1 ry b => stepS rm1 rs1 b fun v H2 D2 a2 d m2 e2 f2 rm2 rs2 r c' => by
    split at c'
    · rename_i m3 h
      unfold setIns at h
      split at h
      · rename_i n
        split at h
        · rename_i C' fs h0
          split at h
          · rename_i hC
            subst hC
            obtain ⟨gs, h7, h8⟩ := Option.map_eq_some_iff.mp h
            subst h8
            obtain ⟨p, rfl, hp, dx, fv, h2, h3, h4, h5⟩ := rm2.of_loc r h0
            have lfs : fv.length = fs.length := by have := h5.length; simpa using this
            refine ⟨p, _, dx, fv, rfl, h2, c, hn, by omega, c' σ _ D2 a2 (Le.refl _) (Pf.refl _) (rm2.setM hp h0 trivial ?_) rs2⟩
            have ry2 := ry.mono e2 f2
            unfold putI at h7
            split at h7
            · rename_i hlt
              cases h7
              obtain ⟨q1, q2⟩ := putF_at (v := y) nd h3 h4 hi hlt
              refine ⟨dx, putF f y fv, upd_same, by rw [q2]; simp, by simpa using h4, ?_⟩
              have : (putF f y fv).map (·.2) = (fv.map (·.2)).set i y := by
                rw [q1]
                apply List.map_snd_zip
                simp [lfs]
                omega
              rw [this]
              exact h5.set i ry2
            · split at h7
              · rename_i heq
                cases h7
                have hif := (List.getElem?_eq_some_iff.mp hi).1
                have hni : f ∉ fv.map (·.1) := by
                  rw [h3]
                  intro hm
                  obtain ⟨j, hj⟩ := List.mem_iff_getElem?.mp hm
                  have hjl : j < fs.length := by
                    have := (List.getElem?_eq_some_iff.mp hj).1
                    rw [List.length_take] at this
                    omega
                  rw [List.getElem?_take_of_lt hjl] at hj
                  have := L2.nodup_ix nd hj hi
                  omega
                refine ⟨dx, putF f y fv, upd_same, ?_, by simp; omega, ?_⟩
                · rw [putF_new hni, List.map_append, h3, List.length_append]
                  show (G.names C').take fs.length ++ [f] = (G.names C').take (fs.length + 1)
                  rw [← heq, List.take_add_one, hi] <;> rfl
                · rw [putF_new hni, List.map_append]
                  exact h5.append (.one ry2)
              · cases h7
          · cases h
        · cases h
      · cases h
    · exact c'.elim

/-! ### raise -/
def sRaise (c : XC) : S := fun l m => .exc c l m
theorem ms_raise {c : XC} {e : Expr} {pos : Pos} (hc : X.calm = true) (tk : L2N.Takes X W) (he : L2N.PMk X e (fun _ H Q => Q (.ref (G.xa c)) none H)) : PS X (.Raise (some e) none pos) (tS G W (sRaise c)) :=
  PS_imp (L2N.ps_raise hc tk he) fun De σ H ⟨D, adr, l, m, rm, rs, a⟩ => a σ H D adr (Le.refl _) (Pf.refl _) rm rs
/-- a module's constant, a def, as a value -/
theorem me_glob {x : Str} {v : V} {d : Dv} {u : Value} {pos : Pos} (hg : Gl X x) (hm : X.mg x = some u) (r : RelV v u) (rp : ∀ K D adr, Rep K D adr v d) (hd : (x == ("__debug__" : Str)) = false := by decide) : PE X (.Name x pos) (tM G W (eC d)) :=
  me_c (pe_glob hg hm r hd) rp
end
end Sn
/-! Sn5 -/
set_option Elab.async false
set_option linter.all false
set_option maxRecDepth 100000
set_option autoImplicit false
set_option maxHeartbeats 1000000
/-! Sn5: loops, comprehensions -/
namespace Sn
open PySem PySem.Spec PyProof.Rows L2

section
variable {G : Cg} {X : Cx} {W : WX} {σ : L2.St} {H : Hp}

/-! ### what is walked -/
/-- the items of a walk: what comes at turn i is ds[i] -/
structure Yl (G : Cg) (D : Hp) (adr : List Addr) (ds : List Dv) (Gs : Hp → Prop) (Y : Nat → Hp → V → Hp → Prop) : Prop where
  stays : ∀ (D' : Hp) (adr' : List Addr) (m' : Mem) (H' : Hp), Le D D' → Pf adr adr' → RM G D' adr' m' H' → Gs H'
  gives : ∀ (i : Nat) (H : Hp) (x : V) (H' : Hp) (D' : Hp) (adr' : List Addr) (m' : Mem), i < ds.length → Y i H x H' → Le D D' → Pf adr adr' → RM G D' adr' m' H →
    H' = H ∧ ∃ d D'', ds[i]? = some d ∧ Le D' D'' ∧ RM G D'' adr' m' H ∧ Rep G D'' adr' x d
def tIt (G : Cg) (W : WX) (mi : A) : TI := fun σ H R => ∃ D adr l m, RM G D adr m H ∧ RS G D adr l σ ∧ (match mi l m with
  | .ok ds m1 => ∀ J H1 D1 adr1 Gs Y, Le D D1 → Pf adr adr1 → RM G D1 adr1 m1 H1 → Walk J ds.length Gs Y → Yl G D1 adr1 ds Gs Y → R J H1
  | .exc c m1 => ∀ H1 D1 adr1, Le D D1 → Pf adr adr1 → RM G D1 adr1 m1 H1 → W (.ref (G.xa c)) none σ H1
  | .bad => False)
theorem PI_imp {tg e : Expr} {t t' : TI} (h : PI X tg e t) (i : ∀ σ H R, t' σ H R → t σ H R) : PI X tg e t' := ⟨fun pins s σ H R I q => h.run pins s σ H R I (i σ H R q)⟩
def itm : Dv → Option (List Dv)
  | .lst ds => some ds
  | .tup ds => some ds
  | .scr ns => some (ns.map Dv.int)
  | _ => none
def iSeq (e : E) : A := fun l m => (e l m).bind fun d m1 => match itm d with
  | some ds => .ok ds m1
  | none => .bad
theorem yl_of {D : Hp} {adr : List Addr} {vs : List V} {ds : List Dv} {Gs : Hp → Prop} (r : Reps G D adr vs ds) (hs : ∀ (D' : Hp) (adr' : List Addr) (m' : Mem) (H' : Hp), Le D D' → Pf adr adr' → RM G D' adr' m' H' → Gs H') : Yl G D adr ds Gs (YAt vs) :=
  ⟨hs, fun i H x H' D' adr' m' hi y e f rm => by
    obtain ⟨h1, h2⟩ := y
    have hd : ds[i]? = some ds[i] := by simp [hi]
    obtain ⟨v, h3, h4⟩ := r.get hd
    rw [h2] at h3
    cases h3
    exact ⟨h1, ds[i], D', hd, Le.refl _, rm, h4.mono e f⟩⟩
theorem mi_seq {tg e : Expr} {me : E} (hk : X.K = G.K) (he : PE X e (tM G W me)) : PI X tg e (tIt G W (iSeq me)) := by
  have hl : PI X tg e (iList G.K (tM G W me)) := by
    have h := pi_list (tg := tg) he
    rw [hk] at h
    exact h
  have ht : PI X tg e (iTup G.K (tM G W me)) := by
    have h := pi_tup (tg := tg) he
    rw [hk] at h
    exact h
  refine ⟨fun pins s σ H R I q => ?_⟩
  obtain ⟨D, adr, l, m, rm, rs, a⟩ := q
  have key : iList G.K (tM G W me) σ H R ∨ iTup G.K (tM G W me) σ H R := by
    unfold iSeq at a
    cases e1 : me l m with
    | bad => rw [e1] at a; exact a.elim
    | exc c m1 =>
      rw [e1] at a
      exact .inl ⟨D, adr, l, m, rm, rs, by rw [e1]; exact a⟩
    | ok d m1 =>
      rw [e1] at a
      cases d with
      | lst ds =>
        refine .inl ⟨D, adr, l, m, rm, rs, ?_⟩
        rw [e1]
        intro v H1 D1 a1 le pf rm1 r
        cases r with
        | @lst p vs _ q s =>
          refine ⟨p, rfl, ⟨vs, SqL.of (rm1.le.lst q)⟩, ?_⟩
          have w : Walk (Itl G.K p) ds.length (fun H => SqL G.K H p vs) (YAt vs) := s.length ▸ walk_list
          exact a _ H1 D1 a1 _ _ le pf rm1 w (yl_of s fun D' adr' m' H' e f rm' => SqL.of (rm'.le.lst (e.lst q)))
      | scr ns =>
        refine .inl ⟨D, adr, l, m, rm, rs, ?_⟩
        rw [e1]
        intro v H1 D1 a1 le pf rm1 r
        cases r with
        | @scr p _ q =>
          refine ⟨p, rfl, ⟨ns.map V.int, rm1.le.sqL q⟩, ?_⟩
          have w : Walk (Itl G.K p) (ns.map Dv.int).length (fun H => SqL G.K H p (ns.map V.int)) (YAt (ns.map V.int)) := by
            rw [show (ns.map Dv.int).length = (ns.map V.int).length by simp]
            exact walk_list
          exact a _ H1 D1 a1 _ _ le pf rm1 w (yl_of (reps_ints _ _ _ ns) fun D' adr' m' H' e f rm' => rm'.le.sqL (e.sqL q))
      | tup ds =>
        refine .inr ⟨D, adr, l, m, rm, rs, ?_⟩
        rw [e1]
        intro v H1 D1 a1 le pf rm1 r
        cases r with
        | @tup p vs _ q s =>
          refine ⟨p, rfl, ⟨vs, SqT.of (rm1.le.tup q)⟩, ?_⟩
          have w : Walk (Itt G.K p) ds.length (fun H => SqT G.K H p vs) (YAt vs) := s.length ▸ walk_tup
          exact a _ H1 D1 a1 _ _ le pf rm1 w (yl_of s fun D' adr' m' H' e f rm' => SqT.of (rm'.le.tup (e.tup q)))
      | _ => exact a.elim
  rcases key with h | h
  · exact hl.run pins s σ H R I h
  · exact ht.run pins s σ H R I h
def rng (lo : Int) (n : Nat) : List Dv := (List.range n).map fun i => .int (lo + (i : Nat))
theorem rng_length (lo : Int) (n : Nat) : (rng lo n).length = n := by simp [rng]
theorem yl_rng {D : Hp} {adr : List Addr} (lo : Int) (n : Nat) : Yl G D adr (rng lo n) (fun _ => True) (YFn fun i => .int (lo + (i : Nat))) :=
  ⟨fun _ _ _ _ _ _ _ => trivial, fun i H x H' D' adr' m' hi y e f rm => by
    obtain ⟨h1, h2⟩ := y
    rw [rng_length] at hi
    exact ⟨h1, .int (lo + i), D', by simp [rng, hi], Le.refl _, rm, by rw [h2]; exact .int _⟩⟩
def iR1 (ms : A) : A := fun l m => (ms l m).bind fun ds m1 => match ds with
  | [.int j] => if -(2 ^ 62) ≤ j ∧ j < 2 ^ 62 then .ok (rng 0 j.toNat) m1 else .bad
  | _ => .bad
def iR2 (ms : A) : A := fun l m => (ms l m).bind fun ds m1 => match ds with
  | [.int i, .int j] => if -(2 ^ 62) ≤ i ∧ i < 2 ^ 62 ∧ -(2 ^ 62) ≤ j ∧ j < 2 ^ 62 then .ok (rng i (j - i).toNat) m1 else .bad
  | _ => .bad
theorem stepI {α β : Type} {rel : Rel α β} {D : Hp} {adr : List Addr} {l : Lc} {m : Mem} {e : Er α} {k : α → Mem → Res (List Dv)} {R : It → Hp → Prop} (rm : RM G D adr m H) (rs : RS G D adr l σ)
    (h : match (e l m).bind k with
      | .ok ds m1 => ∀ J H1 D1 adr1 Gs Y, Le D D1 → Pf adr adr1 → RM G D1 adr1 m1 H1 → Walk J ds.length Gs Y → Yl G D1 adr1 ds Gs Y → R J H1
      | .exc c m1 => ∀ H1 D1 adr1, Le D D1 → Pf adr adr1 → RM G D1 adr1 m1 H1 → W (.ref (G.xa c)) none σ H1
      | .bad => False)
    {S : β → Hp → Prop} (q : ∀ v H1 D1 adr1 d m1, Le D D1 → Pf adr adr1 → RM G D1 adr1 m1 H1 → RS G D1 adr1 l σ → rel D1 adr1 v d →
      (match k d m1 with
      | .ok ds m2 => ∀ J H2 D2 adr2 Gs Y, Le D1 D2 → Pf adr1 adr2 → RM G D2 adr2 m2 H2 → Walk J ds.length Gs Y → Yl G D2 adr2 ds Gs Y → R J H2
      | .exc c m2 => ∀ H2 D2 adr2, Le D1 D2 → Pf adr1 adr2 → RM G D2 adr2 m2 H2 → W (.ref (G.xa c)) none σ H2
      | .bad => False) → S v H1) : tX G W rel e σ H S := by
  refine ⟨D, adr, l, m, rm, rs, ?_⟩
  cases e1 : e l m with
  | bad => rw [e1] at h; exact h.elim
  | exc c m1 => rw [e1] at h; exact h
  | ok d m1 =>
    rw [e1] at h
    intro v H1 D1 a1 le pf rm1 r
    refine q v H1 D1 a1 d m1 le pf rm1 (rs.mono le pf) r ?_
    have h' : match k d m1 with
      | .ok ds m1 => ∀ J H1 D1 adr1 Gs Y, Le D D1 → Pf adr adr1 → RM G D1 adr1 m1 H1 → Walk J ds.length Gs Y → Yl G D1 adr1 ds Gs Y → R J H1
      | .exc c m1 => ∀ H1 D1 adr1, Le D D1 → Pf adr adr1 → RM G D1 adr1 m1 H1 → W (.ref (G.xa c)) none σ H1
      | .bad => False := h
    cases e2 : k d m1 with
    | bad => rw [e2] at h'; exact h'
    | exc c m2 => rw [e2] at h'; exact fun H2 D2 a2 l2 p2 => h' H2 D2 a2 (le.trans l2) (pf.trans p2)
    | ok ds m2 => rw [e2] at h'; exact fun J H2 D2 a2 Gs Y l2 p2 => h' J H2 D2 a2 Gs Y (le.trans l2) (pf.trans p2)
theorem mi_range1 {tg a : Expr} {ms : A} {p pos : Pos} (hg : Gl X "range") (hm : X.mg "range" = none) (ha : PA X [a] (tMA G W ms)) (hs : starEach [a] X.env = [(false, eval a X.env)] := by rfl) : PI X tg (.Call (.Name "range" p) [a] [] pos) (tIt G W (iR1 ms)) :=
  PI_imp (pi_range1 hg hm ha hs) fun σ H R ⟨D, adr, l, m, rm, rs, a⟩ => stepI (rel := relA G) rm rs a fun vs H1 D1 a1 ds m1 e1 f1 rm1 rs1 r b => by
    split at b
    · rename_i ds' m2 e
      split at e
      · rename_i j
        split at e
        · rename_i h
          cases e
          obtain ⟨v, rfl, q⟩ := r.one_inv
          refine ⟨j, by rw [q.int_inv], h.1, h.2, b _ H1 D1 a1 _ _ (Le.refl _) (Pf.refl _) rm1 ?_ (yl_rng 0 j.toNat)⟩
          rw [rng_length]
          exact walk_range
        · cases e
      · cases e
    · rename_i e
      split at e
      · split at e <;> cases e
      · cases e
    · exact b.elim
theorem mi_range2 {tg a a' : Expr} {ms : A} {p pos : Pos} (hg : Gl X "range") (hm : X.mg "range" = none) (ha : PA X [a, a'] (tMA G W ms)) (hs : starEach [a, a'] X.env = [(false, eval a X.env), (false, eval a' X.env)] := by rfl) (hs2 : starEach [a'] X.env = [(false, eval a' X.env)] := by rfl) : PI X tg (.Call (.Name "range" p) [a, a'] [] pos) (tIt G W (iR2 ms)) :=
  PI_imp (pi_range2 hg hm ha hs hs2) fun σ H R ⟨D, adr, l, m, rm, rs, a⟩ => stepI (rel := relA G) rm rs a fun vs H1 D1 a1 ds m1 e1 f1 rm1 rs1 r b => by
    split at b
    · rename_i ds' m2 e
      split at e
      · rename_i i j
        split at e
        · rename_i h
          cases e
          obtain ⟨v, w, rfl, q, q'⟩ := r.two_inv
          refine ⟨i, j, by rw [q.int_inv, q'.int_inv], h, b _ H1 D1 a1 _ _ (Le.refl _) (Pf.refl _) rm1 ?_ (yl_rng i (j - i).toNat)⟩
          rw [rng_length]
          exact walk_range
        · cases e
      · cases e
    · rename_i e
      split at e
      · split at e <;> cases e
      · cases e
    · exact b.elim
/-- a text, sign by sign -/
def sgn (z : Str) : List Dv := z.cps.toList.map fun c => .str ⟨#[c]⟩
def iStrM (e : E) : A := fun l m => (e l m).bind fun d m1 => match d with
  | .str z => .ok (sgn z) m1
  | _ => .bad
theorem mi_str {tg e : Expr} {me : E} (he : PE X e (tM G W me)) : PI X tg e (tIt G W (iStrM me)) :=
  PI_imp (pi_str he) fun σ H R ⟨D, adr, l, m, rm, rs, a⟩ => stepI (rel := relE G) rm rs a fun v H1 D1 a1 d m1 e1 f1 rm1 rs1 r b => by
    cases d with
    | str z =>
      refine ⟨z, r.str_inv, b _ H1 D1 a1 (fun _ => True) (fun i H v H' => H' = H ∧ ∃ c, z.cps[i]? = some c ∧ v = .str ⟨#[c]⟩) (Le.refl _) (Pf.refl _) rm1 ?_ ?_⟩
      · rw [show (sgn z).length = z.cps.size by simp [sgn]]
        exact walk_str
      · refine ⟨fun _ _ _ _ _ _ _ => trivial, fun i H x H' D' adr' m' hi y e f rm => ?_⟩
        obtain ⟨h1, c, h2, h3⟩ := y
        refine ⟨h1, .str ⟨#[c]⟩, D', ?_, Le.refl _, rm, by rw [h3]; exact .str _⟩
        unfold sgn
        rw [List.getElem?_map, ← Array.getElem?_toList] at *
        rw [h2] <;> rfl
    | _ => exact b.elim

/-! ### targets -/
abbrev Tg := Dv → Lc → Option Lc
def TgS (G : Cg) (g : TG) (tg : Tg) : Prop := ∀ (D : Hp) (adr : List Addr) (m : Mem) (H : Hp) (v : V) (d : Dv) (l l' : Lc) (σ : L2.St) (Q : L2.St → Hp → Prop), RM G D adr m H → RS G D adr l σ → Rep G D adr v d → tg d l = some l' → (∀ σ', RS G D adr l' σ' → Q σ' H) → g v σ H Q
def tgN (i : Nat) : Tg := fun d l => some (l.set i (some d))
theorem tgN_s (i : Nat) : TgS G (gName i) (tgN i) := fun D adr m H v d l l' σ Q rm rs r e q => by
  cases e
  exact q _ (rs.set r)
def tg2 (i j : Nat) : Tg := fun d l => match d with
  | .tup [a, b] => some ((l.set i (some a)).set j (some b))
  | _ => none
theorem tg2_s (i j : Nat) : TgS G (gTup G.K 2 (gCons (gName i) (gCons (gName j) gNil))) (tg2 i j) := fun D adr m H v d l l' σ Q rm rs r e q => by
  unfold tg2 at e
  split at e
  · cases e
    obtain ⟨p, vs, rfl, h1, h2⟩ := rm.tq r rfl
    obtain ⟨x, y, rfl, r1, r2⟩ := h2.two_inv
    exact ⟨p, [x, y], rfl, SqT.of h1, rfl, x, [y], rfl, y, [], rfl, rfl, q _ ((rs.set r1).set r2)⟩
  · cases e
/-- for a, b in .. -/
theorem mg_2 {a b : Str} {pa pb pt : Pos} {k i j : Nat} (hk : X.K = G.K) (hc : X.calm = true) (ha : PG X (.Name a pa) (gName i)) (hb : PG X (.Name b pb) (gName j)) (hn : (assignEach [.Name a pa, .Name b pb] X.env).length = 2 := by rfl)
    (hst : (assignEach [.Name a pa, .Name b pb] X.env).findIdx? (·.1) = none := by rfl) : PG X (.Tuple [.Name a pa, .Name b pb] k pt) (gTup G.K 2 (gCons (gName i) (gCons (gName j) gNil))) := by
  have h := pg_tup (k := k) (pos := pt) hc (pgs_cons ha (pgs_cons hb pgs_nil)) hn hst
  rw [hk] at h
  exact h

/-! ### for -/
def forM (tg : Tg) (body : S) : List Dv → S
  | [], l, m => .nx l m
  | x :: r, l, m => match tg x l with
    | some l1 => match body l1 m with
      | .nx l2 m2 => forM tg body r l2 m2
      | .ct l2 m2 => forM tg body r l2 m2
      | .bk l2 m2 => .nx l2 m2
      | .rt d m2 => .rt d m2
      | .exc c l2 m2 => .exc c l2 m2
      | .bad => .bad
    | none => .bad
def sFor (it : A) (tg : Tg) (body : S) : S := fun l m => (it l m).out l fun ds m1 => forM tg body ds l m1
theorem ms_for {tge iter : Expr} {body : List Stmt} {mi : A} {g : TG} {tg : Tg} {mb : S} {pos : Pos} (hp : PassesOwn (model X.prog X.w) X.A X.env X.xe) (hc : X.calm = true) (hi : PI X tge iter (tIt G W mi)) (hg : PG X tge g) (ht : TgS G g tg) (hb : PSs X body (tS G W mb))
    (hs : ∀ x, foldedSetIterable iter X.env x = pure x := by intro _; rfl) : PS X (.For tge iter body [] pos) (tS G W (sFor mi tg mb)) :=
  PS_imp (ps_for hp hc hi hg hb hs) fun De σ H ⟨D, adr, l, m, rm, rs, a⟩ => by
    refine ⟨D, adr, l, m, rm, rs, ?_⟩
    unfold sFor at a
    cases e1 : mi l m with
    | bad => rw [e1] at a; exact a.elim
    | exc c m1 => rw [e1] at a; exact fun H1 D1 a1 le pf rm1 => a σ H1 D1 a1 le pf rm1 (rs.mono le pf)
    | ok ds m1 =>
      rw [e1] at a
      intro J H1 D1 a1 Gs Y le pf rm1 w yl
      refine for_it w (fun i σ' H' => ∃ D' a' l' m', Le D1 D' ∧ Pf a1 a' ∧ RM G D' a' m' H' ∧ RS G D' a' l' σ' ∧ AftS G W De D' a' (forM tg mb (ds.drop i) l' m')) ⟨D1, a1, l, m1, Le.refl _, Pf.refl _, rm1, rs.mono le pf, a.mono le pf⟩ ?_ ?_ ?_
      · rintro i σ' H' hi ⟨D', a', l', m', x1, x2, x3, x4, x5⟩
        exact yl.stays D' a' m' H' x1 x2 x3
      · rintro i x σ' H' H2 hi ⟨D', a', l', m', x1, x2, x3, x4, x5⟩ y
        obtain ⟨rfl, d, D'', h1, h2, h3, h4⟩ := yl.gives i H' x H2 D' a' m' hi y x1 x2 x3
        have hdrop : ds.drop i = d :: ds.drop (i + 1) := by
          obtain ⟨hl, he⟩ := List.getElem?_eq_some_iff.mp h1
          rw [List.drop_eq_getElem_cons hl, he]
        rw [hdrop] at x5
        unfold forM at x5
        cases e2 : tg d l' with
        | none => rw [e2] at x5; exact x5.elim
        | some l1 =>
          rw [e2] at x5
          refine ht D'' a' m' H2 x d l' l1 σ' _ h3 (x4.mono h2 (Pf.refl _)) h4 e2 fun σ2 rs2 => ⟨D'', a', l1, m', h3, rs2, ?_⟩
          have x6 := x5.mono h2 (Pf.refl a')
          clear x5
          dsimp only at x6
          revert x6
          cases mb l1 m' with
          | nx l2 m2 => exact fun x6 s' H3 D3 a3 y1 y2 y3 y4 => ⟨D3, a3, l2, m2, x1.trans (h2.trans y1), x2.trans y2, y3, y4, x6.mono y1 y2⟩
          | ct l2 m2 => exact fun x6 s' H3 D3 a3 y1 y2 y3 y4 => ⟨D3, a3, l2, m2, x1.trans (h2.trans y1), x2.trans y2, y3, y4, x6.mono y1 y2⟩
          | bk l2 m2 => exact fun x6 => x6
          | rt d2 m2 => exact fun x6 => x6
          | exc c l2 m2 => exact fun x6 => x6
          | bad => exact fun x6 => x6
      · rintro σ' H' ⟨D', a', l', m', x1, x2, x3, x4, x5⟩
        rw [List.drop_length] at x5
        exact x5 σ' H' D' a' (Le.refl _) (Pf.refl _) x3 x4

/-! ### while -/
def whileM (t : T) (body : S) : Nat → S
  | 0, _, _ => .bad
  | n + 1, l, m => (t l m).out l fun b m1 => if b then (match body l m1 with
    | .nx l2 m2 => whileM t body n l2 m2
    | .ct l2 m2 => whileM t body n l2 m2
    | .bk l2 m2 => .nx l2 m2
    | .rt d m2 => .rt d m2
    | .exc c l2 m2 => .exc c l2 m2
    | .bad => .bad) else .nx l m1
def sWhile (n : Nat) (t : T) (body : S) : S := whileM t body n
theorem ms_while {c : Expr} {body : List Stmt} {mc : T} {mb : S} {pos : Pos} {n : Nat} (hp : PassesOwn (model X.prog X.w) X.A X.env X.xe) (hc : PT X c (tMT G W mc)) (hb : PSs X body (tS G W mb)) : PS X (.While c body [] pos) (tS G W (sWhile n mc mb)) :=
  PS_imp (ps_while hp hc hb) fun De σ H ⟨D, adr, l, m, rm, rs, a⟩ => by
    refine ⟨fun k σ H => ∃ D adr l m, RM G D adr m H ∧ RS G D adr l σ ∧ AftS G W De D adr (whileM mc mb k l m), ⟨n, D, adr, l, m, rm, rs, a⟩, ?_⟩
    rintro k σ H ⟨D, adr, l, m, rm, rs, a⟩
    cases k with
    | zero => exact a.elim
    | succ k =>
      unfold whileM at a
      refine stepS (rel := relT) rm rs a fun b H1 D1 a1 d m1 e1 f1 rm1 rs1 re h => ?_
      subst re
      cases b with
      | false => exact h σ H1 D1 a1 (Le.refl _) (Pf.refl _) rm1 rs1
      | true =>
        refine ⟨fun σ H => ∃ D adr l m, RM G D adr m H ∧ RS G D adr l σ ∧ AftS G W De D adr (whileM mc mb k l m), fun σ' H' p => ⟨k, Nat.lt_succ_self k, p⟩, D1, a1, l, m1, rm1, rs1, ?_⟩
        have x6 : AftS G W De D1 a1 (match mb l m1 with
          | .nx l2 m2 => whileM mc mb k l2 m2
          | .ct l2 m2 => whileM mc mb k l2 m2
          | .bk l2 m2 => .nx l2 m2
          | .rt d m2 => .rt d m2
          | .exc c l2 m2 => .exc c l2 m2
          | .bad => .bad) := h
        clear h
        revert x6
        cases mb l m1 with
        | nx l2 m2 => exact fun x6 s' H3 D3 a3 y1 y2 y3 y4 => ⟨D3, a3, l2, m2, y3, y4, x6.mono y1 y2⟩
        | ct l2 m2 => exact fun x6 s' H3 D3 a3 y1 y2 y3 y4 => ⟨D3, a3, l2, m2, y3, y4, x6.mono y1 y2⟩
        | bk l2 m2 => exact fun x6 => x6
        | rt d2 m2 => exact fun x6 => x6
        | exc c l2 m2 => exact fun x6 => x6
        | bad => exact fun x6 => x6

/-! ### comprehensions -/
def lcM (j : Nat) (t : T) (e : E) (p : Nat) : List Dv → Lc → Mem → Option Mem
  | [], _, m => some m
  | x :: r, l, m => match t ((l.set j none).set j (some x)) m with
    | .ok true m1 => match e ((l.set j none).set j (some x)) m1 with
      | .ok y m2 => match m2[p]? with
        | some (.lst acc) => if acc.length < big then lcM j t e p r l (m2.set p (.lst (acc ++ [y]))) else none
        | _ => none
      | _ => none
    | .ok false m1 => lcM j t e p r l m1
    | _ => none
open Classical in
/-- the new list as data -/
noncomputable def eLc (it : A) (j : Nat) (t : T) (e : E) : E := fun l m => (it l m).bind fun ds m1 => match lcM j t e m1.length ds l (m1 ++ [.lst []]) with
  | some m2 => match m2[m1.length]? with
    | some (.lst acc) => if m2.take m1.length = m1 ∧ clos m1.length acc = true then .ok (.lst acc) m1 else .bad
    | _ => .bad
  | none => .bad
/-- .. with a place -/
def eLcN (it : A) (j : Nat) (t : T) (e : E) : E := fun l m => (it l m).bind fun ds m1 => match lcM j t e m1.length ds l (m1 ++ [.lst []]) with
  | some m2 => .ok (.loc m1.length) m2
  | none => .bad
abbrev W0 : WX := fun _ _ _ _ => False
def tYesM : T := fun _ m => .ok true m
theorem rs_wipe {D : Hp} {adr : List Addr} {l : Lc} {j : Nat} (h : RS G D adr l σ) : RS G D adr (l.set j none) (wipe σ [j]) := by
  refine ⟨by simp [wipe, h.1], fun i d e => ?_⟩
  by_cases hij : j = i
  · subst hij
    have hl : j < l.length := by
      have := (List.getElem?_eq_some_iff.mp e).1
      simpa using this
    rw [List.getElem?_set_self hl] at e
    cases e
  · rw [List.getElem?_set_ne hij] at e
    obtain ⟨v, h1, h2⟩ := h.2 i d e
    exact ⟨v, by show (σ.set j none)[i]? = _; rw [List.getElem?_set_ne hij]; exact h1, h2⟩
/-- what the loop of a comprehension leaves -/
def LcEnd (G : Cg) (D1 : Hp) (a1 : List Addr) (m1 : Mem) (Dl : Addr) (Qd : Hp → Prop) (o : Option Mem) : Prop := match o with
  | some m2 => ∀ H' D' a', Le D1 D' → Pf (a1 ++ [Dl]) a' → RM G D' a' m2 H' → Qd H'
  | none => False
theorem LcEnd.mono {D1 : Hp} {a1 a2 : List Addr} {m1 : Mem} {Dl : Addr} {Qd : Hp → Prop} {o : Option Mem} (h : LcEnd G D1 a1 m1 Dl Qd o) : LcEnd G D1 a1 m1 Dl Qd o := h
theorem lc_walk {J : It} {Gs : Hp → Prop} {Y : Nat → Hp → V → Hp → Prop} {D1 : Hp} {a1 : List Addr} {m1 : Mem} {H1 : Hp} {l : Lc} {j : Nat} {t : T} {e : E} {ds : List Dv} {Dl : Addr} {Qd : Hp → Prop} (w : Walk J ds.length Gs Y) (yl : Yl G D1 a1 ds Gs Y) (rm1 : RM G D1 a1 m1 H1) (rs1 : RS G D1 a1 l σ) (hD : H1 Dl = none)
    (h : LcEnd G D1 a1 m1 Dl Qd (lcM j t e m1.length ds l (m1 ++ [.lst []]))) :
    ∃ Wv : Nat → Nat → Hp → Prop, (∃ m, Wv 0 m (upd H1 Dl (.lst []))) ∧ ∀ i m H, Wv i m H →
      (J.stop i H ∧ Qd H) ∨ (J.go i H ∧ ∃ Nx : Hp → Prop, (∀ H', Nx H' → ∃ m', m' < m ∧ Wv (i + 1) m' H') ∧ ∀ x H', J.yld i H x H' → gName j x (wipe σ [j]) H' fun σ2 H2 => wipe σ2 [j] = wipe σ [j] ∧ tMT G W0 t σ2 H2 fun b H3 =>
        if b = true then tM G W0 e σ2 H3 fun y H4 => ∃ acc, H4 Dl = some (.lst acc) ∧ acc.length < sizeLine ∧ Nx (upd H4 Dl (.lst (acc ++ [y]))) else Nx H3) := by
  have hlen : a1.length = m1.length := rm1.len
  have rmS : RM G D1 (a1 ++ [Dl]) (m1 ++ [.lst []]) (upd H1 Dl (.lst [])) := rm1.newM hD ⟨[], upd_same, .nil⟩
  refine lc_it w (fun i H => ∃ D' a' m', Le D1 D' ∧ Pf (a1 ++ [Dl]) a' ∧ RM G D' a' m' H ∧ LcEnd G D1 a1 m1 Dl Qd (lcM j t e m1.length (ds.drop i) l m')) ⟨D1, a1 ++ [Dl], _, Le.refl _, Pf.refl _, rmS, h⟩ ?_ ?_ ?_
  · rintro i H hi ⟨D', a', m', x1, x2, x3, x4⟩
    exact yl.stays D' a' m' H x1 (Pf.snoc.trans x2) x3
  · rintro i x H H' hi ⟨D', a', m', x1, x2, x3, x4⟩ y
    obtain ⟨rfl, d, D'', h1, h2, h3, h4⟩ := yl.gives i H x H' D' a' m' hi y x1 (Pf.snoc.trans x2) x3
    have hdrop : ds.drop i = d :: ds.drop (i + 1) := by
      obtain ⟨hl, he⟩ := List.getElem?_eq_some_iff.mp h1
      rw [List.drop_eq_getElem_cons hl, he]
    rw [hdrop] at x4
    unfold lcM at x4
    have rsW : RS G D'' a' ((l.set j none).set j (some d)) ((wipe σ [j]).set j (some x)) := (rs_wipe ((rs1.mono (x1.trans h2) (Pf.snoc.trans x2)))).set h4
    show wipe ((wipe σ [j]).set j (some x)) [j] = wipe σ [j] ∧ _
    refine ⟨by simp [wipe, List.set_set], D'', a', _, m', h3, rsW, ?_⟩
    have pD : ∀ {a2 : List Addr}, Pf a' a2 → a2[m1.length]? = some Dl := fun q => q.get (x2.get (by rw [← hlen]; simp))
    cases e1 : t ((l.set j none).set j (some d)) m' with
    | bad => rw [e1] at x4; exact x4.elim
    | exc c m2 => rw [e1] at x4; exact x4.elim
    | ok b m2 =>
      rw [e1] at x4
      intro b' H3 D3 a3 y1 y2 y3 y4
      subst y4
      cases b' with
      | false => exact ⟨D3, a3, m2, (x1.trans h2).trans y1, x2.trans y2, y3, x4⟩
      | true =>
        have x5 : LcEnd G D1 a1 m1 Dl Qd (match e ((l.set j none).set j (some d)) m2 with
          | .ok y m2 => match m2[m1.length]? with
            | some (.lst acc) => if acc.length < big then lcM j t e m1.length (ds.drop (i + 1)) l (m2.set m1.length (.lst (acc ++ [y]))) else none
            | _ => none
          | _ => none) := x4
        refine ⟨D3, a3, _, m2, y3, rsW.mono y1 y2, ?_⟩
        cases e2 : e ((l.set j none).set j (some d)) m2 with
        | bad => rw [e2] at x5; exact x5.elim
        | exc c m3 => rw [e2] at x5; exact x5.elim
        | ok y m3 =>
          rw [e2] at x5
          intro v H4 D4 a4 z1 z2 z3 z4
          dsimp only at x5
          split at x5
          · rename_i acc e3
            split at x5
            · rename_i hb
              obtain ⟨vs, q2, q3⟩ := z3.at_ _ _ _ (pD (y2.trans z2)) e3
              refine ⟨vs, q2, by rw [q3.length, ← big_eq]; exact hb, D4, a4, _, ((x1.trans h2).trans y1).trans z1, (x2.trans y2).trans z2, z3.setM (o := .lst (acc ++ [y])) (pD (y2.trans z2)) e3 trivial ⟨vs ++ [v], upd_same, q3.append (.one z4)⟩, x5⟩
            · exact x5.elim
          · exact x5.elim
  · rintro H ⟨D', a', m', x1, x2, x3, x4⟩
    rw [List.drop_length] at x4
    exact x4 H D' a' x1 x2 x3
theorem lc_D (D : Hp) (adr : List Addr) {l : Lc} {m : Mem} {it : A} {j : Nat} {t : T} {e : E} {Q : VK} (rm : RM G D adr m H) (rs : RS G D adr l σ) (a : Aft G W σ (relE G) D adr (eLc it j t e l m) Q) : tLc (tIt G W it) (gName j) (tMT G W0 t) (tM G W0 e) [j] σ H Q := by
  refine ⟨D, adr, l, m, rm, rs, ?_⟩
  unfold eLc at a
  cases e1 : it l m with
  | bad => rw [e1] at a; exact a.elim
  | exc c m1 => rw [e1] at a; exact a
  | ok ds m1 =>
    rw [e1] at a
    intro J H1 D1 a1 Gs Y le pf rm1 w yl Dl hD
    refine lc_walk w yl rm1 (rs.mono le pf) hD ?_
    have a' := a.mono le pf
    clear a
    dsimp only [Res.bind] at a'
    revert a'
    cases e2 : lcM j t e m1.length ds l (m1 ++ [.lst []]) with
    | none => exact fun a' => a'.elim
    | some m2 =>
      intro a' H' D' a2 x1 x2 x3
      dsimp only at a'
      split at a'
      · rename_i acc e3
        split at a'
        · rename_i hc
          have hlen : a1.length = m1.length := rm1.len
          have hp : a2[m1.length]? = some Dl := x2.get (by rw [← hlen]; simp)
          obtain ⟨vs, q2, q3⟩ := x3.at_ _ _ _ hp e3
          obtain ⟨rm2, hl⟩ := x3.freeze hp e3 trivial q2
          have ht : (m2.set m1.length .dead).take m1.length = m1 := by
            rw [List.take_set_of_le (Nat.le_refl _)]
            exact hc.1
          exact a' (.ref Dl) H' (upd D' Dl (.lst vs)) a1 (x1.trans hl) (Pf.refl _) (rm1.back rm2 (Pf.snoc.trans x2) ht) (.lst upd_same (Reps.back (Pf.snoc.trans x2) _ _ (by rw [hlen]; exact hc.2) (Reps.mono hl (Pf.refl _) _ _ q3)))
        · exact a'.elim
      · exact a'.elim
theorem lc_N (D : Hp) (adr : List Addr) {l : Lc} {m : Mem} {it : A} {j : Nat} {t : T} {e : E} {Q : VK} (rm : RM G D adr m H) (rs : RS G D adr l σ) (a : Aft G W σ (relE G) D adr (eLcN it j t e l m) Q) : tLc (tIt G W it) (gName j) (tMT G W0 t) (tM G W0 e) [j] σ H Q := by
  refine ⟨D, adr, l, m, rm, rs, ?_⟩
  unfold eLcN at a
  cases e1 : it l m with
  | bad => rw [e1] at a; exact a.elim
  | exc c m1 => rw [e1] at a; exact a
  | ok ds m1 =>
    rw [e1] at a
    intro J H1 D1 a1 Gs Y le pf rm1 w yl Dl hD
    refine lc_walk w yl rm1 (rs.mono le pf) hD ?_
    have a' := a.mono le pf
    clear a
    dsimp only [Res.bind] at a'
    revert a'
    cases e2 : lcM j t e m1.length ds l (m1 ++ [.lst []]) with
    | none => exact fun a' => a'.elim
    | some m2 =>
      intro a' H' D' a2 x1 x2 x3
      exact a' (.ref Dl) H' D' a2 x1 (Pf.snoc.trans x2) x3 (.loc (x2.get (by rw [← rm1.len]; simp)))
theorem me_lc {elt tg iter : Expr} {ifs : List Expr} {scope : Scope} {x : Str} {j : Nat} {pos : Pos} {mi : A} {mt : T} {me : E} (hc : X.calm = true) (hN : X.N.Nodup) (hi : PI X tg iter (tIt G W mi)) (ok : BlkOk X.N X.env.scope scope [(x, j)])
    (hg : ∀ (s : Shared) (H : Hp) (C : Addr) (cl : List (Str × Addr)) (fp : List Addr), PG (X.blk s H scope (compEnvC scope cl C X.env) fp) tg (gName j)) (ht : ∀ (s : Shared) (H : Hp) (C : Addr) (cl : List (Str × Addr)) (fp : List Addr), PTs (X.blk s H scope (compEnvC scope cl C X.env) fp) ifs (tMT G W0 mt))
    (he : ∀ (s : Shared) (H : Hp) (C : Addr) (cl : List (Str × Addr)) (fp : List Addr), PE (X.blk s H scope (compEnvC scope cl C X.env) fp) elt (tM G W0 me)) (hs : ∀ x, foldedSetIterable iter X.env x = pure x := by intro _; rfl) :
    PE X (.ListComp elt [⟨tg, iter, ifs, 0⟩] scope pos) (tM G W (eLc mi j mt me)) :=
  PE_imp (pe_lc hc hN hi ok hg ht he hs) fun σ H Q ⟨D, adr, l, m, rm, rs, a⟩ => lc_D D adr rm rs a
theorem me_lcN {elt tg iter : Expr} {ifs : List Expr} {scope : Scope} {x : Str} {j : Nat} {pos : Pos} {mi : A} {mt : T} {me : E} (hc : X.calm = true) (hN : X.N.Nodup) (hi : PI X tg iter (tIt G W mi)) (ok : BlkOk X.N X.env.scope scope [(x, j)])
    (hg : ∀ (s : Shared) (H : Hp) (C : Addr) (cl : List (Str × Addr)) (fp : List Addr), PG (X.blk s H scope (compEnvC scope cl C X.env) fp) tg (gName j)) (ht : ∀ (s : Shared) (H : Hp) (C : Addr) (cl : List (Str × Addr)) (fp : List Addr), PTs (X.blk s H scope (compEnvC scope cl C X.env) fp) ifs (tMT G W0 mt))
    (he : ∀ (s : Shared) (H : Hp) (C : Addr) (cl : List (Str × Addr)) (fp : List Addr), PE (X.blk s H scope (compEnvC scope cl C X.env) fp) elt (tM G W0 me)) (hs : ∀ x, foldedSetIterable iter X.env x = pure x := by intro _; rfl) :
    PE X (.ListComp elt [⟨tg, iter, ifs, 0⟩] scope pos) (tM G W (eLcN mi j mt me)) :=
  PE_imp (pe_lc hc hN hi ok hg ht he hs) fun σ H Q ⟨D, adr, l, m, rm, rs, a⟩ => lc_N D adr rm rs a
/-- name = [..] -/
theorem ms_setLc {i : Nat} {y : Str} {py : Pos} {elt tg iter : Expr} {ifs : List Expr} {scope : Scope} {x : Str} {j : Nat} {pos spos : Pos} {mi : A} {mt : T} {me : E} (hc : X.calm = true) (hN : X.N.Nodup) (hy : X.N[i]? = some y) (hyl : X.env.scope.names.lookup y = some .local)
    (hsw : swapsWith (.ListComp elt [⟨tg, iter, ifs, 0⟩] scope pos) (some (.Name y py)) spos.line X.env = pure true) (hi : PI X tg iter (tIt G W mi)) (ok : BlkOk X.N X.env.scope scope [(x, j)])
    (hg : ∀ (s : Shared) (H : Hp) (C : Addr) (cl : List (Str × Addr)) (fp : List Addr), PG (X.blk s H scope (compEnvC scope cl C X.env) fp) tg (gName j)) (ht : ∀ (s : Shared) (H : Hp) (C : Addr) (cl : List (Str × Addr)) (fp : List Addr), PTs (X.blk s H scope (compEnvC scope cl C X.env) fp) ifs (tMT G W0 mt))
    (he : ∀ (s : Shared) (H : Hp) (C : Addr) (cl : List (Str × Addr)) (fp : List Addr), PE (X.blk s H scope (compEnvC scope cl C X.env) fp) elt (tM G W0 me)) (hs : ∀ x, foldedSetIterable iter X.env x = pure x := by intro _; rfl) :
    PS X (.Assign [.Name y py] (.ListComp elt [⟨tg, iter, ifs, 0⟩] scope pos) spos) (tS G W (sSet i (eLc mi j mt me))) :=
  PS_imp (ps_setLc hc hN hy hyl hsw hi ok hg ht he hs) fun De σ H ⟨D, adr, l, m, rm, rs, a⟩ => by
    show tLc (tIt G W mi) (gName j) (tMT G W0 mt) (tM G W0 me) [j] σ H (fun v H1 => gName i v σ H1 De.nx)
    refine lc_D D adr rm rs ?_
    unfold sSet at a
    revert a
    cases eLc mi j mt me l m with
    | bad => exact fun a => a.elim
    | exc c m1 => exact fun a H1 D1 a1 le pf rm1 => a σ H1 D1 a1 le pf rm1 (rs.mono le pf)
    | ok d m1 => exact fun a v H1 D1 a1 le pf rm1 r => a _ H1 D1 a1 le pf rm1 ((rs.mono le pf).set r)
theorem ms_setLcN {i : Nat} {y : Str} {py : Pos} {elt tg iter : Expr} {ifs : List Expr} {scope : Scope} {x : Str} {j : Nat} {pos spos : Pos} {mi : A} {mt : T} {me : E} (hc : X.calm = true) (hN : X.N.Nodup) (hy : X.N[i]? = some y) (hyl : X.env.scope.names.lookup y = some .local)
    (hsw : swapsWith (.ListComp elt [⟨tg, iter, ifs, 0⟩] scope pos) (some (.Name y py)) spos.line X.env = pure true) (hi : PI X tg iter (tIt G W mi)) (ok : BlkOk X.N X.env.scope scope [(x, j)])
    (hg : ∀ (s : Shared) (H : Hp) (C : Addr) (cl : List (Str × Addr)) (fp : List Addr), PG (X.blk s H scope (compEnvC scope cl C X.env) fp) tg (gName j)) (ht : ∀ (s : Shared) (H : Hp) (C : Addr) (cl : List (Str × Addr)) (fp : List Addr), PTs (X.blk s H scope (compEnvC scope cl C X.env) fp) ifs (tMT G W0 mt))
    (he : ∀ (s : Shared) (H : Hp) (C : Addr) (cl : List (Str × Addr)) (fp : List Addr), PE (X.blk s H scope (compEnvC scope cl C X.env) fp) elt (tM G W0 me)) (hs : ∀ x, foldedSetIterable iter X.env x = pure x := by intro _; rfl) :
    PS X (.Assign [.Name y py] (.ListComp elt [⟨tg, iter, ifs, 0⟩] scope pos) spos) (tS G W (sSet i (eLcN mi j mt me))) :=
  PS_imp (ps_setLc hc hN hy hyl hsw hi ok hg ht he hs) fun De σ H ⟨D, adr, l, m, rm, rs, a⟩ => by
    show tLc (tIt G W mi) (gName j) (tMT G W0 mt) (tM G W0 me) [j] σ H (fun v H1 => gName i v σ H1 De.nx)
    refine lc_N D adr rm rs ?_
    unfold sSet at a
    revert a
    cases eLcN mi j mt me l m with
    | bad => exact fun a => a.elim
    | exc c m1 => exact fun a H1 D1 a1 le pf rm1 => a σ H1 D1 a1 le pf rm1 (rs.mono le pf)
    | ok d m1 => exact fun a v H1 D1 a1 le pf rm1 r => a _ H1 D1 a1 le pf rm1 ((rs.mono le pf).set r)
theorem mts_nil : PTs X [] (tMT G W tYesM) := ⟨fun pins s σ H Q I ⟨D, adr, l, m, rm, rs, a⟩ => pts_nil.run pins s σ H Q I (show tYes σ H Q from a.ok rm rfl)⟩
theorem mts_one {c : Expr} {mt : T} (h : PT X c (tMT G W mt)) : PTs X [c] (tMT G W mt) := pts_one h
end
end Sn
/-! Sn6 -/
set_option Elab.async false
set_option linter.all false
set_option maxRecDepth 100000
set_option autoImplicit false
set_option maxHeartbeats 1000000
/-! Sn6: methods of lists, dicts, texts; built-in functions -/
namespace Sn
open PySem PySem.Spec PyProof.Rows L2

section
variable {G : Cg} {X : Cx} {W : WX} {σ : L2.St} {H : Hp} {D : Hp} {adr : List Addr} {m : Mem}

/-! ### built-in functions, by the rules of Sn3 -/
theorem me_callB {id : String} {r : List V → Hp → VK → Prop} {f : List Dv → Mem → Res Dv} {x : Str} {p pos : Pos} {e : Expr} {es : List Expr} {ms : A} (s : CaS G r f) (hc : CallR X (.builtin id) r) (hg : Gl X x) (hm : X.mg x = none) (hv : bootBuiltins x = some (.builtin id)) (ha : PA X (e :: es) (tMA G W ms)) (hn : x ≠ "__name__" := by decide)
    (hdb : (x == ("__debug__" : Str)) = false := by decide) (he : starEach (e :: es) X.env = (false, eval e X.env) :: starEach es X.env := by rfl) (hpl : (backTo pos (starEach es X.env)).any (·.1) = false := by rfl) : PE X (.Call (.Name x p) (e :: es) [] pos) (tM G W (eMk f ms)) :=
  PE_imp (pe_callB hc hg hm hv ha hn hdb he hpl) (cb_imp s)
theorem me_callTy {T : String} {r : List V → Hp → VK → Prop} {f : List Dv → Mem → Res Dv} {x : Str} {p pos : Pos} {e : Expr} {es : List Expr} {ms : A} (s : CaS G r f) (hc : CallR X (.type T) r) (hg : Gl X x) (hm : X.mg x = none) (hv : bootBuiltins x = some (.type T)) (ha : PA X (e :: es) (tMA G W ms)) (hn : x ≠ "__name__" := by decide)
    (hdb : (x == ("__debug__" : Str)) = false := by decide) (he : starEach (e :: es) X.env = (false, eval e X.env) :: starEach es X.env := by rfl) (hpl : (backTo pos (starEach es X.env)).any (·.1) = false := by rfl) : PE X (.Call (.Name x p) (e :: es) [] pos) (tM G W (eMk f ms)) :=
  PE_imp (pe_callTy hc hg hm hv ha hn hdb he hpl) (cb_imp s)
theorem b_len : bootBuiltins "len" = some (.builtin "len") := by decide +kernel
theorem b_abs : bootBuiltins "abs" = some (.builtin "abs") := by decide +kernel
theorem b_max : bootBuiltins "max" = some (.builtin "max") := by decide +kernel
theorem b_min : bootBuiltins "min" = some (.builtin "min") := by decide +kernel
theorem b_all : bootBuiltins "all" = some (.builtin "all") := by decide +kernel
theorem b_sorted : bootBuiltins "sorted" = some (.builtin "sorted") := by decide +kernel
theorem b_list : bootBuiltins "list" = some (.type "list") := by decide +kernel
theorem b_tuple : bootBuiltins "tuple" = some (.type "tuple") := by decide +kernel
theorem b_int : bootBuiltins "int" = some (.type "int") := by decide +kernel
theorem b_bool : bootBuiltins "bool" = some (.type "bool") := by decide +kernel
theorem b_str : bootBuiltins "str" = some (.type "str") := by decide +kernel
theorem b_dict : bootBuiltins "dict" = some (.type "dict") := by decide +kernel
/-- all([..]) -/
def rAll (K : PySem.W.Frag) : List V → Hp → VK → Prop := fun vs H Q => ∃ (a : Addr) (bs : List Bool), vs = [V.ref a] ∧ SqL K H a (bs.map V.bl) ∧ Q (.bl (bs.all id)) H
theorem allD_s : CaS G (rAll G.K) allD := fun D adr m H xs ds rm r σ W Q a => by
  unfold allD at a
  split at a
  · obtain ⟨v, rfl, q⟩ := r.one_inv
    split at a
    · rename_i bs e
      obtain ⟨es, h1, h2⟩ := Option.bind_eq_some_iff.mp e
      obtain ⟨p, vs, rfl, h3, h4⟩ := rm.sq q h1
      rw [bls_v h4 h2] at h3
      exact ⟨p, bs, rfl, h3, a.ok rm (.bl _)⟩
    · exact a.elim
  · exact a.elim

/-! ### a list's truth -/
def tTruth (e : E) : T := fun l m => (e l m).bind fun d m1 => match sq m1 d with
  | some ds => .ok (!ds.isEmpty) m1
  | none => .bad
theorem mt_truth {a : Expr} {ma : E} (hk : X.K = G.K) (ha : PE X a (tM G W ma)) (he : ∀ whole, isTrue a X.env whole = (do let v ← whole; standAt a.pos; holding [v] (truthy v)) := by intro _; rfl) : PT X a (tMT G W (tTruth ma)) := by
  refine PT_imp (pt_truth ha he) fun σ H Q ⟨D, adr, l, m, rm, rs, a⟩ => ?_
  refine step (rel := relE G) rm rs a fun v H1 D1 a1 d m1 e1 f1 rm1 rs1 r b => ?_
  split at b
  · rename_i ds e
    obtain ⟨p, vs, rfl, h1, h2⟩ := rm1.sq r e
    refine ⟨_, .inl ⟨vs, by rw [hk]; exact h1, rfl⟩, ?_⟩
    have : (!vs.isEmpty) = !ds.isEmpty := by
      have := h2.length
      cases vs <;> cases ds <;> first | rfl | simp at this
    rw [this]
    exact b.ok rm1 rfl
  · exact b.elim

/-! ### methods of lists -/
def lAt (m : Mem) (d : Dv) : Option (Nat × List Dv) := match d with
  | .loc n => match m[n]? with
    | some (.lst ds) => some (n, ds)
    | _ => none
  | _ => none
theorem RM.lAt {v : V} {d : Dv} {n : Nat} {ds : List Dv} (rm : RM G D adr m H) (r : Rep G D adr v d) (e : lAt m d = some (n, ds)) : ∃ p vs, v = .ref p ∧ adr[n]? = some p ∧ m[n]? = some (.lst ds) ∧ H p = some (.lst vs) ∧ Reps G D adr vs ds := by
  unfold Sn.lAt at e
  split at e
  · split at e
    · rename_i h
      cases e
      obtain ⟨a, rfl, h1, vs, h2, h3⟩ := rm.of_loc r h
      exact ⟨a, vs, rfl, h1, h, h2, h3⟩
    · cases e
  · cases e
def eApp (o e : E) : E := fun l m => (o l m).bind fun x m1 => match lAt m1 x with
  | some _ => (e l m1).bind fun y m2 => (match lAt m2 x with
    | some (n, ds) => if ds.length < big then .ok .non (m2.set n (.lst (ds ++ [y]))) else .bad
    | none => .bad)
  | none => .bad
theorem me_app {o e : Expr} {mo me : E} {apos cpos : Pos} (hk : X.K = G.K) (ho : PE X o (tM G W mo)) (he : PE X e (tM G W me))
    (hs : starEach [e] X.env = (false, eval e X.env) :: starEach [] X.env := by rfl) (h : ∀ {t : TA}, PA X [e] t → PE X (.Call (.Attribute o "append" apos) [e] [] cpos) (tBM X.K "list" rAppend (tM G W mo) t)) :
    PE X (.Call (.Attribute o "append" apos) [e] [] cpos) (tM G W (eApp mo me)) := by
  refine PE_imp (h (pa_cons he pa_nil hs)) fun σ H Q ⟨D, adr, l, m, rm, rs, a⟩ => ?_
  rw [hk]
  refine step rm rs a fun x H1 D1 a1 dx m1 e1 f1 rm1 rs1 rx b => ?_
  split at b
  · rename_i q hq
    obtain ⟨n, ds⟩ := q
    obtain ⟨p, vs, rfl, h1, h2, h3, h4⟩ := rm1.lAt rx hq
    refine ⟨.inl ⟨rfl, vs, SqL.of h3⟩, ?_⟩
    refine step rm1 rs1 b fun y H2 D2 a2 dy m2 e2 f2 rm2 rs2 ry c => ?_
    split at c
    · rename_i n' ds' hq'
      split at c
      · rename_i hb
        obtain ⟨p', vs', hp', h1', h2', h3', h4'⟩ := rm2.lAt (rx.mono e2 f2) hq'
        cases hp'
        exact ⟨p, vs', y, rfl, rfl, h3', by rw [h4'.length, ← big_eq]; exact hb, c.ok (rm2.setM (o := .lst (ds' ++ [dy])) h1' h2' trivial ⟨_, upd_same, h4'.append (.one ry)⟩) .non⟩
      · exact c.elim
    · exact c.elim
  · exact b.elim
def ePop (o : E) : E := fun l m => (o l m).bind fun x m1 => match lAt m1 x with
  | some (n, ds) => (match ds[ds.length - 1]? with
    | some y => .ok y (m1.set n (.lst ds.dropLast))
    | none => .bad)
  | none => .bad
theorem me_pop {o : Expr} {mo : E} {apos cpos : Pos} (hk : X.K = G.K) (h : PE X (.Call (.Attribute o "pop" apos) [] [] cpos) (tBM0 X.K "list" rPop (tM G W mo))) : PE X (.Call (.Attribute o "pop" apos) [] [] cpos) (tM G W (ePop mo)) := by
  refine PE_imp h fun σ H Q ⟨D, adr, l, m, rm, rs, a⟩ => ?_
  rw [hk]
  refine step rm rs a fun x H1 D1 a1 dx m1 e1 f1 rm1 rs1 rx b => ?_
  split at b
  · rename_i n ds hq
    split at b
    · rename_i y hy
      obtain ⟨p, vs, rfl, h1, h2, h3, h4⟩ := rm1.lAt rx hq
      obtain ⟨v, h5, h6⟩ := h4.get hy
      exact ⟨.inl ⟨rfl, vs, SqL.of h3⟩, p, vs, v, rfl, rfl, h3, by rw [h4.length]; exact h5, b.ok (rm1.setM (o := .lst ds.dropLast) h1 h2 trivial ⟨_, upd_same, h4.dropLast⟩) h6⟩
    · exact b.elim
  · exact b.elim
/-- xs[i] = e -/
def sSetIx (o i e : E) : S := fun l m => (e l m).out l fun y m1 => (o l m1).out l fun x m2 => (i l m2).out l fun k m3 => match lAt m3 x, k with
  | some (n, ds), .int k => (match ixN ds.length k with
    | some j => .nx l (m3.set n (.lst (ds.set j y)))
    | none => .bad)
  | _, _ => .bad
theorem ms_setIx {o i e : Expr} {mo mi me : E} {spos pos : Pos} (h : PS X (.Assign [.Subscript o i spos] e pos) (tAsg (tM G W me) (gSub (tM G W mo) (tM G W mi) rSetL))) : PS X (.Assign [.Subscript o i spos] e pos) (tS G W (sSetIx mo mi me)) :=
  PS_imp h fun De σ H ⟨D, adr, l, m, rm, rs, a⟩ => stepS rm rs a fun y H1 D1 a1 dy m1 e1 f1 rm1 rs1 ry b => stepS rm1 rs1 b fun x H2 D2 a2 dx m2 e2 f2 rm2 rs2 rx c => stepS rm2 rs2 c fun k H3 D3 a3 dk m3 e3 f3 rm3 rs3 rk d => by
    split at d
    · rename_i n ds k' hq
      split at d
      · rename_i j hj
        obtain ⟨p, vs, hp, h1, h2, h3, h4⟩ := rm3.lAt (rx.mono e3 f3) hq
        subst hp
        exact ⟨p, vs, k', j, rfl, rk.int_inv, h3, by rw [h4.length]; exact hj, d σ _ D3 a3 (Le.refl _) (Pf.refl _) (rm3.setM (o := .lst (ds.set j dy)) h1 h2 trivial ⟨_, upd_same, h4.set j ((ry.mono e2 f2).mono e3 f3)⟩) rs3⟩
      · exact d.elim
    · exact d.elim

/-! ### dicts -/
section
variable {κ : Type} [DecidableEq κ] {α : Type}
def valG (kvs : List (κ × α)) (k : κ) : Option α := (kvs.find? fun kv => decide (kv.1 = k)).map (·.2)
def putG (kvs : List (κ × α)) (k : κ) (v : α) : List (κ × α) :=
  if (kvs.any fun kv => decide (kv.1 = k)) = true then kvs.map (fun kv => if kv.1 = k then (kv.1, v) else kv) else kvs ++ [(k, v)]
def dropG (kvs : List (κ × α)) (k : κ) : List (κ × α) := kvs.filter fun kv => decide (kv.1 ≠ k)
variable {K : Cg}
theorem KReps.cons {a b : κ} {v : V} {d : Dv} {kvs : List (κ × V)} {kds : List (κ × Dv)} (h : KReps K D adr ((a, v) :: kvs) ((b, d) :: kds)) : a = b ∧ Rep K D adr v d ∧ KReps K D adr kvs kds := by
  obtain ⟨h1, h2⟩ := h
  simp only [List.map_cons, List.cons.injEq] at h1
  cases h2 with
  | cons q r => exact ⟨h1.1, q, h1.2, r⟩
theorem KReps.mk {a : κ} {v : V} {d : Dv} {kvs : List (κ × V)} {kds : List (κ × Dv)} (q : Rep K D adr v d) (h : KReps K D adr kvs kds) : KReps K D adr ((a, v) :: kvs) ((a, d) :: kds) :=
  ⟨by simp [h.1], .cons q h.2⟩
theorem KReps.length {kvs : List (κ × V)} {kds : List (κ × Dv)} (h : KReps K D adr kvs kds) : kvs.length = kds.length := by
  have := congrArg List.length h.1
  simpa using this
theorem KReps.val : ∀ {kvs : List (κ × V)} {kds : List (κ × Dv)} (k : κ), KReps K D adr kvs kds → (∀ d, valG kds k = some d → ∃ v, valV kvs k = some v ∧ Rep K D adr v d) ∧ (valG kds k = none → valV kvs k = none)
  | [], [], k, _ => ⟨fun d e => (by cases e), fun _ => rfl⟩
  | [], _ :: _, k, h => (by have := h.length; simp at this)
  | _ :: _, [], k, h => (by have := h.length; simp at this)
  | (a, v) :: kvs, (b, d) :: kds, k, h => by
    obtain ⟨rfl, q, r⟩ := h.cons
    by_cases e : a = k
    · refine ⟨fun d' e' => ?_, fun e' => ?_⟩
      · have : valG ((a, d) :: kds) k = some d := by simp [valG, List.find?_cons, e]
        rw [this] at e'
        cases e'
        exact ⟨v, valV_pos e, q⟩
      · have : valG ((a, d) :: kds) k = some d := by simp [valG, List.find?_cons, e]
        rw [this] at e'
        cases e'
    · have h1 : valG ((a, d) :: kds) k = valG kds k := by simp [valG, List.find?_cons, e]
      rw [h1, valV_neg (p := (a, v)) e]
      exact KReps.val k r
theorem KReps.any : ∀ {kvs : List (κ × V)} {kds : List (κ × Dv)} (k : κ), KReps K D adr kvs kds → (kvs.any fun kv => decide (kv.1 = k)) = (kds.any fun kv => decide (kv.1 = k))
  | [], [], k, _ => rfl
  | [], _ :: _, k, h => (by have := h.length; simp at this)
  | _ :: _, [], k, h => (by have := h.length; simp at this)
  | (a, v) :: kvs, (b, d) :: kds, k, h => by
    obtain ⟨rfl, q, r⟩ := h.cons
    rw [List.any_cons, List.any_cons, KReps.any k r]
theorem KReps.repl : ∀ {kvs : List (κ × V)} {kds : List (κ × Dv)} (k : κ) {v : V} {d : Dv}, KReps K D adr kvs kds → Rep K D adr v d → KReps K D adr (kvs.map fun kv => if kv.1 = k then (kv.1, v) else kv) (kds.map fun kv => if kv.1 = k then (kv.1, d) else kv)
  | [], [], k, _, _, h, _ => h
  | [], _ :: _, k, _, _, h, _ => (by have := h.length; simp at this)
  | _ :: _, [], k, _, _, h, _ => (by have := h.length; simp at this)
  | (a, v) :: kvs, (b, d) :: kds, k, v', d', h, q' => by
    obtain ⟨rfl, q, r⟩ := h.cons
    have ih := KReps.repl k r q'
    rw [List.map_cons, List.map_cons]
    by_cases e : a = k
    · simp only [e, if_true]
      exact .mk q' ih
    · simp only [e, if_false]
      exact .mk q ih
theorem KReps.put {kvs : List (κ × V)} {kds : List (κ × Dv)} (k : κ) {v : V} {d : Dv} (h : KReps K D adr kvs kds) (q : Rep K D adr v d) : KReps K D adr (putK kvs k v) (putG kds k d) := by
  unfold putK putG
  rw [h.any k]
  split
  · exact h.repl k q
  · refine ⟨by simp [h.1], ?_⟩
    rw [List.map_append, List.map_append]
    exact h.2.append (.one q)
theorem KReps.drop : ∀ {kvs : List (κ × V)} {kds : List (κ × Dv)} (k : κ), KReps K D adr kvs kds → KReps K D adr (dropK kvs k) (dropG kds k)
  | [], [], k, h => h
  | [], _ :: _, k, h => (by have := h.length; simp at this)
  | _ :: _, [], k, h => (by have := h.length; simp at this)
  | (a, v) :: kvs, (b, d) :: kds, k, h => by
    obtain ⟨rfl, q, r⟩ := h.cons
    have ih := KReps.drop k r
    unfold dropK dropG at ih ⊢
    by_cases e : a = k
    · rw [List.filter_cons_of_neg (by simp [e]), List.filter_cons_of_neg (by simp [e])]
      exact ih
    · rw [List.filter_cons_of_pos (by simp [e]), List.filter_cons_of_pos (by simp [e])]
      exact .mk q ih
end
/-- a value as a key -/
def keyD : Dv → Option Key
  | .int i => some (.inl i)
  | .str s => some (.inr s)
  | _ => none
def keysD : List Dv → Option (List Key)
  | [] => some []
  | d :: r => match keyD d, keysD r with
    | some k, some ks => some (k :: ks)
    | _, _ => none
def keyT : Dv → Option (List Key)
  | .tup ds => keysD ds
  | _ => none
theorem keyD_v {v : V} {d : Dv} {k : Key} (r : Rep G D adr v d) (e : keyD d = some k) : v = kV k := by
  unfold keyD at e
  split at e <;> cases e <;> cases r <;> rfl
theorem keysD_v : ∀ {ds : List Dv} {vs : List V} {ks : List Key}, Reps G D adr vs ds → keysD ds = some ks → vs = ks.map kV
  | [], _, _, r, e => by cases r; cases e; rfl
  | d :: ds, _, _, r, e => by
    cases r with
    | cons q s =>
      unfold keysD at e
      split at e
      · rename_i k ks h1 h2
        cases e
        rw [keyD_v q h1, keysD_v s h2] <;> rfl
      · cases e
inductive Dd where
  | k (kds : List (Key × Dv))
  | t (kds : List (List Key × Dv))
def dcAt (m : Mem) : Dv → Option Dd
  | .loc n => match m[n]? with
    | some (.dic kds) => some (.k kds)
    | some (.dit kds) => some (.t kds)
    | some (.lck kds) => some (.k kds)
    | some (.lct kds) => some (.t kds)
    | _ => none
  | .dic ks ds => some (.k (ks.zip ds))
  | .dit ks ds => some (.t (ks.zip ds))
  | _ => none
theorem zip_mapG {κ β γ : Type} : ∀ (r : List (κ × β)) (ds : List γ), r.length = ds.length → ((r.map (·.1)).zip ds).map (·.1) = r.map (·.1) ∧ ((r.map (·.1)).zip ds).map (·.2) = ds
  | [], [], _ => ⟨rfl, rfl⟩
  | [], _ :: _, h => by simp at h
  | _ :: _, [], h => by simp at h
  | p :: r, d :: ds, h => by
    obtain ⟨h1, h2⟩ := zip_mapG r ds (by simpa using h)
    simp [h1, h2]
theorem dkat_rd {a : Addr} {kvs : List (Key × V)} (h : DkAt D a kvs) : Rd D a (.dK kvs) := h
theorem dtat_rd {a : Addr} {kvs : List (List Key × V)} (h : DtAt D a kvs) : Rd D a (.dT kvs) := h
theorem RM.dc_k {v : V} {d : Dv} {kds : List (Key × Dv)} (rm : RM G D adr m H) (r : Rep G D adr v d) (e : dcAt m d = some (.k kds)) : ∃ p kvs, v = .ref p ∧ Rd H p (.dK kvs) ∧ KReps G D adr kvs kds := by
  unfold dcAt at e
  split at e
  · split at e
    · rename_i h
      cases e
      obtain ⟨a, rfl, h1, kvs, h2, h3⟩ := rm.of_loc r h
      exact ⟨a, kvs, rfl, .inl h2, h3⟩
    · cases e
    · rename_i h
      cases e
      obtain ⟨a, rfl, h1, kvs, ob, h2, h3⟩ := rm.of_loc r h
      exact ⟨a, kvs, rfl, .inr ⟨ob, rm.le _ _ h2⟩, h3⟩
    · cases e
    · cases e
  · cases r
  · cases e
  · cases e
theorem RM.dc_t {v : V} {d : Dv} {kds : List (List Key × Dv)} (rm : RM G D adr m H) (r : Rep G D adr v d) (e : dcAt m d = some (.t kds)) : ∃ p kvs, v = .ref p ∧ Rd H p (.dT kvs) ∧ KReps G D adr kvs kds := by
  unfold dcAt at e
  split at e
  · split at e
    · cases e
    · rename_i h
      cases e
      obtain ⟨a, rfl, h1, kvs, h2, h3⟩ := rm.of_loc r h
      exact ⟨a, kvs, rfl, .inl h2, h3⟩
    · cases e
    · rename_i h
      cases e
      obtain ⟨a, rfl, h1, kvs, ob, h2, h3⟩ := rm.of_loc r h
      exact ⟨a, kvs, rfl, .inr ⟨ob, rm.le _ _ h2⟩, h3⟩
    · cases e
  · cases e
  · cases r
  · cases e
/-- what a dict holds at a key: none, where it is no dict or no key of it -/
def dgetD (m : Mem) (x y : Dv) : Option (Option Dv) := match dcAt m x with
  | some (.k kds) => (keyD y).map (valG kds)
  | some (.t kds) => (keyT y).map (valG kds)
  | none => none
theorem RM.dget {x y : V} {dx dy : Dv} {o : Option Dv} (rm : RM G D adr m H) (rx : Rep G D adr x dx) (ry : Rep G D adr y dy) (e : dgetD m dx dy = some o) :
    ∃ a o', x = .ref a ∧ DGet H a y o' ∧ (∀ d, o = some d → ∃ v, o' = some v ∧ Rep G D adr v d) ∧ (o = none → o' = none) := by
  unfold dgetD at e
  split at e
  · rename_i kds h
    obtain ⟨k, h1, h2⟩ := Option.map_eq_some_iff.mp e
    obtain ⟨p, kvs, rfl, h3, h4⟩ := rm.dc_k rx h
    subst h2
    exact ⟨p, valV kvs k, rfl, .inl ⟨kvs, k, h3, keyD_v ry h1, rfl⟩, (h4.val k).1, (h4.val k).2⟩
  · rename_i kds h
    obtain ⟨k, h1, h2⟩ := Option.map_eq_some_iff.mp e
    obtain ⟨p, kvs, rfl, h3, h4⟩ := rm.dc_t rx h
    subst h2
    unfold keyT at h1
    split at h1
    · obtain ⟨b, vs, rfl, h5, h6⟩ := rm.tq ry rfl
      rw [keysD_v h6 h1] at h5
      exact ⟨p, valV kvs k, rfl, .inr ⟨kvs, k, b, h3, rfl, h5, rfl⟩, (h4.val k).1, (h4.val k).2⟩
    · cases h1
  · cases e
theorem RM.isD {x : V} {dx : Dv} {z : Dd} (rm : RM G D adr m H) (rx : Rep G D adr x dx) (e : dcAt m dx = some z) : ∃ a, x = .ref a ∧ IsD H a := by
  cases z with
  | k kds => obtain ⟨p, kvs, rfl, h, _⟩ := rm.dc_k rx e; exact ⟨p, rfl, .inl ⟨kvs, h⟩⟩
  | t kds => obtain ⟨p, kvs, rfl, h, _⟩ := rm.dc_t rx e; exact ⟨p, rfl, .inr ⟨kvs, h⟩⟩
/-- {} -/
def eNewK : E := fun _ m => .ok (.loc m.length) (m ++ [.dic []])
def eNewT : E := fun _ m => .ok (.loc m.length) (m ++ [.dit []])
theorem me_newK {pos : Pos} : PE X (.Dict [] [] pos) (tM G W eNewK) := PE_imp pe_dnewK fun σ H Q ⟨D, adr, l, m, rm, rs, a⟩ => by
  show ∀ p, H p = none → Q (.ref p) (upd H p (.dK []))
  exact fun p hp => a _ _ D (adr ++ [p]) (Le.refl D) Pf.snoc (rm.newM hp ⟨[], upd_same, rfl, .nil⟩) (.loc (by rw [← rm.len]; simp))
theorem me_newT {pos : Pos} : PE X (.Dict [] [] pos) (tM G W eNewT) := PE_imp pe_dnewT fun σ H Q ⟨D, adr, l, m, rm, rs, a⟩ => by
  show ∀ p, H p = none → Q (.ref p) (upd H p (.dT []))
  exact fun p hp => a _ _ D (adr ++ [p]) (Le.refl D) Pf.snoc (rm.newM hp ⟨[], upd_same, rfl, .nil⟩) (.loc (by rw [← rm.len]; simp))
/-- {k: v}, one entry (a text or a number), as in the program -/
def eDisp1 (k : Key) (e : E) : E := fun l m => (e l (m ++ [.dic []])).bind fun d m1 => match m1[m.length]? with
  | some (.dic []) => .ok (.loc m.length) (m1.set m.length (.dic [(k, d)]))
  | _ => .bad
theorem me_disp1 {k v : Expr} {pos : Pos} {key : Key} {me : E} (hk : PE X k (tC (kV key))) (hv : PE X v (tM G W me)) (h : ∀ {trs : List (TE × TE)}, PPs X pos [some k] [v] trs → PE X (.Dict [some k] [v] pos) (tDisp trs)) : PE X (.Dict [some k] [v] pos) (tM G W (eDisp1 key me)) := by
  refine PE_imp (h (pps_cons hk hv pps_nil)) fun σ H Q ⟨D, adr, l, m, rm, rs, a⟩ => ?_
  show ∀ p, H p = none → _
  intro p hp
  have rm1 : RM G D (adr ++ [p]) (m ++ [.dic []]) (upd H p (.dK [])) := rm.newM hp ⟨[], upd_same, rfl, .nil⟩
  have hlen := rm.len
  show tM G W me σ (upd H p (.dK [])) _
  refine step (rel := relE G) rm1 (rs.mono (Le.refl _) Pf.snoc) (a.mono (Le.refl _) Pf.snoc) fun v H1 D1 a1 d m1 e1 f1 rm2 rs2 r b => ?_
  split at b
  · rename_i h2
    have hp1 : a1[m.length]? = some p := f1.get (by rw [← hlen]; simp)
    obtain ⟨kvs, q1, q2⟩ := rm2.at_ _ _ _ hp1 h2
    have hk0 : kvs = [] := List.eq_nil_of_length_eq_zero (by have := q2.length; simpa using this)
    subst hk0
    refine ⟨q1, [(key, v)], rfl, by show 1 ≤ 15; decide, ?_⟩
    have e3 : mergeK [] [(key, v)] = [(key, v)] := rfl
    rw [e3]
    exact b.ok (rm2.setM (o := .dic [(key, d)]) hp1 h2 trivial ⟨[(key, v)], upd_same, rfl, .one r⟩) (.loc hp1)
  · exact b.elim
/-- d[k] -/
def eDGet (o k : E) : E := fun l m => (o l m).bind fun x m1 => (k l m1).bind fun y m2 => match dgetD m2 x y with
  | some (some d) => .ok d m2
  | _ => .bad
theorem me_dget {o k : Expr} {mo mk : E} {pos : Pos} (hu : X.A.units + 1 < cLine) (ho : PE X o (tM G W mo)) (hk : PE X k (tM G W mk)) (hs : NoSl k) : PE X (.Subscript o k pos) (tM G W (eDGet mo mk)) :=
  PE_imp (pe_dget hu ho hk hs) fun σ H Q ⟨D, adr, l, m, rm, rs, a⟩ => step rm rs a fun x H1 D1 a1 dx m1 e1 f1 rm1 rs1 rx b => step rm1 rs1 b fun y H2 D2 a2 dy m2 e2 f2 rm2 rs2 ry c => by
    split at c
    · rename_i d h
      obtain ⟨p, o', rfl, h1, h2, _⟩ := rm2.dget (rx.mono e2 f2) ry h
      obtain ⟨v, rfl, h3⟩ := h2 d rfl
      exact ⟨p, v, rfl, h1, c.ok rm2 h3⟩
    · exact c.elim
/-- k in d, k not in d -/
def eDIn (k o : E) : E := fun l m => (k l m).bind fun y m1 => (o l m1).bind fun x m2 => match dgetD m2 x y with
  | some r => .ok (.bl r.isSome) m2
  | none => .bad
def eDNotIn (k o : E) : E := fun l m => (k l m).bind fun y m1 => (o l m1).bind fun x m2 => match dgetD m2 x y with
  | some r => .ok (.bl (!r.isSome)) m2
  | none => .bad
theorem din_imp {mo mk : E} (σ : L2.St) (H : Hp) (Q : VK) : tM G W (eDIn mk mo) σ H Q → tDIn (tM G W mk) (tM G W mo) σ H Q := fun ⟨D, adr, l, m, rm, rs, a⟩ =>
  step rm rs a fun y H1 D1 a1 dy m1 e1 f1 rm1 rs1 ry b => step rm1 rs1 b fun x H2 D2 a2 dx m2 e2 f2 rm2 rs2 rx c => by
    split at c
    · rename_i r h
      obtain ⟨p, o', rfl, h1, h2, h3⟩ := rm2.dget rx (ry.mono e2 f2) h
      refine ⟨p, o', rfl, h1, ?_⟩
      have : o'.isSome = r.isSome := by
        cases r with
        | none => rw [h3 rfl] <;> rfl
        | some d => obtain ⟨v, rfl, _⟩ := h2 d rfl; rfl
      rw [this]
      exact c.ok rm2 (.bl _)
    · exact c.elim
theorem dnin_imp {mo mk : E} (σ : L2.St) (H : Hp) (Q : VK) : tM G W (eDNotIn mk mo) σ H Q → tDNotIn (tM G W mk) (tM G W mo) σ H Q := fun ⟨D, adr, l, m, rm, rs, a⟩ =>
  step rm rs a fun y H1 D1 a1 dy m1 e1 f1 rm1 rs1 ry b => step rm1 rs1 b fun x H2 D2 a2 dx m2 e2 f2 rm2 rs2 rx c => by
    split at c
    · rename_i r h
      obtain ⟨p, o', rfl, h1, h2, h3⟩ := rm2.dget rx (ry.mono e2 f2) h
      refine ⟨p, o', rfl, h1, ?_⟩
      have : o'.isSome = r.isSome := by
        cases r with
        | none => rw [h3 rfl] <;> rfl
        | some d => obtain ⟨v, rfl, _⟩ := h2 d rfl; rfl
      rw [this]
      exact c.ok rm2 (.bl _)
    · exact c.elim
theorem me_din {k o : Expr} {mk mo : E} {pos : Pos} (hu : X.A.units + 1 < cLine) (hk : PE X k (tM G W mk)) (ho : PE X o (tM G W mo)) (hb : behindInMarks .In o = false := by rfl) : PE X (.Compare k [.In] [o] pos) (tM G W (eDIn mk mo)) := PE_imp (pe_cmp (pc_din hu hk ho) hb) din_imp
theorem me_dnin {k o : Expr} {mk mo : E} {pos : Pos} (hu : X.A.units + 1 < cLine) (hk : PE X k (tM G W mk)) (ho : PE X o (tM G W mo)) (hb : behindInMarks .NotIn o = false := by rfl) : PE X (.Compare k [.NotIn] [o] pos) (tM G W (eDNotIn mk mo)) := PE_imp (pe_cmp (pc_dnotin hu hk ho) hb) dnin_imp
theorem mt_din {k o : Expr} {mk mo : E} {pos : Pos} (hu : X.A.units + 1 < cLine) (hk : PE X k (tM G W mk)) (ho : PE X o (tM G W mo)) (hb : behindInMarks .In o = false := by rfl) : PT X (.Compare k [.In] [o] pos) (tMT G W (tV (eDIn mk mo))) :=
  PT_imp (pt_cmp (pc_din hu hk ho) hb) fun σ H Q ⟨D, adr, l, m, rm, rs, a⟩ => din_imp σ H _ (step rm rs a fun v H1 D1 a1 d m1 e1 f1 rm1 rs1 re b => asB_rel rm1 re b)
theorem mt_dnin {k o : Expr} {mk mo : E} {pos : Pos} (hu : X.A.units + 1 < cLine) (hk : PE X k (tM G W mk)) (ho : PE X o (tM G W mo)) (hb : behindInMarks .NotIn o = false := by rfl) : PT X (.Compare k [.NotIn] [o] pos) (tMT G W (tV (eDNotIn mk mo))) :=
  PT_imp (pt_cmp (pc_dnotin hu hk ho) hb) fun σ H Q ⟨D, adr, l, m, rm, rs, a⟩ => dnin_imp σ H _ (step rm rs a fun v H1 D1 a1 d m1 e1 f1 rm1 rs1 re b => asB_rel rm1 re b)
/-- d.get(k, x) -/
def eDGet2 (o k z : E) : E := fun l m => (o l m).bind fun x m1 => match dcAt m1 x with
  | some _ => (k l m1).bind fun y m2 => (z l m2).bind fun w m3 => (match dgetD m3 x y with
    | some r => .ok (r.getD w) m3
    | none => .bad)
  | none => .bad
theorem me_dget2 {o e f : Expr} {mo me mf : E} {apos cpos : Pos} (hu : X.A.units + 1 < cLine) (ho : PE X o (tM G W mo)) (he : PE X e (tM G W me)) (hf : PE X f (tM G W mf)) (q : M2 X o "get" apos e f cpos) : PE X (.Call (.Attribute o "get" apos) [e, f] [] cpos) (tM G W (eDGet2 mo me mf)) :=
  PE_imp (pe_dget2 hu ho he hf q) fun σ H Q ⟨D, adr, l, m, rm, rs, a⟩ => step rm rs a fun x H1 D1 a1 dx m1 e1 f1 rm1 rs1 rx b => by
    split at b
    · rename_i z hz
      obtain ⟨p, rfl, hd⟩ := rm1.isD rx hz
      refine ⟨p, rfl, hd, ?_⟩
      refine step rm1 rs1 b fun y H2 D2 a2 dy m2 e2 f2 rm2 rs2 ry c => ?_
      refine step rm2 rs2 c fun w H3 D3 a3 dw m3 e3 f3 rm3 rs3 rw' d => ?_
      split at d
      · rename_i r h
        obtain ⟨p', o', hp, h1, h2, h3⟩ := rm3.dget ((rx.mono e2 f2).mono e3 f3) (ry.mono e3 f3) h
        cases hp
        refine ⟨o', h1, ?_⟩
        cases r with
        | none => rw [h3 rfl]; exact d.ok rm3 rw'
        | some v => obtain ⟨v', rfl, h4⟩ := h2 v rfl; exact d.ok rm3 h4
      · exact d.elim
    · exact b.elim
/-- d.pop(k), there -/
def kAt (m : Mem) (d : Dv) : Option (Nat × List (Key × Dv)) := match d with
  | .loc n => match m[n]? with
    | some (.dic kds) => some (n, kds)
    | _ => none
  | _ => none
theorem RM.kAt {v : V} {d : Dv} {n : Nat} {ds : List (Key × Dv)} (rm : RM G D adr m H) (r : Rep G D adr v d) (e : kAt m d = some (n, ds)) : ∃ p vs, v = .ref p ∧ adr[n]? = some p ∧ m[n]? = some (.dic ds) ∧ H p = some (.dK vs) ∧ KReps G D adr vs ds := by
  unfold Sn.kAt at e
  split at e
  · split at e
    · rename_i h
      cases e
      obtain ⟨a, rfl, h1, vs, h2, h3⟩ := rm.of_loc r h
      exact ⟨a, vs, rfl, h1, h, h2, h3⟩
    · cases e
  · cases e
def eDPop (o k : E) : E := fun l m => (o l m).bind fun x m1 => match kAt m1 x with
  | some _ => (k l m1).bind fun y m2 => (match kAt m2 x, keyD y with
    | some (n, kds), some k => (match valG kds k with
      | some d => .ok d (m2.set n (.dic (dropG kds k)))
      | none => .bad)
    | _, _ => .bad)
  | none => .bad
theorem me_dpop {o e : Expr} {mo me : E} {apos cpos : Pos} (ho : PE X o (tM G W mo)) (he : PE X e (tM G W me)) (q : M1 X o "pop" apos e cpos) : PE X (.Call (.Attribute o "pop" apos) [e] [] cpos) (tM G W (eDPop mo me)) :=
  PE_imp (pe_dpop1 ho he q) fun σ H Q ⟨D, adr, l, m, rm, rs, a⟩ => step rm rs a fun x H1 D1 a1 dx m1 e1 f1 rm1 rs1 rx b => by
    split at b
    · rename_i z hz
      obtain ⟨n, kds⟩ := z
      obtain ⟨p, kvs, rfl, h1, h2, h3, h4⟩ := rm1.kAt rx hz
      refine ⟨p, rfl, .inl ⟨kvs, .inl h3⟩, ?_⟩
      refine step rm1 rs1 b fun y H2 D2 a2 dy m2 e2 f2 rm2 rs2 ry c => ?_
      split at c
      · rename_i n' kds' k hz' hk
        split at c
        · rename_i d hd
          obtain ⟨p', kvs', hp, h1', h2', h3', h4'⟩ := rm2.kAt (rx.mono e2 f2) hz'
          cases hp
          obtain ⟨v, h5, h6⟩ := (h4'.val k).1 d hd
          exact ⟨kvs', k, v, h3', keyD_v ry hk, h5, c.ok (rm2.setM (o := .dic (dropG kds' k)) h1' h2' trivial ⟨_, upd_same, h4'.drop k⟩) h6⟩
        · exact c.elim
      · exact c.elim
    · exact b.elim
/-- d[k] = v -/
def dputD (m : Mem) (x y d : Dv) : Option Mem := match x with
  | .loc n => match m[n]? with
    | some (.dic kds) => match keyD y with
      | some k => if kds.length < big then some (m.set n (.dic (putG kds k d))) else none
      | none => none
    | some (.dit kds) => match keyT y with
      | some k => if kds.length < big then some (m.set n (.dit (putG kds k d))) else none
      | none => none
    | _ => none
  | _ => none
def sDPutM (o k v : E) : S := fun l m => (v l m).out l fun d m1 => (o l m1).out l fun x m2 => (k l m2).out l fun y m3 => match dputD m3 x y d with
  | some m4 => .nx l m4
  | none => .bad
theorem ms_dput {o k v : Expr} {mo mk mv : E} {pos pos' : Pos} (hu : X.A.units + 1 < cLine) (ho : PE X o (tM G W mo)) (hk : PE X k (tM G W mk)) (hv : PE X v (tM G W mv)) (hs : swapsWith v (some (.Subscript o k pos')) pos.line X.env = pure false) : PS X (.Assign [.Subscript o k pos'] v pos) (tS G W (sDPutM mo mk mv)) :=
  PS_imp (ps_dput hu ho hk hv hs) fun De σ H ⟨D, adr, l, m, rm, rs, a⟩ => stepS rm rs a fun w H1 D1 a1 d m1 e1 f1 rm1 rs1 rv b => stepS rm1 rs1 b fun x H2 D2 a2 dx m2 e2 f2 rm2 rs2 rx c => stepS rm2 rs2 c fun y H3 D3 a3 dy m3 e3 f3 rm3 rs3 ry h => by
    have rv3 := (rv.mono e2 f2).mono e3 f3
    have rx3 := rx.mono e3 f3
    split at h
    · rename_i m4 hm
      unfold dputD at hm
      split at hm
      · rename_i n
        split at hm
        · rename_i kds h0
          split at hm
          · rename_i k' hk'
            split at hm
            · rename_i hl
              cases hm
              obtain ⟨p, rfl, hp, kvs, h2, h3⟩ := rm3.of_loc rx3 h0
              exact ⟨p, _, rfl, .inl ⟨kvs, k', h2, keyD_v ry hk', by rw [h3.length, ← big_eq]; exact hl, rfl⟩, h σ _ D3 a3 (Le.refl _) (Pf.refl _) (rm3.setM (o := .dic (putG kds k' d)) hp h0 trivial ⟨_, upd_same, h3.put k' rv3⟩) rs3⟩
            · cases hm
          · cases hm
        · rename_i kds h0
          split at hm
          · rename_i k' hk'
            split at hm
            · rename_i hl
              cases hm
              obtain ⟨p, rfl, hp, kvs, h2, h3⟩ := rm3.of_loc rx3 h0
              unfold keyT at hk'
              split at hk'
              · obtain ⟨b, vs, rfl, h5, h6⟩ := rm3.tq ry rfl
                rw [keysD_v h6 hk'] at h5
                exact ⟨p, _, rfl, .inr ⟨kvs, k', b, h2, rfl, h5, by rw [h3.length, ← big_eq]; exact hl, rfl⟩, h σ _ D3 a3 (Le.refl _) (Pf.refl _) (rm3.setM (o := .dit (putG kds k' d)) hp h0 trivial ⟨_, upd_same, h3.put k' rv3⟩) rs3⟩
              · cases hk'
            · cases hm
          · cases hm
        · cases hm
      · cases hm
    · exact h.elim

/-! ### texts -/
def txts : List Dv → Option (List Str)
  | [] => some []
  | .str s :: r => (txts r).map (s :: ·)
  | _ => none
theorem txts_v : ∀ {ds : List Dv} {vs : List V} {ss : List Str}, Reps G D adr vs ds → txts ds = some ss → vs = ss.map V.str
  | [], _, _, r, e => by cases r; cases e; rfl
  | d :: ds, _, _, r, e => by
    cases r with
    | cons q s =>
      cases d with
      | str b =>
        unfold txts at e
        obtain ⟨cs, h1, h2⟩ := Option.map_eq_some_iff.mp e
        subst h2
        rw [q.str_inv, txts_v s h1] <;> rfl
      | _ => cases e
theorem reps_strs (K : Cg) (D : Hp) (adr : List Addr) : ∀ ss : List Str, Reps K D adr (ss.map V.str) (ss.map Dv.str)
  | [] => .nil
  | n :: r => .cons (.str n) (reps_strs K D adr r)
def eJoin (o e : E) : E := fun l m => (o l m).bind fun x m1 => match x with
  | .str a => (e l m1).bind fun y m2 => (match (stq m2 y).bind txts with
    | some ss => if (ss.map (·.length)).sum + ss.length * a.length ≤ 16777216 then .ok (.str (Txt.join a ss)) m2 else .bad
    | none => .bad)
  | _ => .bad
def rJoin (K : PySem.W.Frag) : V → List V → Hp → VK → Prop := fun x xs H Q => ∃ a p, ∃ ys : List Str, x = .str a ∧ xs = [.ref p] ∧ (SqL K H p (ys.map V.str) ∨ SqT K H p (ys.map V.str)) ∧ (ys.map (·.length)).sum + ys.length * a.length ≤ 16777216 ∧ Q (.str (Txt.join a ys)) H
theorem me_join {o e : Expr} {mo me : E} {apos pos : Pos} (hk : X.K = G.K) (ho : PE X o (tM G W mo)) (he : PE X e (tM G W me)) (hs : starEach [e] X.env = [(false, eval e X.env)] := by rfl) (hbase : attributeBase o "join" X.env (eval o X.env) = eval o X.env := by rfl) (hline : (apos.endLine == pos.line) = true := by rfl) :
    PE X (.Call (.Attribute o "join" apos) [e] [] pos) (tM G W (eJoin mo me)) := by
  have h : PE X (.Call (.Attribute o "join" apos) [e] [] pos) (tM1 (rJoin X.K) (tM G W mo) (tM G W me)) := pe_join ho he hs hbase hline
  rw [hk] at h
  refine PE_imp h fun σ H Q ⟨D, adr, l, m, rm, rs, a⟩ => ?_
  refine step rm rs a fun x H1 D1 a1 dx m1 e1 f1 rm1 rs1 rx b => ?_
  split at b
  · refine ⟨⟨_, rx.str_inv⟩, ?_⟩
    refine step rm1 rs1 b fun y H2 D2 a2 dy m2 e2 f2 rm2 rs2 ry c => ?_
    split at c
    · rename_i ss hss
      split at c
      · rename_i hz
        obtain ⟨ds, h1, h2⟩ := Option.bind_eq_some_iff.mp hss
        obtain ⟨p, vs, rfl, h3, h4⟩ := rm2.stq ry h1
        rw [txts_v h4 h2] at h3
        exact ⟨_, p, ss, rx.str_inv, rfl, h3, hz, c.ok rm2 (.str _)⟩
      · exact c.elim
    · exact c.elim
  · exact b.elim
def eSplit (o e : E) : E := fun l m => (o l m).bind fun x m1 => match x with
  | .str a => (e l m1).bind fun y m2 => (match y with
    | .str b => if (b.length == 0) = false ∧ a.length + 2 ≤ big then .ok (.lst ((Txt.split a b).map Dv.str)) m2 else .bad
    | _ => .bad)
  | _ => .bad
theorem me_split {o e : Expr} {mo me : E} {apos pos : Pos} (ho : PE X o (tM G W mo)) (he : PE X e (tM G W me)) (hs : starEach [e] X.env = [(false, eval e X.env)] := by rfl) (hbase : attributeBase o "split" X.env (eval o X.env) = eval o X.env := by rfl) (hline : (apos.endLine == pos.line) = true := by rfl) :
    PE X (.Call (.Attribute o "split" apos) [e] [] pos) (tM G W (eSplit mo me)) := by
  refine PE_imp (pe_split ho he hs hbase hline) fun σ H Q ⟨D, adr, l, m, rm, rs, a⟩ => ?_
  refine step rm rs a fun x H1 D1 a1 dx m1 e1 f1 rm1 rs1 rx b => ?_
  split at b
  · refine ⟨⟨_, rx.str_inv⟩, ?_⟩
    refine step rm1 rs1 b fun y H2 D2 a2 dy m2 e2 f2 rm2 rs2 ry c => ?_
    split at c
    · split at c
      · rename_i hz
        rename_i _ a' _ b'
        refine ⟨a', b', rx.str_inv, by rw [ry.str_inv], hz.1, by rw [← big_eq]; exact hz.2, fun p hp => ?_⟩
        have hl : Le D2 (upd D2 p (.lst ((Txt.split a' b').map V.str))) := Le.new (rm2.dfree hp)
        exact c _ _ _ a2 hl (Pf.refl _) (rm2.newD hp) (.lst upd_same (reps_strs _ _ _ _))
      · exact c.elim
    · exact c.elim
  · exact b.elim
end
end Sn
/-! Sn7 -/
set_option Elab.async false
set_option linter.all false
set_option maxRecDepth 100000
set_option autoImplicit false
set_option maxHeartbeats 1000000
/-! Sn7: a module's names as values; the end of a law -/
namespace Sn
open PySem PySem.Spec PyProof.Rows L2

def fuelN : Nat := 1099511627776
section
variable {G : Cg} {X : Cx} {W : WX}
theorem me_gstr {x : Str} {z : Str} {pos : Pos} (hg : Gl X x) (h : ∃ t, X.mg x = some (.str z t)) (hd : (x == ("__debug__" : Str)) = false := by decide) : PE X (.Name x pos) (tM G W (eC (.str z))) := by
  obtain ⟨t, h⟩ := h
  exact me_glob hg h (v := .str z) ⟨t, rfl⟩ (fun _ _ _ => .str z) hd
theorem me_gint {x : Str} {z : Int} {pos : Pos} (hg : Gl X x) (h : ∃ t, X.mg x = some (.int z t)) (hd : (x == ("__debug__" : Str)) = false := by decide) : PE X (.Name x pos) (tM G W (eC (.int z))) := by
  obtain ⟨t, h⟩ := h
  exact me_glob hg h (v := .int z) ⟨t, rfl⟩ (fun _ _ _ => .int z) hd
theorem me_gfn {x : Str} {k : Nat} {a : Addr} {pos : Pos} (hg : Gl X x) (h : X.mg x = some (.ref a)) (e : G.fns k = a) (hd : (x == ("__debug__" : Str)) = false := by decide) : PE X (.Name x pos) (tM G W (eC (.fn k))) :=
  PE_imp (pe_glob (v := .ref a) hg h rfl hd) fun σ H Q ⟨D, adr, l, m, rm, rs, q⟩ => q.ok rm (by subst e; exact .fn k)
end
/-- the context of a def's body -/
abbrev cx (P : Program) (w : World) (K : PySem.W.Frag) (mg : Str → Option Value) (base : Heap) (N : List Str) (qual : Str) (st : Stmt) (f : Addr) (cdv : Value) (A : Around) (outer : List Env) (s : Shared) (H : Hp) (E : XK) : Cx :=
  cxOf (L2N.CX P w) P w K mg base N qual (defScope st) f cdv A outer s H E
/-- what a law asks of its def -/
def spLaw (K : PySem.W.Frag) : Sp := fun vs H Q _ => ∃ (a : Addr) (ns : List Int), vs = [.ref a] ∧ SqL K H a (ns.map V.int) ∧ ns.length ≤ 63 ∧ ∀ H', Q (.bl true) H'
theorem law_imp {G : Cg} {f : Fn} (main : ∀ ns : List Int, ns.length ≤ 63 → ∃ m, f [.scr ns] [] = .ok (.bl true) m) (vs : List V) (H : Hp) (Q : VK) (E : XK) (h : spLaw G.K vs H Q E) : spM G 1 f vs H Q E := by
  obtain ⟨a, ns, rfl, hs, hl, k⟩ := h
  obtain ⟨m, e⟩ := main ns hl
  refine ⟨H, [], [], [.scr ns], RM.start G H, .one (.scr hs), rfl, ?_⟩
  rw [e]
  intro v H' D' a' _ _ _ r
  rw [r.bl_inv]
  exact k H'
theorem cx_end {P : Program} {w : World} {H : Hp} {s : Shared} {e : Value} {s' : Shared} (h : L2N.CX P w [] H s (fun _ _ _ => False) e s') : False := by
  obtain ⟨_, _, _, _, _, _, _, _, _, _, _, _, z⟩ := h
  exact z
theorem walk_law {l : PySem.W.OpenLaw} {k : Nat} {q : Program} {loose : List Str} {XP : (Str → Option Value) → Heap → Prop} {YP : World → Heap → Prop} {d : DefRec} {K : Params → PySem.W.Frag} {x : Str}
    (hn : l.most = some 63) (hdf : d.params.defaults = []) (hr : Room k callerA)
    (hY : ∀ (w : World) (h : Heap), YP w h → (K w.params).In h)
    (F : ∀ (w : World) (mg : Str → Option Value) (fa : Addr) (h : Heap), (K w.params).In h → h.Ns mainGlobals mg → mg d.name = some (.ref fa) →
      ∃ fd : FuncData, (∀ (s : Shared) (u : Value), BindsTo s fd ⟨[u], []⟩ [(x, u)]) ∧
        ∀ base : Heap, (K w.params).In base → base.Ns mainGlobals mg → FnOk l.prog w (K w.params) mg base (L2N.CX l.prog w) k fa fd [x] (spLaw (K w.params))) :
    PySem.W.WalkO q loose XP YP l.row.toRowW d [] (fun f vs => PySem.call f vs) :=
  L2.walk_of (n := 63) (k := k) (x := x) (CX := fun w => L2N.CX l.prog w) (sp := fun w => spLaw (K w.params)) hn (by decide) hdf hr hY F (fun _ _ a ns hl _ hS => ⟨a, ns, rfl, hS, hl, fun _ => rfl⟩) fun _ _ _ _ _ z => cx_end z
end Sn
/-! Sn8 -/
set_option Elab.async false
set_option linter.all false
set_option maxRecDepth 100000
set_option autoImplicit false
set_option maxHeartbeats 1000000
/-! Sn8: sorted -/
namespace Sn
open PySem PySem.Spec PyProof.Rows L2

def sle (a b : Str) : Bool := decide (a.cps.toList ≤ b.cps.toList)
def ile (a b : Int) : Bool := decide (a ≤ b)
section
variable {X : Cx}
/-- what a sort of flat things rests on: how a value stands for one, and what it reads as -/
structure Flat (β : Type) where
  v : β → V
  enc : β → PyData
  reads : ∀ (h : Heap) (b : β) (u : Value), RelV (v b) u → Reads h u (enc b) []
  alike : ∀ b b', PySem.W.alike (enc b) (enc b') = true
  other : ∀ b, enc b ≠ .none ∧ ∀ xs, enc b ≠ .tuple xs
  depth : ∀ b, (enc b).depth = 0
def flStr : Flat Str where
  v := V.str
  enc := PyData.str
  reads := fun h b u r => by obtain ⟨t, rfl⟩ := r; exact .str b t
  alike := fun b b' => rfl
  other := fun b => ⟨fun z => (nomatch z), fun _ z => (nomatch z)⟩
  depth := fun b => by simp [PyData.depth]
def flInt : Flat Int where
  v := V.int
  enc := PyData.int
  reads := fun h b u r => by obtain ⟨t, rfl⟩ := r; exact .int b t
  alike := fun b b' => rfl
  other := fun b => ⟨fun z => (nomatch z), fun _ z => (nomatch z)⟩
  depth := fun b => by simp [PyData.depth]
theorem sort_str (l : List Str) : l.mergeSort (PySem.W.dataLe false PyData.str) = l.mergeSort sle := by
  have e : PySem.W.dataLe false PyData.str = sle := PySem.W.dataLe_str (fun b : Str => b)
  rw [e]
theorem sort_int (l : List Int) : l.mergeSort (PySem.W.dataLe false PyData.int) = l.mergeSort ile := by
  have e : PySem.W.dataLe false PyData.int = ile := PySem.W.dataLe_int (fun b : Int => b)
  rw [e]
theorem each_of_vals {β : Type} (F : Flat β) : ∀ {bs : List β} {us : List Value}, Vals (bs.map F.v) us → PySem.W.EachIs (fun u b => RelV (F.v b) u) us bs
  | [], us, r => by cases r; exact .nil
  | b :: bs, us, r => by
    cases r with
    | cons q t => exact .cons q (each_of_vals F t)
theorem vals_of_each {β : Type} (F : Flat β) : ∀ {bs : List β} {us : List Value}, PySem.W.EachIs (fun u b => RelV (F.v b) u) us bs → Vals (bs.map F.v) us
  | _, _, .nil => .nil
  | _, _, .cons q t => .cons q (vals_of_each F t)
/-- the end of a sort: the list at a is sorted -/
theorem sort_list_at {β : Type} (F : Flat β) {A : Around} {E : Value → Shared → Prop} {s : Shared} {a : Addr} {n : Nat} {us : List Value} {bs : List β} {Q : Value → Shared → Prop} {prog : Program} {w : World} (ho : s.heap.get? a = some (seqObj "list" us.toArray n)) (r : Vals (bs.map F.v) us)
    (hL : bs.length ≤ sizeLine) (hu : A.units + 1 < cLine) (h : ∀ out, Vals ((bs.mergeSort (PySem.W.dataLe false F.enc)).map F.v) out → Q .none { s with heap := sortedHeap s.heap a us (List.toArray out) }) : wpAny (model prog w) A (call (.builtin "list.sort") [.ref a]) Q E s := by
  have e := each_of_vals F r
  refine PySem.W.list_sort_data (enc := F.enc) ho e (e.mono fun u b q => ⟨[], F.reads _ b u q, by simp⟩) (PySem.W.AllAlike.of F.alike) (PySem.W.Sortable.others F.other) hL (fun b _ => by rw [F.depth b]; exact hu) fun out _ eo => h out (vals_of_each F eo)
def rSortKF {β : Type} (F : Flat β) (key : β → Key) : List V → Hp → VK → Prop := fun xs H Q => ∃ (a : Addr) (kvs : List (Key × V)) (ks : List β), xs = [.ref a] ∧ Rd H a (.dK kvs) ∧ kvs.map (·.1) = ks.map key ∧
    ∀ p, H p = none → Q (.ref p) (upd H p (.lst ((ks.mergeSort (PySem.W.dataLe false F.enc)).map F.v)))
/-- sorted(d): its keys -/
theorem call_sortKF {β : Type} (F : Flat β) (key : β → Key) (hkey : ∀ b, kV (key b) = F.v b) (hcalm : X.calm = true) (hu : X.A.units + 64 < cLine) : CallR X (.builtin "sorted") (rSortKF F key) := by
  intro pins s σ H xs us Q I r q
  obtain ⟨a, kvs, ks, ex, hd, hks, q⟩ := q
  subst ex
  obtain ⟨u, eu, rx⟩ := vals1 r
  subst eu
  cases rx
  obtain ⟨z, lo, vs, rel, dd⟩ := dk_rd I.hok hd
  obtain ⟨ep, hat⟩ := dd.dictAt
  have hkeys : vs.map (·.1) = ks.map key := rel.keys.symm.trans hks
  have hl : vs.length = ks.length := by
    have e := congrArg List.length hkeys
    rw [List.length_map, List.length_map] at e
    exact e
  have hzz : kvs.length = vs.length := rel.length
  have h16 : vs.length ≤ sizeLine := by rw [← hzz]; exact z
  refine Calls.call_function_entry PyProof.Rows.kind_sorted PyProof.Rows.plain_sorted PyProof.Rows.entry_sorted (PyProof.Rows.args_sorted1 _) ?_
  unfold Builtin.«sorted»
  refine wpAny_bind (m := checkCount "sorted" 1 1 _) (wpAny_pure ?_)
  refine wpAny_bind (PySem.W.kdu_collect (A := X.A.in1) (PySem.W.kdl_dict (knd := mixKind X.prog X.w) (kvs := vs) (ep := ep) lo) (I.ok.hd hcalm) hat h16 fun h' tk acc hk hacc => ?_)
  have hal : acc.toList.length = ks.length := by rw [Array.length_toList, hacc.1, hl]
  have hV0 : Vals (vs.map fun p => kV p.1) acc.toList := keys_at (by rw [hal, hl]) fun j v e => by
    obtain ⟨k, x, e1, e2⟩ := hacc.2 j v (by rw [← Array.getElem?_toList]; exact e)
    exact ⟨k, x, e1, e2⟩
  have hV : Vals (ks.map F.v) acc.toList := by
    have e : (vs.map fun p => kV p.1) = ks.map F.v := by
      have e1 : (vs.map fun p => kV p.1) = (vs.map (·.1)).map kV := by rw [List.map_map] <;> rfl
      rw [e1, hkeys, List.map_map]
      exact List.map_congr_left fun b _ => hkey b
    rw [← e]
    exact hV0
  have I1 : Inv X pins σ H { s with heap := h', toks := tk } := I.kept hk
  refine wpAny_bind (wpAny_newList ?_ (by rw [hal, ← hl]; exact h16))
  have hoL : (h'.push (seqObj "list" acc.toList.toArray 0)).get? h'.objs.size = some (seqObj "list" acc.toList.toArray 0) := Heap.get?_push_size _ rfl
  show wpAny _ _ _ _ _ { s with heap := h'.push (seqObj "list" acc.toList.toArray 0), toks := tk }
  refine wpAny_bind (wpAny_holding (sort_list_at F (s := { s with heap := h'.push (seqObj "list" acc.toList.toArray 0), toks := tk }) hoL hV (by rw [← hl]; exact h16) (by show X.A.in1.units + 1 < cLine; have : X.A.in1.units = X.A.units + 1 := rfl; omega) fun out ho => ?_))
  obtain ⟨e', he'⟩ := PyProof.Rows.sortedHeap_at (vs := acc.toList) (out := out.toArray) hoL
  have hlen : ((ks.mergeSort (PySem.W.dataLe false F.enc)).map F.v).length ≤ sizeLine := by
    rw [List.length_map, List.length_mergeSort, ← hl]
    exact h16
  refine wpAny_pure ⟨_, rfl, .ref h'.objs.size, upd H h'.objs.size (.lst ((ks.mergeSort (PySem.W.dataLe false F.enc)).map F.v)), I1.laid (t' := tk) (fun b u e => ?_) (Nat.le_refl _)
    (show ObjOk X.prog X.w _ _ _ (.lst _) from ⟨hlen, out, e', ho, he'⟩), rfl, q _ (I1.hok.fresh (Nat.le_refl _))⟩
  have hb : b < h'.objs.size := Heap.lt_size e
  show (sortedHeap (h'.push (seqObj "list" acc.toList.toArray 0)) h'.objs.size acc.toList out.toArray).get? b = some u
  rw [PyProof.Rows.sortedHeap_old (Nat.ne_of_lt hb) (by rw [size_push']; exact Nat.lt_succ_of_lt hb)]
  exact Heap.get?_push_of_some _ e
def rSortLF {β : Type} (K : PySem.W.Frag) (F : Flat β) : List V → Hp → VK → Prop := fun xs H Q => ∃ (a : Addr) (bs : List β), xs = [.ref a] ∧ SqL K H a (bs.map F.v) ∧ ∀ p, H p = none → Q (.ref p) (upd H p (.lst ((bs.mergeSort (PySem.W.dataLe false F.enc)).map F.v)))
/-- sorted(xs), flat things of one kind -/
theorem call_sortLF {β : Type} (F : Flat β) (hu : X.A.units + 64 < cLine) : CallR X (.builtin "sorted") (rSortLF X.K F) := by
  intro pins s σ H xs us Q I r q
  obtain ⟨a, bs, ex, hd, q⟩ := q
  subst ex
  obtain ⟨its, rv, hl, hz⟩ := I.list hd
  rw [Vals.ref1 r]
  have e := each_of_vals F rv
  rw [List.length_map] at hz
  refine PySem.W.sorted_data (enc := F.enc) hl.isList e (e.mono fun u b q => ⟨[], F.reads _ b u q⟩) (PySem.W.AllAlike.of F.alike) (PySem.W.Sortable.others F.other) hz (fun b _ => by rw [F.depth b]; omega) fun out _ eo => ?_
  obtain ⟨ep, he'⟩ := PyProof.Rows.sortedAll_at s.heap its out.toArray
  have hlen : ((bs.mergeSort (PySem.W.dataLe false F.enc)).map F.v).length ≤ sizeLine := by
    rw [List.length_map, List.length_mergeSort]
    exact hz
  exact ⟨.ref _, upd H (s.heap.objs.size + 1) (.lst ((bs.mergeSort (PySem.W.dataLe false F.enc)).map F.v)), I.laid (t' := s.toks) (fun _ _ => PyProof.Rows.sortedAll_old) (Nat.le_succ _) ⟨hlen, out, ep, vals_of_each F eo, he'⟩, rfl, q _ (I.hok.fresh (Nat.le_succ _))⟩
end
section
variable {G : Cg}
def kss : List Key → Option (List Str)
  | [] => some []
  | .inr s :: r => (kss r).map (s :: ·)
  | _ => none
def kis : List Key → Option (List Int)
  | [] => some []
  | .inl s :: r => (kis r).map (s :: ·)
  | _ => none
theorem kss_eq : ∀ {ks : List Key} {ss : List Str}, kss ks = some ss → ks = ss.map Sum.inr
  | [], _, e => by cases e; rfl
  | k :: ks, _, e => by
    cases k with
    | inr b =>
      unfold kss at e
      obtain ⟨cs, h1, h2⟩ := Option.map_eq_some_iff.mp e
      subst h2
      rw [kss_eq h1] <;> rfl
    | inl b => cases e
theorem kis_eq : ∀ {ks : List Key} {ss : List Int}, kis ks = some ss → ks = ss.map Sum.inl
  | [], _, e => by cases e; rfl
  | k :: ks, _, e => by
    cases k with
    | inl b =>
      unfold kis at e
      obtain ⟨cs, h1, h2⟩ := Option.map_eq_some_iff.mp e
      subst h2
      rw [kis_eq h1] <;> rfl
    | inr b => cases e
theorem kss_map (ss : List Str) : kss (ss.map Sum.inr) = some ss := by
  induction ss with
  | nil => rfl
  | cons s r ih => show (kss (r.map Sum.inr)).map (s :: ·) = _; rw [ih] <;> rfl
theorem kis_map (ss : List Int) : kis (ss.map Sum.inl) = some ss := by
  induction ss with
  | nil => rfl
  | cons s r ih => show (kis (r.map Sum.inl)).map (s :: ·) = _; rw [ih] <;> rfl
def sortKsD (ds : List Dv) (m : Mem) : Res Dv := match ds with
  | [x] => match dcAt m x with
    | some (.k kds) => match kss (kds.map (·.1)) with
      | some ss => .ok (.lst ((ss.mergeSort sle).map Dv.str)) m
      | none => .bad
    | _ => .bad
  | _ => .bad
def sortKiD (ds : List Dv) (m : Mem) : Res Dv := match ds with
  | [x] => match dcAt m x with
    | some (.k kds) => match kis (kds.map (·.1)) with
      | some ss => .ok (.lst ((ss.mergeSort ile).map Dv.int)) m
      | none => .bad
    | _ => .bad
  | _ => .bad
theorem new_lst {D : Hp} {adr : List Addr} {m : Mem} {H : Hp} {vs : List V} {ds : List Dv} {σ : L2.St} {W : WX} {Q : VK} (rm : RM G D adr m H) (r : ∀ D adr, Reps G D adr vs ds) (a : Aft G W σ (relE G) D adr (.ok (.lst ds) m) Q) : ∀ p, H p = none → Q (.ref p) (upd H p (.lst vs)) := fun p hp => by
  have hl : Le D (upd D p (.lst vs)) := Le.new (rm.dfree hp)
  exact a _ _ _ adr hl (Pf.refl _) (rm.newD hp) (.lst upd_same (r _ _))
theorem sortKsD_s : CaS G (rSortKF flStr Sum.inr) sortKsD := fun D adr m H xs ds rm r σ W Q a => by
  unfold sortKsD at a
  split at a
  · split at a
    · rename_i kds h
      split at a
      · rename_i ss h2
        obtain ⟨v, rfl, q⟩ := r.one_inv
        obtain ⟨p, kvs, rfl, h3, h4⟩ := rm.dc_k q h
        refine ⟨p, kvs, ss, rfl, h3, h4.1.trans (kss_eq h2), ?_⟩
        show ∀ p, H p = none → Q (.ref p) (upd H p (.lst ((ss.mergeSort (PySem.W.dataLe false PyData.str)).map V.str)))
        rw [sort_str]
        exact new_lst rm (fun _ _ => reps_strs _ _ _ _) a
      · exact a.elim
    · exact a.elim
  · exact a.elim
theorem sortKiD_s : CaS G (rSortKF flInt Sum.inl) sortKiD := fun D adr m H xs ds rm r σ W Q a => by
  unfold sortKiD at a
  split at a
  · split at a
    · rename_i kds h
      split at a
      · rename_i ss h2
        obtain ⟨v, rfl, q⟩ := r.one_inv
        obtain ⟨p, kvs, rfl, h3, h4⟩ := rm.dc_k q h
        refine ⟨p, kvs, ss, rfl, h3, h4.1.trans (kis_eq h2), ?_⟩
        show ∀ p, H p = none → Q (.ref p) (upd H p (.lst ((ss.mergeSort (PySem.W.dataLe false PyData.int)).map V.int)))
        rw [sort_int]
        exact new_lst rm (fun _ _ => reps_ints _ _ _ _) a
      · exact a.elim
    · exact a.elim
  · exact a.elim
def sortSD (ds : List Dv) (m : Mem) : Res Dv := match ds with
  | [x] => match (sq m x).bind txts with
    | some ss => .ok (.lst ((ss.mergeSort sle).map Dv.str)) m
    | none => .bad
  | _ => .bad
theorem sortSD_s : CaS G (rSortLF G.K flStr) sortSD := fun D adr m H xs ds rm r σ W Q a => by
  unfold sortSD at a
  split at a
  · split at a
    · rename_i ss h2
      obtain ⟨v, rfl, q⟩ := r.one_inv
      obtain ⟨es, h3, h4⟩ := Option.bind_eq_some_iff.mp h2
      obtain ⟨p, vs, rfl, h5, h6⟩ := rm.sq q h3
      rw [txts_v h6 h4] at h5
      refine ⟨p, ss, rfl, h5, ?_⟩
      show ∀ p, H p = none → Q (.ref p) (upd H p (.lst ((ss.mergeSort (PySem.W.dataLe false PyData.str)).map V.str)))
      rw [sort_str]
      exact new_lst rm (fun _ _ => reps_strs _ _ _ _) a
    · exact a.elim
  · exact a.elim
def nums : List Dv → Option (List Int)
  | [] => some []
  | .int s :: r => (nums r).map (s :: ·)
  | _ => none
end
end Sn
/-! Sn9 -/
set_option Elab.async false
set_option linter.all false
set_option maxRecDepth 100000
set_option autoImplicit false
set_option maxHeartbeats 1000000
/-! Sn9: try, the clauses' suites hand back constants -/
namespace Sn
open PySem PySem.Spec PyProof.Rows L2

/-! ### constants over a fact of the slots -/
section
variable {X : Cx} {F F' : L2.St → Prop}
def PEk (X : Cx) (F : L2.St → Prop) (e : Expr) (v : V) : Prop := PE X e fun σ H Q => F σ ∧ Q v H
def PTk (X : Cx) (F : L2.St → Prop) (e : Expr) (b : Bool) : Prop := PT X e fun σ H Q => F σ ∧ Q b H
def PWk (X : Cx) (F : L2.St → Prop) (e : Expr) (b : Bool) : Prop := PW X e fun σ H Q => F σ ∧ Q b H
def PAk (X : Cx) (F : L2.St → Prop) (es : List Expr) (vs : List V) : Prop := PA X es fun σ H Q => F σ ∧ Q vs H
def PSk (X : Cx) (F : L2.St → Prop) (ss : List Stmt) (v : V) : Prop := PSs X ss fun D σ H => F σ ∧ D.rt v H
theorem k_c {e : Expr} {v : V} (h : PE X e (tC v)) : PEk X F e v := PE_imp h fun σ H Q q => q.2
theorem k_var {i : Nat} {e : Expr} {v : V} (hF : ∀ σ, F σ → σ[i]? = some (some v)) (h : PE X e (tVar i)) : PEk X F e v := PE_imp h fun σ H Q q => ⟨v, hF σ q.1, q.2⟩
theorem ka_nil : PAk X F [] [] := PA_imp pa_nil fun σ H Q q => q.2
theorem ka_cons {e : Expr} {es : List Expr} {v : V} {vs : List V} (he : PEk X F e v) (hr : PAk X F es vs) (hs : starEach (e :: es) X.env = (false, eval e X.env) :: starEach es X.env := by rfl) : PAk X F (e :: es) (v :: vs) :=
  PA_imp (pa_cons he hr hs) fun σ H Q q => ⟨q.1, q.1, q.2⟩
theorem k_op {op : Operator} {r : R2} {a b : Expr} {x y z : V} {pos : Pos} (hz : ∀ H Q, Q z H → r x y H Q) (ho : OpR X (binaryOp op) r) (ha : PEk X F a x) (hb : PEk X F b y) : PEk X F (.BinOp a op b pos) z :=
  PE_imp (pe_op ho ha hb) fun σ H Q q => ⟨q.1, q.1, hz H Q q.2⟩
theorem k_and {a b : Expr} {rest : List Expr} {x y : Bool} {pos : Pos} (ha : PEk X F a (.bl x)) (hb : PEk X F (.BoolOp .And (b :: rest) pos) (.bl y)) : PEk X F (.BoolOp .And (a :: b :: rest) pos) (.bl (x && y)) :=
  PE_imp (pe_and ha hb) fun σ H Q q => ⟨q.1, x, rfl, by
    cases x with
    | true => exact ⟨q.1, q.2⟩
    | false => exact q.2⟩
theorem k_one {a : Expr} {op} {x : V} {pos : Pos} (ha : PEk X F a x) : PEk X F (.BoolOp op [a] pos) x := pe_one ha
theorem kt_val {e : Expr} {x : Bool} (h : PEk X F e (.bl x)) (he : ∀ whole, isTrue e X.env whole = (do let v ← whole; standAt e.pos; holding [v] (truthy v)) := by intro _; rfl) : PTk X F e x :=
  PT_imp (pt_val h he) fun σ H Q q => ⟨q.1, x, rfl, q.2⟩
theorem kw_or1 {a : Expr} {x : Bool} {pos : Pos} (h : PTk X F a x) : PWk X F (.BoolOp .Or [a] pos) x := pw_or1 h
theorem kw_or {a b : Expr} {rest : List Expr} {x y : Bool} {pos : Pos} (ha : PTk X F a x) (hb : PWk X F (.BoolOp .Or (b :: rest) pos) y) : PWk X F (.BoolOp .Or (a :: b :: rest) pos) (x || y) :=
  PW_imp (pw_or ha hb) fun σ H Q q => ⟨q.1, by
    cases x with
    | true => exact q.2
    | false => exact ⟨q.1, q.2⟩⟩
theorem kt_w {e : Expr} {x : Bool} (h : PWk X F e x) : PTk X F e x := PW.pt h
theorem b_isinstance : bootBuiltins "isinstance" = some (.builtin "isinstance") := by decide +kernel
/-- isinstance(e, C), e the exception of the suite -/
theorem k_isE {a D : Addr} {oe : Obj} {pn : List (Addr × Obj)} {e y : Expr} {cv : V} {cu : Value} {b : Bool} {p pos : Pos} (C : ExcC X.K D) (hz : L2N.Zn (.ref D) none oe) (hf : ∃ vs, oe.data = .fields vs)
    (hg : Gl X "isinstance") (hm : X.mg "isinstance" = none) (he : PEk (X.suite a ((a, oe) :: pn)) F e (.ref a)) (hy : PEk (X.suite a ((a, oe) :: pn)) F y cv) (hr : ∀ u, RelV cv u → u = cu) (hk : PySem.W.kitOne X.K (.ref D) cu = some b)
    (h1 : starEach [e, y] X.env = (false, eval e X.env) :: starEach [y] X.env := by rfl) (h2 : starEach [y] X.env = (false, eval y X.env) :: starEach [] X.env := by rfl) (hpl : (backTo pos (starEach [y] X.env)).any (·.1) = false := by rfl) :
    PEk (X.suite a ((a, oe) :: pn)) F (.Call (.Name "isinstance" p) [e, y] [] pos) (.bl b) :=
  PE_imp (pe_callB (X := X.suite a ((a, oe) :: pn)) (call_isE C hz.zc hf) hg hm b_isinstance (ka_cons he (ka_cons hy ka_nil h2) h1) (by decide) (by decide) h1 hpl) fun σ H Q q => ⟨q.1, cv, cu, b, rfl, hr, hk, q.2⟩
theorem k_int {e : Expr} {b : Bool} {p pos : Pos} (hg : Gl X "int") (hm : X.mg "int" = none) (he : PEk X F e (.bl b)) (h1 : starEach [e] X.env = (false, eval e X.env) :: starEach [] X.env := by rfl) (hpl : (backTo pos (starEach [] X.env)).any (·.1) = false := by rfl) :
    PEk X F (.Call (.Name "int" p) [e] [] pos) (.int (if b then 1 else 0)) :=
  PE_imp (pe_callTy call_int1 hg hm b_int (ka_cons he ka_nil h1) (by decide) (by decide) h1 hpl) fun σ H Q q => ⟨q.1, .inr ⟨b, rfl, q.2⟩⟩
theorem kit_own {K : PySem.W.Frag} {D C : Addr} {b : Bool} (hd : PySem.W.hasDictIn K C = true) (ty : PySem.W.typeIn K (.ref C) = some (.type "type")) (h : PySem.W.subIn K (.ref D) (.ref C) = some b) (hs : PySem.W.subIn K (.ref C) (.ref C) = some true) :
    PySem.W.kitOne K (.ref D) (.ref C) = some b := by
  obtain ⟨cd, hc, _⟩ := PySem.W.any_some hd
  have e2 : ((PySem.W.clsIn K C).isSome && PySem.W.typeIn K (.ref C) == some (.type "type")) = true := by rw [hc, ty] <;> rfl
  unfold PySem.W.kitOne
  split
  · rename_i g
    have g : Value.ref D = Value.ref C := beq_iff_eq.mp g
    cases g
    rw [hs] at h
    exact h
  · show (if ((PySem.W.clsIn K C).isSome && PySem.W.typeIn K (.ref C) == some (.type "type")) = true then _ else _) = _
    rw [if_pos e2]
    exact h
theorem b_ValueError : bootBuiltins "ValueError" = some (.type "ValueError") := by decide +kernel
theorem kit_val {K : PySem.W.Frag} {D : Addr} {b : Bool} (h : PySem.W.subIn K (.ref D) (.type "ValueError") = some b) : PySem.W.kitOne K (.ref D) (.type "ValueError") = some b := by
  show (if (Value.ref D == Value.type "ValueError") = true then some true else (if PySem.W.kitMeta "ValueError" = true then PySem.W.subIn K (.ref D) (.type "ValueError") else none)) = _
  rw [if_neg (by intro z; cases (beq_iff_eq.mp z)), if_pos (by decide +kernel)]
  exact h
/-! statements -/
theorem pss_no {ss : List Stmt} : PSs X ss (fun _ _ _ => False) := ⟨fun _ _ _ _ _ _ h => h.elim⟩
theorem ks_ret {e : Expr} {v : V} {pos : Pos} {rest : List Stmt} (h : PEk X F e v) : PSk X F (.Return (some e) pos :: rest) v :=
  PSs_imp (pss_cons (ps_ret h) (pss_no (ss := rest))) fun D σ H q => q
theorem ks_if {t : Expr} {b : Bool} {body rest : List Stmt} {v : V} {pos : Pos} (ht : PTk X F t b) (ha : b = true → PSk X F body v) (hb : b = false → PSk X F rest v) : PSk X F (.If t body [] pos :: rest) v := by
  cases b with
  | true => exact PSs_imp (pss_cons (ps_if ht (ha rfl) pss_nil) (pss_no (ss := rest))) fun D σ H q => ⟨q.1, q⟩
  | false => exact PSs_imp (pss_cons (ps_if ht (pss_no (ss := body)) pss_nil) (hb rfl)) fun D σ H q => ⟨q.1, q⟩
theorem ks_set {i : Nat} {x : Str} {e : Expr} {v w : V} {pos pos' : Pos} {rest : List Stmt} (h : PS X (.Assign [.Name x pos'] e pos) (tAsg (fun σ H Q => F σ ∧ Q w H) (gName i))) (hr : PSk X (fun σ' => ∃ σ, F σ ∧ σ' = σ.set i (some w)) rest v) : PSk X F (.Assign [.Name x pos'] e pos :: rest) v :=
  PSs_imp (pss_cons h hr) fun D σ H q => ⟨q.1, ⟨σ, q.1, rfl⟩, q.2⟩

/-! ### try -/
def dvV : Dv → Option V
  | .non => some .non
  | .bl b => some (.bl b)
  | .int i => some (.int i)
  | .str s => some (.str s)
  | _ => none
theorem dvV_rep {G : Cg} {D : Hp} {adr : List Addr} {d : Dv} {v : V} (h : dvV d = some v) : Rep G D adr v d := by
  unfold dvV at h
  split at h <;> cases h
  · exact .non
  · exact .bl _
  · exact .int _
  · exact .str _
/-- body; for the class c of what it raises: unknown here, not caught, or caught and this handed back -/
def sTryA (i : Nat) (tab : List (XC × Option Dv)) (body : S) : S := fun l m => match body l m with
  | .exc c l1 m1 => match tab.lookup c with
    | some (some d) => if i < l1.length then .rt d m1 else .bad
    | some none => .exc c l1 m1
    | none => .bad
  | o => o
def sTry (tab : List (XC × Option Dv)) (body : S) : S := fun l m => match body l m with
  | .exc c l1 m1 => match tab.lookup c with
    | some (some d) => .rt d m1
    | some none => .exc c l1 m1
    | none => .bad
  | o => o
/-- the clause 'except cv as n' (slot i) at each class of the table -/
inductive HdC (G : Cg) (X : Cx) (cv : Value) (i : Nat) (suite : List Stmt) : List (XC × Option Dv) → Prop
  | nil : HdC G X cv i suite []
  | miss {c : XC} {tab : List (XC × Option Dv)} (hx : PySem.W.exmOne X.K (.ref (G.xa c)) cv = some false) (r : HdC G X cv i suite tab) : HdC G X cv i suite ((c, none) :: tab)
  | hit {c : XC} {d : Dv} {v : V} {tab : List (XC × Option Dv)} (hx : PySem.W.exmOne X.K (.ref (G.xa c)) cv = some true) (hv : dvV d = some v)
      (hs : ∀ (a : Addr) (oe : Obj) (pn : List (Addr × Obj)), L2N.Zn (.ref (G.xa c)) none oe → (∃ vs, oe.data = .fields vs) → PSk (X.suite a ((a, oe) :: pn)) (fun σ => σ[i]? = some (some (.ref a))) suite v) (r : HdC G X cv i suite tab) :
      HdC G X cv i suite ((c, some d) :: tab)
theorem HdC.get {G : Cg} {X : Cx} {cv : Value} {i : Nat} {suite : List Stmt} {tab : List (XC × Option Dv)} (h : HdC G X cv i suite tab) {c : XC} {o : Option Dv} (e : tab.lookup c = some o) :
    PySem.W.exmOne X.K (.ref (G.xa c)) cv = some o.isSome ∧ ∀ d, o = some d → ∃ v, dvV d = some v ∧ ∀ (a : Addr) (oe : Obj) (pn : List (Addr × Obj)), L2N.Zn (.ref (G.xa c)) none oe → (∃ vs, oe.data = .fields vs) →
      PSk (X.suite a ((a, oe) :: pn)) (fun σ => σ[i]? = some (some (.ref a))) suite v := by
  induction h with
  | nil => cases e
  | miss hx r ih =>
    rename_i c' tab
    rw [List.lookup_cons] at e
    by_cases g : c = c'
    · subst g
      simp at e
      subst e
      exact ⟨hx, fun d z => by cases z⟩
    · have g' : (c == c') = false := by simpa using g
      rw [g'] at e
      exact ih e
  | hit hx hv hs r ih =>
    rename_i c' d' v' tab
    rw [List.lookup_cons] at e
    by_cases g : c = c'
    · subst g
      simp at e
      subst e
      exact ⟨hx, fun d z => by cases z; exact ⟨_, hv, hs⟩⟩
    · have g' : (c == c') = false := by simpa using g
      rw [g'] at e
      exact ih e
/-- the suite's reading, for any exception of the table's classes -/
def tHd (G : Cg) (X : Cx) (suite : List Stmt) (i : Nat) (a : Addr) (cls : Value) (d : Option Addr) : TS := fun D σ H => ∃ (c : XC) (v : V), cls = .ref (G.xa c) ∧ d = none ∧
  (∀ (oe : Obj) (pn : List (Addr × Obj)), L2N.Zn (.ref (G.xa c)) none oe → (∃ vs, oe.data = .fields vs) → PSk (X.suite a ((a, oe) :: pn)) (fun σ => σ[i]? = some (some (.ref a))) suite v) ∧ σ[i]? = some (some (.ref a)) ∧ D.rt v H
theorem ms_try_as {G : Cg} {W : WX} {x n : Str} {cv : Value} {i : Nat} {tab : List (XC × Option Dv)} {body suite : List Stmt} {mb : S} {b₀ : Stmt} {np pos pos' : Pos} (hk : X.K = G.K) (hs : X.stack = X.env :: X.outer) (hf : X.env.frame = some X.env.locals) (hN : X.N.Nodup) (hi : X.N[i]? = some n) (hln : X.env.kindOf n = some .local)
    (hc : Names X x cv) (tk : L2N.Takes X W) (hb : ∀ (W : WX) (pn : List (Addr × Obj)) (xe : Value → Shared → Prop), L2N.Takes (X.tr pn xe) W → PassesOwn (model X.prog X.w) X.A X.env xe → PSs (X.tr pn xe) body (tS G W mb))
    (hh : HdC G X cv i (b₀ :: suite) tab) : PS X (.Try body [.ExceptHandler (some (.Name x np)) (some n) (b₀ :: suite) pos'] [] [] pos) (tS G W (sTryA i tab mb)) := by
  refine PS_imp (L2N.ps_try_as (tb := fun W => tS G W mb) (ts := tHd G X (b₀ :: suite) i) (Wout := W) hs hf hN hi hln hc tk hb fun a oe cls d pn z f => ?_) fun De σ H ⟨D, adr, l, m, rm, rs, q⟩ => ?_
  · refine ⟨fun pins s σ H D I ⟨c, v, e1, e2, h, hσ, q⟩ => ?_⟩
    subst e1 e2
    exact (h oe pn z f).run pins s σ H D I ⟨hσ, q⟩
  · refine ⟨D, adr, l, m, rm, rs, ?_⟩
    unfold sTryA at q
    cases e : mb l m with
    | nx l1 m1 => rw [e] at q; exact q
    | rt d m1 => rw [e] at q; exact q
    | bk l1 m1 => rw [e] at q; exact q
    | ct l1 m1 => rw [e] at q; exact q
    | bad => rw [e] at q; exact q.elim
    | exc c l1 m1 =>
      rw [e] at q
      intro σ' H' D' a' le pf rm' rs'
      show wAs _ _ _ _ _ _ _ _ _ _
      cases hl : tab.lookup c with
      | none => simp only [hl] at q; exact q.elim
      | some o =>
        obtain ⟨h1, h2⟩ := hh.get hl
        simp only [hl] at q
        refine ⟨_, h1, ?_, ?_⟩
        · intro ho a ha
          cases o with
          | none => cases ho
          | some d =>
            obtain ⟨v, hv, hs⟩ := h2 d rfl
            by_cases hi : i < l1.length
            · simp only [hi, if_true] at q
              exact ⟨c, v, rfl, rfl, hs a, List.getElem?_set_self (by rw [← rs'.1]; exact hi), q v H' D' a' le pf rm' (dvV_rep hv)⟩
            · simp only [hi, if_false] at q
              exact q.elim
        · intro ho
          cases o with
          | some d => cases ho
          | none => exact q σ' H' D' a' le pf rm' rs'

/-- the clauses without a name, at one class: the first that catches, or none -/
inductive McC (G : Cg) (X : Cx) (c : XC) : List ExceptHandler → List (Value × V) → Option V → Prop
  | nil : McC G X c [] [] none
  | miss {x : Str} {cv : Value} {u : V} {b₀ : Stmt} {suite : List Stmt} {np pos' : Pos} {hds : List ExceptHandler} {l : List (Value × V)} {o : Option V} (hx : PySem.W.exmOne X.K (.ref (G.xa c)) cv = some false) (r : McC G X c hds l o) :
      McC G X c (.ExceptHandler (some (.Name x np)) none (b₀ :: suite) pos' :: hds) ((cv, u) :: l) o
  | hit {x : Str} {cv : Value} {u : V} {b₀ : Stmt} {suite : List Stmt} {np pos' : Pos} {hds : List ExceptHandler} {l : List (Value × V)} (hx : PySem.W.exmOne X.K (.ref (G.xa c)) cv = some true) :
      McC G X c (.ExceptHandler (some (.Name x np)) none (b₀ :: suite) pos' :: hds) ((cv, u) :: l) (some u)
/-- the clauses hold constants -/
inductive HdsK (X : Cx) : List ExceptHandler → List (Value × V) → Prop
  | nil : HdsK X [] []
  | cons {x : Str} {cv : Value} {u : V} {b₀ : Stmt} {suite : List Stmt} {np pos' : Pos} {hds : List ExceptHandler} {l : List (Value × V)} (hc : Names X x cv)
      (hsu : ∀ (a : Addr) (oe : Obj) (pn : List (Addr × Obj)), PSk (X.suite a ((a, oe) :: pn)) (fun _ => True) (b₀ :: suite) u) (r : HdsK X hds l) :
      HdsK X (.ExceptHandler (some (.Name x np)) none (b₀ :: suite) pos' :: hds) ((cv, u) :: l)
def kTs (u : V) : Addr → Value → Option Addr → TS := fun _ _ _ D _ H => D.rt u H
def kL (l : List (Value × V)) : List (Value × (Addr → Value → Option Addr → TS)) := l.map fun p => (p.1, kTs p.2)
theorem HdsK.ok {hds : List ExceptHandler} {l : List (Value × V)} (h : HdsK X hds l) : L2N.HdsOk X hds (kL l) := by
  induction h with
  | nil => exact .nil
  | cons hc hsu r ih => exact .cons hc (fun a oe cls d pn z f => PSs_imp (hsu a oe pn) fun D σ H q => ⟨trivial, q⟩) ih
/-- the table's rows -/
inductive TabK (G : Cg) (X : Cx) (hds : List ExceptHandler) (l : List (Value × V)) : List (XC × Option Dv) → Prop
  | nil : TabK G X hds l []
  | miss {c : XC} {tab : List (XC × Option Dv)} (h : McC G X c hds l none) (r : TabK G X hds l tab) : TabK G X hds l ((c, none) :: tab)
  | hit {c : XC} {d : Dv} {v : V} {tab : List (XC × Option Dv)} (hv : dvV d = some v) (h : McC G X c hds l (some v)) (r : TabK G X hds l tab) : TabK G X hds l ((c, some d) :: tab)
theorem TabK.get {G : Cg} {hds : List ExceptHandler} {l : List (Value × V)} {tab : List (XC × Option Dv)} (h : TabK G X hds l tab) {c : XC} {o : Option Dv} (e : tab.lookup c = some o) :
    ∃ ov, McC G X c hds l ov ∧ (∀ d, o = some d → ∃ v, dvV d = some v ∧ ov = some v) ∧ (o = none → ov = none) := by
  induction h with
  | nil => cases e
  | miss hx r ih =>
    rename_i c' tab
    rw [List.lookup_cons] at e
    by_cases g : c = c'
    · subst g
      simp at e
      subst e
      exact ⟨_, hx, fun d z => (by cases z), fun _ => rfl⟩
    · have g' : (c == c') = false := by simpa using g
      rw [g'] at e
      exact ih e
  | hit hv hs r ih =>
    rename_i c' d' v' tab
    rw [List.lookup_cons] at e
    by_cases g : c = c'
    · subst g
      simp at e
      subst e
      exact ⟨_, hs, fun d z => (by cases z; exact ⟨_, hv, rfl⟩), fun z => by cases z⟩
    · have g' : (c == c') = false := by simpa using g
      rw [g'] at e
      exact ih e
theorem McC.wish {G : Cg} {c : XC} {hds : List ExceptHandler} {l : List (Value × V)} {ov : Option V} (h : McC G X c hds l ov) {Wout : WX} {D : Ends} {σ : L2.St} {H : Hp}
    (h1 : ∀ v, ov = some v → D.rt v H) (h2 : ov = none → Wout (.ref (G.xa c)) none σ H) : wMany X.K Wout D (kL l) (.ref (G.xa c)) none σ H := by
  induction h with
  | nil => exact h2 rfl
  | miss hx r ih => exact ⟨false, hx, fun z => (by cases z), fun _ => ih h1 h2⟩
  | hit hx => exact ⟨true, hx, fun _ a _ => h1 _ rfl, fun z => (by cases z)⟩
theorem ms_try {G : Cg} {W : WX} {tab : List (XC × Option Dv)} {l : List (Value × V)} {body : List Stmt} {mb : S} {h₀ : ExceptHandler} {hds : List ExceptHandler} {pos : Pos} (hs : X.stack = X.env :: X.outer) (hf : X.env.frame = some X.env.locals)
    (tk : L2N.Takes X W) (hb : ∀ (W : WX) (pn : List (Addr × Obj)) (xe : Value → Shared → Prop), L2N.Takes (X.tr pn xe) W → PassesOwn (model X.prog X.w) X.A X.env xe → PSs (X.tr pn xe) body (tS G W mb))
    (hh : HdsK X (h₀ :: hds) l) (ht : TabK G X (h₀ :: hds) l tab) : PS X (.Try body (h₀ :: hds) [] [] pos) (tS G W (sTry tab mb)) := by
  refine PS_imp (L2N.ps_try_many (tb := fun W => tS G W mb) (Wout := W) hs hf tk hb hh.ok) fun De σ H ⟨D, adr, l, m, rm, rs, q⟩ => ?_
  refine ⟨D, adr, l, m, rm, rs, ?_⟩
  unfold sTry at q
  cases e : mb l m with
  | nx l1 m1 => rw [e] at q; exact q
  | rt d m1 => rw [e] at q; exact q
  | bk l1 m1 => rw [e] at q; exact q
  | ct l1 m1 => rw [e] at q; exact q
  | bad => rw [e] at q; exact q.elim
  | exc c l1 m1 =>
    rw [e] at q
    intro σ' H' D' a' le pf rm' rs'
    cases hl : tab.lookup c with
    | none => simp only [hl] at q; exact q.elim
    | some o =>
      obtain ⟨ov, h1, h2, h3⟩ := ht.get hl
      simp only [hl] at q
      refine h1.wish (fun v hv => ?_) fun hn => ?_
      · cases o with
        | none => rw [h3 rfl] at hv; cases hv
        | some d =>
          obtain ⟨v', hv', e2⟩ := h2 d rfl
          rw [e2] at hv
          cases hv
          exact q v H' D' a' le pf rm' (dvV_rep hv')
      · cases o with
        | some d =>
          obtain ⟨v', _, e2⟩ := h2 d rfl
          rw [e2] at hn
          cases hn
        | none => exact q σ' H' D' a' le pf rm' rs'
end
end Sn
/-! Sn10 -/
set_option Elab.async false
set_option linter.all false
set_option maxRecDepth 100000
set_option autoImplicit false
set_option maxHeartbeats 1000000
/-! Sn10: a name that holds a def, called; a list that changes no more -/
namespace Sn
open PySem PySem.Spec PyProof.Rows L2
section
variable {G : Cg} {X : Cx} {W : WX}
def tCallLS (i : Nat) (f : Addr) (sp : Sp) (E : L2.St → XK) (t : TA) : TE := fun σ H Q => σ[i]? = some (some (.ref f)) ∧ t σ H fun vs H1 => sp vs H1 Q (E σ)
theorem pe_callLS {CX : CXT} {k i : Nat} {f : Addr} {fd : FuncData} {ps : List Str} {sp : Sp} {E : L2.St → XK} {x : Str} {p pos : Pos} {e : Expr} {es : List Expr} {t : TA} (F : FnOk X.prog X.w X.K X.mg X.base CX k f fd ps sp) (hr : Room k X.A) (hN : X.N[i]? = some x) (hv : Vis X.env.scope x)
    (hk : PySem.W.keepIn X.K (.ref f) = true) (hb : Binds X.K fd ps []) (hx : ∀ σ, PassesAt CX X σ (E σ)) (ha : PA X (e :: es) t) (hdb : (x == ("__debug__" : Str)) = false := by decide) (hcd : (x == ("__classdict__" : Str)) = false := by decide)
    (he : starEach (e :: es) X.env = (false, eval e X.env) :: starEach es X.env := by rfl) (hpl : (backTo pos (starEach es X.env)).any (·.1) = false := by rfl) : PE X (.Call (.Name x p) (e :: es) [] pos) (tCallLS i f sp E t) := by
  refine ⟨fun pins s σ H Q I h => ?_⟩
  obtain ⟨hs, ht⟩ := h
  refine wpAny_Call_Name_kw (thn ((pe_var (pos := p) hN hv hdb hcd).run pins s σ H (fun v H1 => v = .ref f ∧ H1 = H) I ⟨.ref f, hs, rfl, rfl⟩) fun u s1 ⟨v, H1, I1, r1, q1⟩ => ?_)
  obtain ⟨rfl, rfl⟩ := q1
  cases r1
  refine PySem.W.callWith_K (h₀ := X.base) I.ok.mod.kin hk (thn (ha.run pos pins s1 σ _ _ I1 ht) fun us s2 ⟨vs, H2, I2, r, q⟩ => ⟨I2.kIn, ?_⟩) he hpl
  exact run_fnS F hr hb (hx σ) I2 r q
/-- the defs that a name may hold, from number k on -/
inductive HeldL (G : Cg) (P : Program) (w : World) (mg : Str → Option Value) (base : Heap) (n j : Nat) : Nat → List Fn → Prop
  | nil {k : Nat} : HeldL G P w mg base n j k []
  | cons {k q : Nat} {f : Fn} {fd : FuncData} {ps : List Str} {fs : List Fn} (hq : q ≤ j) (F : FnOk P w G.K mg base (L2N.CX P w) q (G.fns k) fd ps (spM G n f)) (hk : PySem.W.keepIn G.K (.ref (G.fns k)) = true) (hb : Binds G.K fd ps []) (r : HeldL G P w mg base n j (k + 1) fs) :
      HeldL G P w mg base n j k (f :: fs)
theorem HeldL.get {P : Program} {w : World} {mg : Str → Option Value} {base : Heap} {n j : Nat} {k : Nat} {fs : List Fn} (h : HeldL G P w mg base n j k fs) : ∀ {i : Nat} {f : Fn}, fs[i]? = some f →
    ∃ q fd ps, q ≤ j ∧ FnOk P w G.K mg base (L2N.CX P w) q (G.fns (k + i)) fd ps (spM G n f) ∧ PySem.W.keepIn G.K (.ref (G.fns (k + i))) = true ∧ Binds G.K fd ps [] := by
  induction h with
  | nil => intro i f e; simp at e
  | cons hq F hk hb r ih =>
    intro i f e
    cases i with
    | zero =>
      simp at e
      subst e
      exact ⟨_, _, _, hq, F, hk, hb⟩
    | succ i =>
      have := ih (i := i) (by simpa using e)
      rwa [show ∀ k, k + 1 + i = k + (i + 1) from fun k => by omega] at this
def eCallV (i n : Nat) (fs : List Fn) (ms : A) : E := fun l m => match l[i]? with
  | some (some (.fn k)) => match fs[k]? with
    | some f => (ms l m).bind fun ds m1 => if ds.length = n then f ds m1 else .bad
    | none => .bad
  | _ => .bad
theorem me_callV {i n j : Nat} {fs : List Fn} {x : Str} {p pos : Pos} {e : Expr} {es : List Expr} {ms : A} (hK : X.K = G.K) (A : HeldL G X.prog X.w X.mg X.base n j 0 fs) (tk : L2N.Takes X W) (hr : Room j X.A) (hN : X.N[i]? = some x) (hv : Vis X.env.scope x) (ha : PA X (e :: es) (tMA G W ms))
    (hdb : (x == ("__debug__" : Str)) = false := by decide) (hcd : (x == ("__classdict__" : Str)) = false := by decide) (he : starEach (e :: es) X.env = (false, eval e X.env) :: starEach es X.env := by rfl) (hpl : (backTo pos (starEach es X.env)).any (·.1) = false := by rfl) :
    PE X (.Call (.Name x p) (e :: es) [] pos) (tM G W (eCallV i n fs ms)) := by
  refine ⟨fun pins s σ H Q I h => ?_⟩
  obtain ⟨D, adr, l, m, rm, rs, a⟩ := h
  unfold eCallV at a
  cases hl : l[i]? with
  | none => rw [hl] at a; exact a.elim
  | some o =>
    rw [hl] at a
    cases o with
    | none => exact a.elim
    | some d =>
      cases d with
      | fn k =>
        cases hf : fs[k]? with
        | none => simp only [hf] at a; exact a.elim
        | some f =>
          simp only [hf] at a
          obtain ⟨q, fd, ps, hq, F, hk, hb⟩ := A.get hf
          rw [Nat.zero_add] at F hk
          rw [← hK] at F hk hb
          obtain ⟨v, hv1, hv2⟩ := rs.2 i _ hl
          have ev : v = .ref (G.fns k) := by cases hv2; rfl
          rw [ev] at hv1
          refine (pe_callLS (p := p) F (hr.mono hq) hN hv hk hb (fun σ => L2N.passAt tk σ) ha hdb hcd he hpl).run pins s σ H Q I ⟨hv1, ?_⟩
          exact step rm rs a fun vs H1 D1 a1 ds m1 e1 f1 rm1 rs1 r b => by
            split at b
            · rename_i hl
              exact ⟨D1, a1, m1, ds, rm1, r, hl, aft_we b⟩
            · exact b.elim
      | _ => exact a.elim
/-- from here on the list that the name i holds is data -/
def sThaw (i : Nat) (s : S) : S := fun l m => match l[i]? with
  | some (some (.loc n)) => match m[n]? with
    | some (.lst ds) => s (l.set i (some (.lst ds))) (m.set n .dead)
    | _ => .bad
  | _ => .bad
theorem thaw_imp {i : Nat} {s : S} (De : Ends) (σ : L2.St) (H : Hp) (h : tS G W (sThaw i s) De σ H) : tS G W s De σ H := by
  obtain ⟨D, adr, l, m, rm, rs, a⟩ := h
  unfold sThaw at a
  split at a
  · rename_i n hl
    split at a
    · rename_i ds hm
      obtain ⟨v, h1, h2⟩ := rs.2 i _ hl
      obtain ⟨b, rfl, g1, vs, g2, g3⟩ := rm.of_loc h2 hm
      obtain ⟨rm2, le⟩ := rm.freeze g1 hm trivial g2
      refine ⟨_, adr, _, _, rm2, ?_, a.mono le (Pf.refl _)⟩
      have rs2 := rs.mono le (Pf.refl _)
      refine ⟨by simp [rs2.1], fun j d e => ?_⟩
      by_cases hij : i = j
      · subst hij
        rw [List.getElem?_set_self (List.getElem?_eq_some_iff.mp hl).1] at e
        cases e
        exact ⟨_, h1, .lst upd_same (Reps.mono le (Pf.refl _) _ _ g3)⟩
      · rw [List.getElem?_set_ne hij] at e
        exact rs2.2 j d e
    · exact a.elim
  · exact a.elim
theorem ms_thaw {i : Nat} {st : Stmt} {s : S} (h : PS X st (tS G W s)) : PS X st (tS G W (sThaw i s)) := PS_imp h fun De σ H q => thaw_imp De σ H q
theorem mss_thaw {i : Nat} {sts : List Stmt} {s : S} (h : PSs X sts (tS G W s)) : PSs X sts (tS G W (sThaw i s)) := PSs_imp h fun De σ H q => thaw_imp De σ H q
end
end Sn
/-! Sx -/
set_option Elab.async false
set_option linter.all false
set_option maxRecDepth 100000
set_option autoImplicit false
set_option maxHeartbeats 1000000
/-! Sx: how the mirror is reckoned with -/
namespace Sn
open PySem PySem.Spec PyProof.Rows L2


/-! what comes next waits, unseen by the simplifier, until what is before it is known -/
theorem rr {α : Type} {a b : α} (h : a = b) : a = b := h
class Kt (α β : Type) where
  k : α → Mem → Res β
class Ko (α : Type) where
  k : α → Mem → Out
def Res.go {α β : Type} (r : Res α) [i : Kt α β] : Res β := r.bind i.k
def Res.goS {α : Type} (r : Res α) (l : Lc) [i : Ko α] : Out := r.out l i.k
@[simp ↓] theorem bind_go {α β : Type} (r : Res α) (k : α → Mem → Res β) : Res.bind r k = @Res.go α β r ⟨k⟩ := rr rfl
@[simp ↓] theorem out_go {α : Type} (r : Res α) (l : Lc) (k : α → Mem → Out) : Res.out r l k = @Res.goS α r l ⟨k⟩ := rr rfl
@[simp] theorem go_ok {α β : Type} (a : α) (m : Mem) (k : α → Mem → Res β) : @Res.go α β (.ok a m) ⟨k⟩ = k a m := rr rfl
@[simp] theorem go_exc {α β : Type} (c : XC) (m : Mem) (k : α → Mem → Res β) : @Res.go α β (.exc c m) ⟨k⟩ = .exc c m := rr rfl
@[simp] theorem goS_ok {α : Type} (a : α) (m : Mem) (l : Lc) (k : α → Mem → Out) : @Res.goS α (.ok a m) l ⟨k⟩ = k a m := rr rfl
@[simp] theorem goS_exc {α : Type} (c : XC) (m : Mem) (l : Lc) (k : α → Mem → Out) : @Res.goS α (.exc c m) l ⟨k⟩ = .exc c l m := rr rfl
def Out.seq (o : Out) (b : S) : Out := match o with
  | .nx l m => b l m
  | o => o
@[simp] theorem seq_nx (l : Lc) (m : Mem) (b : S) : Out.seq (.nx l m) b = b l m := rr rfl
@[simp] theorem seq_rt (d : Dv) (m : Mem) (b : S) : Out.seq (.rt d m) b = .rt d m := rr rfl
@[simp] theorem seq_exc (c : XC) (l : Lc) (m : Mem) (b : S) : Out.seq (.exc c l m) b = .exc c l m := rr rfl
@[simp] theorem sSeq_r (a b : S) (l : Lc) (m : Mem) : sSeq a b l m = Out.seq (a l m) b := by
  unfold sSeq Out.seq
  cases a l m <;> rfl
/-- a variable's value -/
def valO (o : Option (Option Dv)) (m : Mem) : Res Dv := match o with
  | some (some d) => .ok d m
  | _ => .bad
@[simp] theorem valO_ok (d : Dv) (m : Mem) : valO (some (some d)) m = .ok d m := rr rfl
@[simp] theorem eVar_r (i : Nat) (l : Lc) (m : Mem) : eVar i l m = valO l[i]? m := rr rfl
@[simp] theorem eC_r (d : Dv) (l : Lc) (m : Mem) : eC d l m = .ok d m := rr rfl
@[simp] theorem eBin_r (f : Dv → Dv → Mem → Res Dv) (a b : E) (l : Lc) (m : Mem) : eBin f a b l m = (a l m).bind fun x m1 => (b l m1).bind fun y m2 => f x y m2 := rr rfl
@[simp] theorem eUn_r (f : Dv → Mem → Res Dv) (a : E) (l : Lc) (m : Mem) : eUn f a l m = (a l m).bind f := rr rfl
@[simp] theorem asB_r (b : Bool) (m : Mem) : asB (.bl b) m = .ok b m := rr rfl
@[simp] theorem tV_r (e : E) (l : Lc) (m : Mem) : tV e l m = (e l m).bind asB := rr rfl
@[simp] theorem tAndM_r (a b : T) (l : Lc) (m : Mem) : tAndM a b l m = (a l m).bind fun x m1 => if x then b l m1 else .ok false m1 := rr rfl
@[simp] theorem tOrM_r (a b : T) (l : Lc) (m : Mem) : tOrM a b l m = (a l m).bind fun x m1 => if x then .ok true m1 else b l m1 := rr rfl
@[simp] theorem tNotM_r (a : T) (l : Lc) (m : Mem) : tNotM a l m = (a l m).bind fun x m1 => .ok (!x) m1 := rr rfl
@[simp] theorem eAnd_r (a b : E) (l : Lc) (m : Mem) : eAnd a b l m = (a l m).bind fun x m1 => match x with
  | .bl c => if c then b l m1 else .ok (.bl false) m1
  | _ => .bad := rr rfl
@[simp] theorem eOr_r (a b : E) (l : Lc) (m : Mem) : eOr a b l m = (a l m).bind fun x m1 => match x with
  | .bl c => if c then .ok (.bl true) m1 else b l m1
  | _ => .bad := rr rfl
@[simp] theorem eNot_r (a : E) (l : Lc) (m : Mem) : eNot a l m = (a l m).bind fun x m1 => match x with
  | .bl c => .ok (.bl (!c)) m1
  | _ => .bad := rr rfl
@[simp] theorem aNil_r (l : Lc) (m : Mem) : aNil l m = .ok [] m := rr rfl
@[simp] theorem aCons_r (e : E) (r : A) (l : Lc) (m : Mem) : aCons e r l m = (e l m).bind fun x m1 => (r l m1).bind fun xs m2 => .ok (x :: xs) m2 := rr rfl
@[simp] theorem eMk_r (k : List Dv → Mem → Res Dv) (es : A) (l : Lc) (m : Mem) : eMk k es l m = (es l m).bind k := rr rfl
@[simp] theorem sNil_r (l : Lc) (m : Mem) : sNil l m = .nx l m := rr rfl
@[simp] theorem sSet_r (i : Nat) (e : E) (l : Lc) (m : Mem) : sSet i e l m = (e l m).out l fun d m1 => .nx (l.set i (some d)) m1 := rr rfl
@[simp] theorem sExpr_r (e : E) (l : Lc) (m : Mem) : sExpr e l m = (e l m).out l fun _ m1 => .nx l m1 := rr rfl
@[simp] theorem sRet_r (e : E) (l : Lc) (m : Mem) : sRet e l m = (e l m).out l fun d m1 => .rt d m1 := rr rfl
@[simp] theorem sIf_r (t : T) (a b : S) (l : Lc) (m : Mem) : sIf t a b l m = (t l m).out l fun x m1 => if x then a l m1 else b l m1 := rr rfl
@[simp] theorem tYesM_r (l : Lc) (m : Mem) : tYesM l m = .ok true m := rr rfl
@[simp] theorem iSeq_lst (e : E) (l : Lc) (m : Mem) : iSeq e l m = (e l m).bind fun d m1 => match itm d with
  | some ds => .ok ds m1
  | none => .bad := rr rfl
@[simp] theorem itm_lst (ds : List Dv) : itm (.lst ds) = some ds := rr rfl
@[simp] theorem itm_tup (ds : List Dv) : itm (.tup ds) = some ds := rr rfl
@[simp] theorem itm_scr (ns : List Int) : itm (.scr ns) = some (ns.map Dv.int) := rr rfl
@[simp] theorem iR1_r (ms : A) (l : Lc) (m : Mem) : iR1 ms l m = (ms l m).bind fun ds m1 => match ds with
  | [.int j] => if -(2 ^ 62) ≤ j ∧ j < 2 ^ 62 then .ok (rng 0 j.toNat) m1 else .bad
  | _ => .bad := rr rfl
@[simp] theorem iR2_r (ms : A) (l : Lc) (m : Mem) : iR2 ms l m = (ms l m).bind fun ds m1 => match ds with
  | [.int i, .int j] => if -(2 ^ 62) ≤ i ∧ i < 2 ^ 62 ∧ -(2 ^ 62) ≤ j ∧ j < 2 ^ 62 then .ok (rng i (j - i).toNat) m1 else .bad
  | _ => .bad := rr rfl
@[simp] theorem iStrM_r (e : E) (l : Lc) (m : Mem) : iStrM e l m = (e l m).bind fun d m1 => match d with
  | .str z => .ok (sgn z) m1
  | _ => .bad := rr rfl
@[simp] theorem sFor_r (it : A) (tg : Tg) (body : S) (l : Lc) (m : Mem) : sFor it tg body l m = (it l m).out l fun ds m1 => forM tg body ds l m1 := rr rfl
@[simp] theorem tgN_r (i : Nat) (d : Dv) (l : Lc) : tgN i d l = some (l.set i (some d)) := rr rfl
@[simp] theorem tg2_r (i j : Nat) (a b : Dv) (l : Lc) : tg2 i j (.tup [a, b]) l = some ((l.set i (some a)).set j (some b)) := rr rfl
@[simp] theorem oNone_r (l : Lc) (m : Mem) : oNone l m = .ok none m := rr rfl
@[simp] theorem oSome_r (e : E) (l : Lc) (m : Mem) : oSome e l m = (e l m).bind fun d m1 => match d with
  | .int i => .ok (some i) m1
  | _ => .bad := rr rfl
@[simp] theorem eSl_r (e : E) (lo hi : O) (l : Lc) (m : Mem) : eSl e lo hi l m = (e l m).bind fun d m1 => (lo l m1).bind fun i m2 => (hi l m2).bind fun j m3 => slD d i j m3 := rr rfl
@[simp] theorem insOf_r (n : Nat) (m : Mem) : insOf m (.loc n) = (match m[n]? with
    | some (.ins C fs) => some (C, fs)
    | _ => none) := rr rfl
@[simp] theorem eFld_r (C i : Nat) (o : E) (l : Lc) (m : Mem) : eFld C i o l m = (o l m).bind fun x m1 => match insOf m1 x with
  | some (C', fs) => if C' = C then (match fs[i]? with
    | some d => .ok d m1
    | none => .bad) else .bad
  | none => .bad := rr rfl
@[simp] theorem eCall_r (n : Nat) (f : Fn) (ms : A) (l : Lc) (m : Mem) : eCall n f ms l m = (ms l m).bind fun ds m1 => if ds.length = n then f ds m1 else .bad := rr rfl
@[simp] theorem eMeth_r (C n : Nat) (f : Fn) (o : E) (ms : A) (l : Lc) (m : Mem) : eMeth C n f o ms l m = (o l m).bind fun x m1 => match insOf m1 x with
  | some (C', _) => if C' = C then (ms l m1).bind fun ds m2 => (if (x :: ds).length = n then f (x :: ds) m2 else .bad) else .bad
  | none => .bad := rr rfl
@[simp] theorem eCallV_r (i n : Nat) (fs : List Fn) (ms : A) (l : Lc) (m : Mem) : eCallV i n fs ms l m = (match l[i]? with
  | some (some (.fn k)) => match fs[k]? with
    | some f => (ms l m).bind fun ds m1 => if ds.length = n then f ds m1 else .bad
    | none => .bad
  | _ => .bad) := rr rfl
@[simp] theorem sThaw_r (i : Nat) (s : S) (l : Lc) (m : Mem) : sThaw i s l m = (match l[i]? with
  | some (some (.loc n)) => match m[n]? with
    | some (.lst ds) => s (l.set i (some (.lst ds))) (m.set n .dead)
    | _ => .bad
  | _ => .bad) := rr rfl
@[simp] theorem eDisp1_r (k : Key) (e : E) (l : Lc) (m : Mem) : eDisp1 k e l m = (e l (m ++ [.dic []])).bind fun d m1 => match m1[m.length]? with
  | some (.dic []) => .ok (.loc m.length) (m1.set m.length (.dic [(k, d)]))
  | _ => .bad := rr rfl
@[simp] theorem eMake0_r (C : Nat) (f : Fn) (l : Lc) (m : Mem) : eMake0 C f l m = (match f [.loc m.length] (m ++ [.ins C []]) with
  | .ok .non m1 => .ok (.loc m.length) m1
  | _ => .bad) := rr rfl
/-- the end of a try -/
def Out.got (tab : List (XC × Option Dv)) (o : Out) : Out := match o with
  | .exc c l1 m1 => match tab.lookup c with
    | some (some d) => .rt d m1
    | some none => .exc c l1 m1
    | none => .bad
  | o => o
def Out.gotA (i : Nat) (tab : List (XC × Option Dv)) (o : Out) : Out := match o with
  | .exc c l1 m1 => match tab.lookup c with
    | some (some d) => if i < l1.length then .rt d m1 else .bad
    | some none => .exc c l1 m1
    | none => .bad
  | o => o
@[simp] theorem sTry_r (tab : List (XC × Option Dv)) (b : S) (l : Lc) (m : Mem) : sTry tab b l m = Out.got tab (b l m) := by
  unfold sTry Out.got
  cases b l m <;> rfl
@[simp] theorem sTryA_r (i : Nat) (tab : List (XC × Option Dv)) (b : S) (l : Lc) (m : Mem) : sTryA i tab b l m = Out.gotA i tab (b l m) := by
  unfold sTryA Out.gotA
  cases b l m <;> rfl
@[simp] theorem got_nx (tab : List (XC × Option Dv)) (l : Lc) (m : Mem) : Out.got tab (.nx l m) = .nx l m := rr rfl
@[simp] theorem got_rt (tab : List (XC × Option Dv)) (d : Dv) (m : Mem) : Out.got tab (.rt d m) = .rt d m := rr rfl
@[simp] theorem got_exc (tab : List (XC × Option Dv)) (c : XC) (l : Lc) (m : Mem) : Out.got tab (.exc c l m) = (match tab.lookup c with
    | some (some d) => .rt d m
    | some none => .exc c l m
    | none => .bad) := rr rfl
@[simp] theorem gotA_nx (i : Nat) (tab : List (XC × Option Dv)) (l : Lc) (m : Mem) : Out.gotA i tab (.nx l m) = .nx l m := rr rfl
@[simp] theorem gotA_rt (i : Nat) (tab : List (XC × Option Dv)) (d : Dv) (m : Mem) : Out.gotA i tab (.rt d m) = .rt d m := rr rfl
@[simp] theorem gotA_exc (i : Nat) (tab : List (XC × Option Dv)) (c : XC) (l : Lc) (m : Mem) : Out.gotA i tab (.exc c l m) = (match tab.lookup c with
    | some (some d) => if i < l.length then .rt d m else .bad
    | some none => .exc c l m
    | none => .bad) := rr rfl
@[simp] theorem sFldM_r (C i : Nat) (o e : E) (l : Lc) (m : Mem) : sFldM C i o e l m = (e l m).out l fun d m1 => (o l m1).out l fun x m2 => match setIns m2 x C i d with
  | some m3 => .nx l m3
  | none => .bad := rr rfl
@[simp] theorem sRaise_r (c : XC) (l : Lc) (m : Mem) : sRaise c l m = .exc c l m := rr rfl
@[simp] theorem tTruth_r (e : E) (l : Lc) (m : Mem) : tTruth e l m = (e l m).bind fun d m1 => match sq m1 d with
  | some ds => .ok (!ds.isEmpty) m1
  | none => .bad := rr rfl
@[simp] theorem eApp_r (o e : E) (l : Lc) (m : Mem) : eApp o e l m = (o l m).bind fun x m1 => match lAt m1 x with
  | some _ => (e l m1).bind fun y m2 => (match lAt m2 x with
    | some (n, ds) => if ds.length < big then .ok .non (m2.set n (.lst (ds ++ [y]))) else .bad
    | none => .bad)
  | none => .bad := rr rfl
@[simp] theorem ePop_r (o : E) (l : Lc) (m : Mem) : ePop o l m = (o l m).bind fun x m1 => match lAt m1 x with
  | some (n, ds) => (match ds[ds.length - 1]? with
    | some y => .ok y (m1.set n (.lst ds.dropLast))
    | none => .bad)
  | none => .bad := rr rfl
@[simp] theorem sSetIx_r (o i e : E) (l : Lc) (m : Mem) : sSetIx o i e l m = (e l m).out l fun y m1 => (o l m1).out l fun x m2 => (i l m2).out l fun k m3 => match lAt m3 x, k with
  | some (n, ds), .int k => (match ixN ds.length k with
    | some j => .nx l (m3.set n (.lst (ds.set j y)))
    | none => .bad)
  | _, _ => .bad := rr rfl
@[simp] theorem lAt_r (n : Nat) (m : Mem) : lAt m (.loc n) = (match m[n]? with
    | some (.lst ds) => some (n, ds)
    | _ => none) := rr rfl
@[simp] theorem kAt_r (n : Nat) (m : Mem) : kAt m (.loc n) = (match m[n]? with
    | some (.dic ds) => some (n, ds)
    | _ => none) := rr rfl
@[simp] theorem dcAt_r (n : Nat) (m : Mem) : dcAt m (.loc n) = (match m[n]? with
    | some (.dic kds) => some (.k kds)
    | some (.dit kds) => some (.t kds)
    | some (.lck kds) => some (.k kds)
    | some (.lct kds) => some (.t kds)
    | _ => none) := rr rfl
@[simp] theorem keyD_i (i : Int) : keyD (.int i) = some (.inl i) := rr rfl
@[simp] theorem keyD_s (i : Str) : keyD (.str i) = some (.inr i) := rr rfl
@[simp] theorem dgetD_r (m : Mem) (x y : Dv) : dgetD m x y = (match dcAt m x with
  | some (.k kds) => (keyD y).map (valG kds)
  | some (.t kds) => (keyT y).map (valG kds)
  | none => none) := rr rfl
@[simp] theorem dputD_r (m : Mem) (n : Nat) (y d : Dv) : dputD m (.loc n) y d = (match m[n]? with
    | some (.dic kds) => match keyD y with
      | some k => if kds.length < big then some (m.set n (.dic (putG kds k d))) else none
      | none => none
    | some (.dit kds) => match keyT y with
      | some k => if kds.length < big then some (m.set n (.dit (putG kds k d))) else none
      | none => none
    | _ => none) := rr rfl
@[simp] theorem eNewK_r (l : Lc) (m : Mem) : eNewK l m = .ok (.loc m.length) (m ++ [.dic []]) := rr rfl
@[simp] theorem eNewT_r (l : Lc) (m : Mem) : eNewT l m = .ok (.loc m.length) (m ++ [.dit []]) := rr rfl
@[simp] theorem eDGet_r (o k : E) (l : Lc) (m : Mem) : eDGet o k l m = (o l m).bind fun x m1 => (k l m1).bind fun y m2 => match dgetD m2 x y with
  | some (some d) => .ok d m2
  | _ => .bad := rr rfl
@[simp] theorem eDIn_r (k o : E) (l : Lc) (m : Mem) : eDIn k o l m = (k l m).bind fun y m1 => (o l m1).bind fun x m2 => match dgetD m2 x y with
  | some r => .ok (.bl r.isSome) m2
  | none => .bad := rr rfl
@[simp] theorem eDNotIn_r (k o : E) (l : Lc) (m : Mem) : eDNotIn k o l m = (k l m).bind fun y m1 => (o l m1).bind fun x m2 => match dgetD m2 x y with
  | some r => .ok (.bl (!r.isSome)) m2
  | none => .bad := rr rfl
@[simp] theorem eDGet2_r (o k z : E) (l : Lc) (m : Mem) : eDGet2 o k z l m = (o l m).bind fun x m1 => match dcAt m1 x with
  | some _ => (k l m1).bind fun y m2 => (z l m2).bind fun w m3 => (match dgetD m3 x y with
    | some r => .ok (r.getD w) m3
    | none => .bad)
  | none => .bad := rr rfl
@[simp] theorem eDPop_r (o k : E) (l : Lc) (m : Mem) : eDPop o k l m = (o l m).bind fun x m1 => match kAt m1 x with
  | some _ => (k l m1).bind fun y m2 => (match kAt m2 x, keyD y with
    | some (n, kds), some k => (match valG kds k with
      | some d => .ok d (m2.set n (.dic (dropG kds k)))
      | none => .bad)
    | _, _ => .bad)
  | none => .bad := rr rfl
@[simp] theorem sDPutM_r (o k v : E) (l : Lc) (m : Mem) : sDPutM o k v l m = (v l m).out l fun d m1 => (o l m1).out l fun x m2 => (k l m2).out l fun y m3 => match dputD m3 x y d with
  | some m4 => .nx l m4
  | none => .bad := rr rfl
@[simp] theorem eJoin_r (o e : E) (l : Lc) (m : Mem) : eJoin o e l m = (o l m).bind fun x m1 => match x with
  | .str a => (e l m1).bind fun y m2 => (match (stq m2 y).bind txts with
    | some ss => if (ss.map (·.length)).sum + ss.length * a.length ≤ 16777216 then .ok (.str (Txt.join a ss)) m2 else .bad
    | none => .bad)
  | _ => .bad := rr rfl
@[simp] theorem eSplit_r (o e : E) (l : Lc) (m : Mem) : eSplit o e l m = (o l m).bind fun x m1 => match x with
  | .str a => (e l m1).bind fun y m2 => (match y with
    | .str b => if (b.length == 0) = false ∧ a.length + 2 ≤ big then .ok (.lst ((Txt.split a b).map Dv.str)) m2 else .bad
    | _ => .bad)
  | _ => .bad := rr rfl
@[simp] theorem sq_scr (m : Mem) (ns : List Int) : sq m (.scr ns) = some (ns.map Dv.int) := rr rfl
@[simp] theorem sq_lst (m : Mem) (ds : List Dv) : sq m (.lst ds) = some ds := rr rfl
@[simp] theorem sq_loc (m : Mem) (n : Nat) : sq m (.loc n) = (match m[n]? with
    | some (.lst ds) => some ds
    | _ => none) := rr rfl
@[simp] theorem lx_lst (m : Mem) (ds : List Dv) : lx m (.lst ds) = some ds := rr rfl
@[simp] theorem lx_loc (m : Mem) (n : Nat) : lx m (.loc n) = (match m[n]? with
    | some (.lst ds) => some ds
    | _ => none) := rr rfl
@[simp] theorem stq_tup (m : Mem) (ds : List Dv) : stq m (.tup ds) = some ds := rr rfl
@[simp] theorem stq_lst (m : Mem) (ds : List Dv) : stq m (.lst ds) = some ds := rr rfl
@[simp] theorem stq_scr (m : Mem) (ns : List Int) : stq m (.scr ns) = some (ns.map Dv.int) := rr rfl
@[simp] theorem stq_loc (m : Mem) (n : Nat) : stq m (.loc n) = (match m[n]? with
    | some (.lst ds) => some ds
    | _ => none) := rr rfl

/-! ### operators -/
@[simp] theorem addD_ii (i j : Int) (m : Mem) : addD (.int i) (.int j) m = .ok (.int (i + j)) m := rr rfl
@[simp] theorem addD_ss (i j : Str) (m : Mem) : addD (.str i) (.str j) m = if i.length + j.length ≤ big then .ok (.str (i ++ j)) m else .bad := rr rfl
@[simp] theorem addD_tt (i j : List Dv) (m : Mem) : addD (.tup i) (.tup j) m = if i.length + j.length ≤ big ∧ i ≠ [] then .ok (.tup (i ++ j)) m else .bad := rr rfl
@[simp] theorem addD_ll (i j : List Dv) (m : Mem) : addD (.lst i) (.lst j) m = mkLst (i ++ j) m := rr rfl
@[simp] theorem subD_ii (i j : Int) (m : Mem) : subD (.int i) (.int j) m = .ok (.int (i - j)) m := rr rfl
@[simp] theorem ltD_ii (i j : Int) (m : Mem) : ltD (.int i) (.int j) m = .ok (.bl (decide (i < j))) m := rr rfl
@[simp] theorem gtD_ii (i j : Int) (m : Mem) : gtD (.int i) (.int j) m = .ok (.bl (decide (j < i))) m := rr rfl
@[simp] theorem geD_ii (i j : Int) (m : Mem) : geD (.int i) (.int j) m = .ok (.bl (decide (j ≤ i))) m := rr rfl
@[simp] theorem leD_ii (i j : Int) (m : Mem) : leD (.int i) (.int j) m = .ok (.bl (decide (i ≤ j))) m := rr rfl
@[simp] theorem negD_i (i : Int) (m : Mem) : negD (.int i) m = .ok (.int (-i)) m := rr rfl
theorem fdivD_c {j : Int} (h : 0 < j ∧ j < 1073741824) (i : Int) (m : Mem) : fdivD (.int i) (.int j) m = .ok (.int (i / j)) m := by
  show (match (if 0 < j ∧ j < 1073741824 then some (Dv.int (i / j)) else none) with | some d => Res.ok d m | none => .bad) = _
  rw [if_pos h]
theorem modD_c {j : Int} (h : 0 < j) (i : Int) (m : Mem) : modD (.int i) (.int j) m = .ok (.int (i % j)) m := by
  show (match (if 0 < j then some (Dv.int (i % j)) else none) with | some d => Res.ok d m | none => .bad) = _
  rw [if_pos h]
@[simp] theorem fdivD_r (i j : Int) (m : Mem) : fdivD (.int i) (.int j) m = if 0 < j ∧ j < 1073741824 then .ok (.int (i / j)) m else .bad := by
  by_cases h : 0 < j ∧ j < 1073741824
  · rw [fdivD_c h, if_pos h]
  · rw [if_neg h]
    show (match (if 0 < j ∧ j < 1073741824 then some (Dv.int (i / j)) else none) with | some d => Res.ok d m | none => .bad) = _
    rw [if_neg h]
@[simp] theorem modD_r (i j : Int) (m : Mem) : modD (.int i) (.int j) m = if 0 < j then .ok (.int (i % j)) m else .bad := by
  by_cases h : 0 < j
  · rw [modD_c h, if_pos h]
  · rw [if_neg h]
    show (match (if 0 < j then some (Dv.int (i % j)) else none) with | some d => Res.ok d m | none => .bad) = _
    rw [if_neg h]
@[simp] theorem powD_1012 (m : Mem) : powD (.int 10) (.int 12) m = .ok (.int 1000000000000) m := rr rfl
@[simp] theorem isD_n (x : Dv) (m : Mem) : isD x .non m = .ok (.bl (isNon x)) m := rr rfl
@[simp] theorem isnD_n (x : Dv) (m : Mem) : isnD x .non m = .ok (.bl (!isNon x)) m := rr rfl
@[simp] theorem isNon_n : isNon .non = true := rr rfl
@[simp] theorem isNon_i (i : Int) : isNon (.int i) = false := rr rfl
@[simp] theorem isNon_s (i : Str) : isNon (.str i) = false := rr rfl
@[simp] theorem isNon_b (i : Bool) : isNon (.bl i) = false := rr rfl
@[simp] theorem isNon_l (i : List Dv) : isNon (.lst i) = false := rr rfl
@[simp] theorem isNon_t (i : List Dv) : isNon (.tup i) = false := rr rfl
@[simp] theorem isNon_c (i : Nat) : isNon (.loc i) = false := rr rfl
@[simp] theorem ixD_str (z : Str) (i : Int) (m : Mem) : ixD (.str z) (.int i) m = if z.length ≤ big then (match atI z.cps.toList i with
    | some c => .ok (.str ⟨#[c]⟩) m
    | none => .bad) else .bad := rr rfl
@[simp] theorem ixD_t (ds : List Dv) (i : Int) (m : Mem) : ixD (.tup ds) (.int i) m = (match atI ds i with
    | some d => .ok d m
    | none => .bad) := rr rfl
@[simp] theorem ixD_l (ds : List Dv) (i : Int) (m : Mem) : ixD (.lst ds) (.int i) m = (match atI ds i with
    | some d => .ok d m
    | none => .bad) := rr rfl
@[simp] theorem ixD_scr (ds : List Int) (i : Int) (m : Mem) : ixD (.scr ds) (.int i) m = (match atI (ds.map Dv.int) i with
    | some d => .ok d m
    | none => .bad) := rr rfl
@[simp] theorem ixD_loc (n : Nat) (i : Int) (m : Mem) : ixD (.loc n) (.int i) m = (match sq m (.loc n) with
    | some ds => (match atI ds i with
      | some d => .ok d m
      | none => .bad)
    | none => .bad) := rr rfl
@[simp] theorem slD_str (z : Str) (lo hi : Option Int) (m : Mem) : slD (.str z) lo hi m = if z.length ≤ big then .ok (.str (cutS z lo hi)) m else .bad := rr rfl
@[simp] theorem slD_l (z : List Dv) (lo hi : Option Int) (m : Mem) : slD (.lst z) lo hi m = .ok (.lst (cutL z lo hi)) m := rr rfl
@[simp] theorem slD_t (ds : List Dv) (lo hi : Option Int) (m : Mem) : slD (.tup ds) lo hi m = if HT.sIx ds.length 0 lo = 0 ∧ HT.sIx ds.length ds.length hi = ds.length then .bad else .ok (.tup (cutL ds lo hi)) m := rr rfl
@[simp] theorem lenD_str (z : Str) (m : Mem) : lenD [.str z] m = if z.length ≤ big then .ok (.int z.length) m else .bad := rr rfl
@[simp] theorem lenD_tup (z : List Dv) (m : Mem) : lenD [.tup z] m = .ok (.int z.length) m := rr rfl
@[simp] theorem lenD_lst (z : List Dv) (m : Mem) : lenD [.lst z] m = .ok (.int z.length) m := rr rfl
@[simp] theorem lenD_scr (z : List Int) (m : Mem) : lenD [.scr z] m = .ok (.int z.length) m := by
  show Res.ok (Dv.int (z.map Dv.int).length) m = _
  rw [List.length_map]
@[simp] theorem lenD_loc (n : Nat) (m : Mem) : lenD [.loc n] m = (match sq m (.loc n) with
    | some xs => .ok (.int xs.length) m
    | none => .bad) := rr rfl
@[simp] theorem listD_r (x : Dv) (m : Mem) : listD [x] m = (match stq m x with
    | some xs => mkLst xs m
    | none => .bad) := rr rfl
@[simp] theorem listN_r (x : Dv) (m : Mem) : listN [x] m = (match stq m x with
    | some xs => newLst xs m
    | none => .bad) := rr rfl
@[simp] theorem tupleD_tup (z : List Dv) (m : Mem) : tupleD [.tup z] m = .ok (.tup z) m := rr rfl
@[simp] theorem tupleD_lst (z : List Dv) (m : Mem) : tupleD [.lst z] m = mkTup z m := rr rfl
@[simp] theorem tupleD_loc (n : Nat) (m : Mem) : tupleD [.loc n] m = (match sq m (.loc n) with
    | some xs => mkTup xs m
    | none => .bad) := rr rfl
@[simp] theorem intD_i (i : Int) (m : Mem) : intD [.int i] m = .ok (.int i) m := rr rfl
@[simp] theorem intD_b (b : Bool) (m : Mem) : intD [.bl b] m = .ok (.int (if b then 1 else 0)) m := rr rfl
@[simp] theorem absD_i (i : Int) (m : Mem) : absD [.int i] m = .ok (.int (if i < 0 then -i else i)) m := rr rfl
@[simp] theorem maxD_i (i j : Int) (m : Mem) : maxD [.int i, .int j] m = .ok (.int (if j > i then j else i)) m := rr rfl
@[simp] theorem minD_i (i j : Int) (m : Mem) : minD [.int i, .int j] m = .ok (.int (if j < i then j else i)) m := rr rfl
@[simp] theorem tyOf_non (m : Mem) : tyOf m .non = some .none := rr rfl
@[simp] theorem tyOf_bl (m : Mem) (b : Bool) : tyOf m (.bl b) = some .bool := rr rfl
@[simp] theorem tyOf_int (m : Mem) (b : Int) : tyOf m (.int b) = some .int := rr rfl
@[simp] theorem tyOf_str (m : Mem) (b : Str) : tyOf m (.str b) = some .str := rr rfl
@[simp] theorem tyOf_scr (m : Mem) (b : List Int) : tyOf m (.scr b) = some .list := rr rfl
@[simp] theorem tyOf_lst (m : Mem) (b : List Dv) : tyOf m (.lst b) = some .list := rr rfl
@[simp] theorem tyOf_tup (m : Mem) (b : List Dv) : tyOf m (.tup b) = some .tuple := rr rfl
theorem tyOf_loc_l {m : Mem} {n : Nat} {ds : List Dv} (h : m[n]? = some (.lst ds)) : tyOf m (.loc n) = some .list := by
  show (match m[n]? with | some (.lst _) => some Tn.list | some (.dic _) => _ | some (.dit _) => _ | _ => _) = _
  rw [h]
@[simp] theorem isiD_r (T : Tn) (x : Dv) (m : Mem) : isiD T x m = (match tyOf m x with
  | some t => .ok (.bl (isA t T)) m
  | none => .bad) := rr rfl
@[simp] theorem isi2D_r (T U : Tn) (x : Dv) (m : Mem) : isi2D T U x m = (match tyOf m x with
  | some t => .ok (.bl (isA t T || isA t U)) m
  | none => .bad) := rr rfl
@[simp] theorem isA_r (t T : Tn) : isA t T = (decide (t = T) || (decide (t = .bool) && decide (T = .int))) := rr rfl
@[simp] theorem atI_0 {α : Type} (a : α) (r : List α) : atI (a :: r) 0 = some a := by
  have := atI_nat (xs := a :: r) (j := 0) (v := a) rfl
  simpa using this
@[simp] theorem atI_1 {α : Type} (a b : α) (r : List α) : atI (a :: b :: r) 1 = some b := by
  have := atI_nat (xs := a :: b :: r) (j := 1) (v := b) rfl
  simpa using this
@[simp] theorem atI_2 {α : Type} (a b c : α) (r : List α) : atI (a :: b :: c :: r) 2 = some c := by
  have := atI_nat (xs := a :: b :: c :: r) (j := 2) (v := c) rfl
  simpa using this
@[simp] theorem big_v : big = 16777216 := rr rfl
@[simp] theorem mkLst_r (ds : List Dv) (m : Mem) : mkLst ds m = if ds.length ≤ big then .ok (.lst ds) m else .bad := rr rfl
@[simp] theorem mkTup_r (ds : List Dv) (m : Mem) : mkTup ds m = if ds.length ≤ big then .ok (.tup ds) m else .bad := rr rfl
@[simp] theorem newLst_r (ds : List Dv) (m : Mem) : newLst ds m = if ds.length ≤ big then .ok (.loc m.length) (m ++ [.lst ds]) else .bad := rr rfl
@[simp] theorem mkTup_2 (a b : Dv) (m : Mem) : mkTup [a, b] m = .ok (.tup [a, b]) m := rr rfl
@[simp] theorem mkTup_1 (a : Dv) (m : Mem) : mkTup [a] m = .ok (.tup [a]) m := rr rfl
@[simp] theorem mkTup_3 (a b c : Dv) (m : Mem) : mkTup [a, b, c] m = .ok (.tup [a, b, c]) m := rr rfl
@[simp] theorem mkTup_0 (m : Mem) : mkTup [] m = .ok (.tup []) m := rr rfl
@[simp] theorem mkLst_0 (m : Mem) : mkLst [] m = .ok (.lst []) m := rr rfl
@[simp] theorem newLst_0 (m : Mem) : newLst [] m = .ok (.loc m.length) (m ++ [.lst []]) := rr rfl
theorem mkLst_ok' {ds : List Dv} (h : ds.length ≤ big) (m : Mem) : mkLst ds m = .ok (.lst ds) m := if_pos h
theorem mkTup_ok' {ds : List Dv} (h : ds.length ≤ big) (m : Mem) : mkTup ds m = .ok (.tup ds) m := if_pos h
theorem newLst_ok' {ds : List Dv} (h : ds.length ≤ big) (m : Mem) : newLst ds m = .ok (.loc m.length) (m ++ [.lst ds]) := if_pos h
@[simp] theorem eqD_ii (i j : Int) (m : Mem) : eqD (.int i) (.int j) m = .ok (.bl (decide (i = j))) m := by
  simp [eqD, eqB, scD, scal]
@[simp] theorem neD_ii (i j : Int) (m : Mem) : neD (.int i) (.int j) m = .ok (.bl (!decide (i = j))) m := by
  simp [neD, eqB, scD, scal]
@[simp] theorem eqD_ss (i j : Str) (m : Mem) : eqD (.str i) (.str j) m = .ok (.bl (decide (i = j))) m := by
  simp [eqD, eqB, scD, scal]
@[simp] theorem neD_ss (i j : Str) (m : Mem) : neD (.str i) (.str j) m = .ok (.bl (!decide (i = j))) m := by
  simp [neD, eqB, scD, scal]
@[simp] theorem eqD_bb (i j : Bool) (m : Mem) : eqD (.bl i) (.bl j) m = .ok (.bl (decide (i = j))) m := by
  simp [eqD, eqB, scD, scal]
@[simp] theorem neD_bb (i j : Bool) (m : Mem) : neD (.bl i) (.bl j) m = .ok (.bl (!decide (i = j))) m := by
  simp [neD, eqB, scD, scal]
theorem p64 : (2 : Int) ^ 64 = 18446744073709551616 := by decide +kernel
theorem mulD_r {i j : Int} (h : -18446744073709551616 < j ∧ j < 18446744073709551616) (m : Mem) : mulD (.int i) (.int j) m = .ok (.int (i * j)) m := by
  show (if (-(2 ^ 64) < i ∧ i < 2 ^ 64) ∨ (-(2 ^ 64) < j ∧ j < 2 ^ 64) then Res.ok (Dv.int (i * j)) m else .bad) = _
  rw [p64]
  exact if_pos (.inr h)
theorem mulD_l {i j : Int} (h : -18446744073709551616 < i ∧ i < 18446744073709551616) (m : Mem) : mulD (.int i) (.int j) m = .ok (.int (i * j)) m := by
  show (if (-(2 ^ 64) < i ∧ i < 2 ^ 64) ∨ (-(2 ^ 64) < j ∧ j < 2 ^ 64) then Res.ok (Dv.int (i * j)) m else .bad) = _
  rw [p64]
  exact if_pos (.inl h)

/-! ### defs -/
open Classical in
theorem fin_rt_eq (m0 m : Mem) (d : Dv) : fin m0 (.rt d m) = if m.take m0.length = m0 ∧ clo m0.length d = true then .ok d m0 else .ok d m := rr rfl
open Classical in
theorem fin_nx_eq (m0 m : Mem) (l : Lc) : fin m0 (.nx l m) = if m.take m0.length = m0 then .ok .non m0 else .ok .non m := rr rfl
open Classical in
theorem fin_exc_eq (m0 m : Mem) (l : Lc) (c : XC) : fin m0 (.exc c l m) = if m.take m0.length = m0 then .exc c m0 else .exc c m := rr rfl
@[simp] theorem fin_rt (m : Mem) (d : Dv) : fin m (.rt d m) = .ok d m := by rw [fin_rt_eq]; split <;> rfl
@[simp] theorem fin_nx (m : Mem) (l : Lc) : fin m (.nx l m) = .ok .non m := by rw [fin_nx_eq]; split <;> rfl
@[simp] theorem fin_exc (m : Mem) (l : Lc) (c : XC) : fin m (.exc c l m) = .exc c m := by rw [fin_exc_eq]; split <;> rfl
@[simp] theorem clo_bl (n : Nat) (b : Bool) : clo n (.bl b) = true := rr rfl
@[simp] theorem clo_int (n : Nat) (b : Int) : clo n (.int b) = true := rr rfl
@[simp] theorem clo_str (n : Nat) (b : Str) : clo n (.str b) = true := rr rfl
@[simp] theorem clo_non (n : Nat) : clo n .non = true := rr rfl
@[simp] theorem clo_fn (n k : Nat) : clo n (.fn k) = true := rr rfl
@[simp] theorem clo_loc (n k : Nat) : clo n (.loc k) = decide (k < n) := rr rfl
@[simp] theorem clo_lst (n : Nat) (ds : List Dv) : clo n (.lst ds) = clos n ds := rr rfl
@[simp] theorem clo_tup (n : Nat) (ds : List Dv) : clo n (.tup ds) = clos n ds := rr rfl
@[simp] theorem clos_nil (n : Nat) : clos n [] = true := rr rfl
@[simp] theorem clos_cons (n : Nat) (d : Dv) (ds : List Dv) : clos n (d :: ds) = (clo n d && clos n ds) := rr rfl
theorem fin_rtA {m : Mem} {d : Dv} (x : Mem) (h : clo m.length d = true) : fin m (.rt d (m ++ x)) = .ok d m := by
  rw [fin_rt_eq, if_pos ⟨by simp, h⟩]
theorem fin_rtL {m : Mem} {n : Nat} (x : Mem) (h : ¬ n < m.length) : fin m (.rt (.loc n) (m ++ x)) = .ok (.loc n) (m ++ x) := by
  rw [fin_rt_eq, if_neg]; rintro ⟨_, h2⟩; exact h (of_decide_eq_true h2)
theorem fin_nxA (m : Mem) (l : Lc) (x : Mem) : fin m (.nx l (m ++ x)) = .ok .non m := by rw [fin_nx_eq, if_pos (by simp)]
theorem fin_excA (m : Mem) (l : Lc) (c : XC) (x : Mem) : fin m (.exc c l (m ++ x)) = .exc c m := by rw [fin_exc_eq, if_pos (by simp)]
@[simp] theorem getLast_mem (m : Mem) (o : MO) : (m ++ [o])[m.length]? = some o := by simp
@[simp] theorem setLast_mem (m : Mem) (o o' : MO) : (m ++ [o]).set m.length o' = m ++ [o'] := by simp

/-! ### numbers and texts -/
theorem rng_nil (lo : Int) : rng lo 0 = [] := rr rfl
theorem rng_cons (lo : Int) (n : Nat) : rng lo (n + 1) = .int lo :: rng (lo + 1) n := by
  unfold rng
  rw [List.range_succ_eq_map, List.map_cons, List.map_map]
  congr 1
  · simp
  · apply List.map_congr_left
    intro a _
    simp only [Function.comp]
    congr 1
    omega
theorem clos_map {α : Type} (n : Nat) (f : α → Dv) (h : ∀ a, clo n (f a) = true) : ∀ xs : List α, clos n (xs.map f) = true
  | [] => rfl
  | x :: xs => by
    show (clo n (f x) && clos n (xs.map f)) = true
    rw [h x, clos_map n f h xs]
    rfl
@[simp] theorem txts_map (ss : List Str) : txts (ss.map Dv.str) = some ss := by
  induction ss with
  | nil => rfl
  | cons a r ih => show (txts (r.map Dv.str)).map (a :: ·) = _; rw [ih] <;> rfl
@[simp] theorem txts_comp {α : Type} (f : α → Str) (xs : List α) : txts (xs.map (Dv.str ∘ f)) = some (xs.map f) := by
  rw [← List.map_map, txts_map]
@[simp] theorem txts_fun {α : Type} (f : α → Str) (xs : List α) : txts (xs.map fun a => Dv.str (f a)) = some (xs.map f) := txts_comp f xs
/-! ### loops -/
theorem lcM_ok {j p : Nat} {t : T} {e : E} {l : Lc} {m1 : Mem} (hp : p = m1.length) {t' : Dv → Bool} {f : Dv → Dv} : ∀ (ds : List Dv) (acc : List Dv),
    (∀ x ∈ ds, ∀ acc, t ((l.set j none).set j (some x)) (m1 ++ [.lst acc]) = .ok (t' x) (m1 ++ [.lst acc])) →
    (∀ x ∈ ds, t' x = true → ∀ acc, e ((l.set j none).set j (some x)) (m1 ++ [.lst acc]) = .ok (f x) (m1 ++ [.lst acc])) → acc.length + ds.length ≤ big →
    lcM j t e p ds l (m1 ++ [.lst acc]) = some (m1 ++ [.lst (acc ++ (ds.filter t').map f)])
  | [], acc, _, _, _ => by simp [lcM]
  | x :: ds, acc, h1, h2, h3 => by
    subst hp
    have ih := fun acc => lcM_ok (p := m1.length) (t := t) (e := e) (l := l) (j := j) (m1 := m1) rfl (t' := t') (f := f) ds acc (fun y hy => h1 y (.tail _ hy)) (fun y hy => h2 y (.tail _ hy))
    simp only [List.length_cons] at h3
    unfold lcM
    rw [h1 x (.head _)]
    cases hx : t' x with
    | false =>
      show lcM j t e _ ds l _ = _
      rw [ih acc (by omega), List.filter_cons_of_neg (by rw [hx]; decide)]
    | true =>
      have a1 : acc.length < big := by omega
      simp only [h2 x (.head _) hx, getLast_mem, a1, if_true, setLast_mem]
      rw [ih _ (by simp only [List.length_append, List.length_cons, List.length_nil]; omega), List.filter_cons_of_pos hx]
      simp
theorem eLc_ok {it : A} {j : Nat} {t : T} {e : E} {l : Lc} {m m1 : Mem} {ds : List Dv} (h : it l m = .ok ds m1) (t' : Dv → Bool) (f : Dv → Dv)
    (ht : ∀ x ∈ ds, ∀ acc, t ((l.set j none).set j (some x)) (m1 ++ [.lst acc]) = .ok (t' x) (m1 ++ [.lst acc]))
    (he : ∀ x ∈ ds, t' x = true → ∀ acc, e ((l.set j none).set j (some x)) (m1 ++ [.lst acc]) = .ok (f x) (m1 ++ [.lst acc])) (hl : ds.length ≤ big) (hc : clos m1.length ((ds.filter t').map f) = true) :
    eLc it j t e l m = .ok (.lst ((ds.filter t').map f)) m1 := by
  unfold eLc
  rw [h]
  show (match lcM j t e m1.length ds l (m1 ++ [.lst []]) with | some m2 => _ | none => _) = _
  rw [lcM_ok rfl ds [] ht he (by simpa using hl)]
  simp [hc]
theorem eLcN_ok {it : A} {j : Nat} {t : T} {e : E} {l : Lc} {m m1 : Mem} {ds : List Dv} (h : it l m = .ok ds m1) (t' : Dv → Bool) (f : Dv → Dv)
    (ht : ∀ x ∈ ds, ∀ acc, t ((l.set j none).set j (some x)) (m1 ++ [.lst acc]) = .ok (t' x) (m1 ++ [.lst acc]))
    (he : ∀ x ∈ ds, t' x = true → ∀ acc, e ((l.set j none).set j (some x)) (m1 ++ [.lst acc]) = .ok (f x) (m1 ++ [.lst acc])) (hl : ds.length ≤ big) :
    eLcN it j t e l m = .ok (.loc m1.length) (m1 ++ [.lst ((ds.filter t').map f)]) := by
  unfold eLcN
  rw [h]
  show (match lcM j t e m1.length ds l (m1 ++ [.lst []]) with | some m2 => _ | none => _) = _
  rw [lcM_ok rfl ds [] ht he (by simpa using hl)]
  simp
theorem eLc_map {it : A} {j : Nat} {e : E} {l : Lc} {m m1 : Mem} {ds : List Dv} (h : it l m = .ok ds m1) (f : Dv → Dv)
    (he : ∀ x ∈ ds, ∀ acc, e ((l.set j none).set j (some x)) (m1 ++ [.lst acc]) = .ok (f x) (m1 ++ [.lst acc])) (hl : ds.length ≤ big) (hc : clos m1.length (ds.map f) = true) :
    eLc it j tYesM e l m = .ok (.lst (ds.map f)) m1 := by
  have e0 : ds.filter (fun _ => true) = ds := List.filter_eq_self.mpr fun _ _ => rfl
  have := eLc_ok (t := tYesM) (e := e) (j := j) h (fun _ => true) f (fun _ _ _ => rfl) (fun x hx _ => he x hx) hl (by rw [e0]; exact hc)
  rwa [e0] at this
theorem eLcN_map {it : A} {j : Nat} {e : E} {l : Lc} {m m1 : Mem} {ds : List Dv} (h : it l m = .ok ds m1) (f : Dv → Dv)
    (he : ∀ x ∈ ds, ∀ acc, e ((l.set j none).set j (some x)) (m1 ++ [.lst acc]) = .ok (f x) (m1 ++ [.lst acc])) (hl : ds.length ≤ big) :
    eLcN it j tYesM e l m = .ok (.loc m1.length) (m1 ++ [.lst (ds.map f)]) := by
  have e0 : ds.filter (fun _ => true) = ds := List.filter_eq_self.mpr fun _ _ => rfl
  have := eLcN_ok (t := tYesM) (e := e) (j := j) h (fun _ => true) f (fun _ _ _ => rfl) (fun x hx _ => he x hx) hl
  rwa [e0] at this
theorem forM_cons {tg : Tg} {body : S} {x : Dv} {r : List Dv} {l l1 l2 : Lc} {m m2 : Mem} (h1 : tg x l = some l1) (h2 : body l1 m = .nx l2 m2) : forM tg body (x :: r) l m = forM tg body r l2 m2 := by
  conv => lhs; unfold forM
  rw [h1]
  simp [h2]
theorem while_nil (t : T) (b : S) (n : Nat) {l : Lc} {m : Mem} (h : t l m = .ok false m) : whileM t b (n + 1) l m = .nx l m := by
  unfold whileM; rw [h] <;> rfl
theorem while_one (t : T) (b : S) (n : Nat) {l l2 : Lc} {m m2 : Mem} (h : t l m = .ok true m) (h2 : b l m = .nx l2 m2) : whileM t b (n + 1) l m = whileM t b n l2 m2 := by
  conv => lhs; unfold whileM
  rw [h]
  simp [h2]
@[simp] theorem powD_30 (m : Mem) : powD (.int 10) (.int 30) m = .ok (.int 1000000000000000000000000000000) m := rr rfl
/-- a loop that runs through -/
theorem forM_inv {tg : Tg} {body : S} {ds : List Dv} (Inv : Nat → Lc → Mem → Prop) (step : ∀ i (h : i < ds.length) l m, Inv i l m → ∃ l1 l2 m2, tg ds[i] l = some l1 ∧ (body l1 m = .nx l2 m2 ∨ body l1 m = .ct l2 m2) ∧ Inv (i + 1) l2 m2) :
    ∀ (l : Lc) (m : Mem), Inv 0 l m → ∃ l2 m2, forM tg body ds l m = .nx l2 m2 ∧ Inv ds.length l2 m2 := by
  induction ds generalizing Inv with
  | nil => intro l m h; exact ⟨l, m, rfl, h⟩
  | cons x ds ih =>
    intro l m h
    obtain ⟨l1, l2, m2, e1, e2, h2⟩ := step 0 (by simp) l m h
    have e1 : tg x l = some l1 := e1
    obtain ⟨l3, m3, e3, h3⟩ := ih (fun i => Inv (i + 1)) (fun i hi l m h => step (i + 1) (by simp; omega) l m h) l2 m2 h2
    refine ⟨l3, m3, ?_, h3⟩
    unfold forM
    rw [e1]
    rcases e2 with e2 | e2 <;> simp [e2, e3]
/-- a loop that may hand back -/
theorem forM_inv2 {tg : Tg} {body : S} {ds : List Dv} (Inv : Nat → Lc → Mem → Prop) (R : Out → Prop)
    (step : ∀ i (h : i < ds.length) l m, Inv i l m → ∃ l1, tg ds[i] l = some l1 ∧ ((∃ l2 m2, (body l1 m = .nx l2 m2 ∨ body l1 m = .ct l2 m2) ∧ Inv (i + 1) l2 m2) ∨ (∃ d m2, body l1 m = .rt d m2 ∧ R (.rt d m2)) ∨ (∃ c l2 m2, body l1 m = .exc c l2 m2 ∧ R (.exc c l2 m2)) ∨ (∃ l2 m2, body l1 m = .bk l2 m2 ∧ R (.nx l2 m2)))) :
    ∀ (l : Lc) (m : Mem), Inv 0 l m → (∃ l2 m2, forM tg body ds l m = .nx l2 m2 ∧ Inv ds.length l2 m2) ∨ R (forM tg body ds l m) := by
  induction ds generalizing Inv with
  | nil => intro l m h; exact .inl ⟨l, m, rfl, h⟩
  | cons x ds ih =>
    intro l m h
    obtain ⟨l1, e1, e2⟩ := step 0 (by simp) l m h
    have e1 : tg x l = some l1 := e1
    unfold forM
    rw [e1]
    rcases e2 with ⟨l2, m2, e2, h2⟩ | ⟨d, m2, e2, h2⟩ | ⟨c, l2, m2, e2, h2⟩ | ⟨l2, m2, e2, h2⟩
    · have e3 := ih (fun i => Inv (i + 1)) (fun i hi l m h => step (i + 1) (by simp; omega) l m h) l2 m2 h2
      rcases e2 with e2 | e2 <;> simpa [e2] using e3
    · exact .inr (by simpa [e2] using h2)
    · exact .inr (by simpa [e2] using h2)
    · exact .inr (by simpa [e2] using h2)
end Sn
/-! Sn11 -/
set_option Elab.async false
set_option linter.all false
set_option maxRecDepth 100000
set_option autoImplicit false
set_option maxHeartbeats 1000000
/-! Sn11: list(d), sorted lists with a place, sums of lists with a place, data one deeper compared -/
namespace Sn
open PySem PySem.Spec PyProof.Rows L2
section
variable {G : Cg} {X : Cx} {W : WX} {σ : L2.St} {H : Hp} {D : Hp} {adr : List Addr} {m : Mem}

def keyV : Key → Dv
  | .inl i => .int i
  | .inr s => .str s
theorem rep_key (K : Cg) (D : Hp) (adr : List Addr) (k : Key) : Rep K D adr (kV k) (keyV k) := by
  cases k with
  | inl i => exact .int i
  | inr s => exact .str s
theorem reps_keys (K : Cg) (D : Hp) (adr : List Addr) : ∀ ks : List Key, Reps K D adr (ks.map kV) (ks.map keyV)
  | [] => .nil
  | k :: ks => .cons (rep_key K D adr k) (reps_keys K D adr ks)
def rListK : List V → Hp → VK → Prop := fun xs H Q => ∃ (a : Addr) (kvs : List (Key × V)), xs = [.ref a] ∧ Rd H a (.dK kvs) ∧ ∀ p, H p = none → Q (.ref p) (upd H p (.lst (kvs.map fun kv => kV kv.1)))
/-- list(d) -/
def listKD (ds : List Dv) (m : Mem) : Res Dv := match ds with
  | [x] => match dcAt m x with
    | some (.k kds) => mkLst ((kds.map (·.1)).map keyV) m
    | _ => .bad
  | _ => .bad
theorem listKD_s : CaS G rListK listKD := fun D adr m H xs ds rm r σ W Q a => by
  unfold listKD at a
  split at a
  · split at a
    · rename_i kds h
      obtain ⟨v, rfl, q⟩ := r.one_inv
      obtain ⟨p, kvs, rfl, h3, h4⟩ := rm.dc_k q h
      refine ⟨p, kvs, rfl, h3, ?_⟩
      have e : (kvs.map fun kv => kV kv.1) = (kvs.map (·.1)).map kV := by rw [List.map_map]; rfl
      rw [e]
      refine (mkLst_ok rm (W := W) (σ := σ) ?_ a).2
      rw [h4.1]
      exact reps_keys _ _ _ _
    · exact a.elim
  · exact a.elim
/-- sorted(d), with a place -/
def sortKiN (ds : List Dv) (m : Mem) : Res Dv := match ds with
  | [x] => match dcAt m x with
    | some (.k kds) => match kis (kds.map (·.1)) with
      | some ss => newLst ((ss.mergeSort ile).map Dv.int) m
      | none => .bad
    | _ => .bad
  | _ => .bad
theorem sortKiN_s : CaS G (rSortKF flInt Sum.inl) sortKiN := fun D adr m H xs ds rm r σ W Q a => by
  unfold sortKiN at a
  split at a
  · split at a
    · rename_i kds h
      split at a
      · rename_i ss h2
        obtain ⟨v, rfl, q⟩ := r.one_inv
        obtain ⟨p, kvs, rfl, h3, h4⟩ := rm.dc_k q h
        refine ⟨p, kvs, ss, rfl, h3, h4.1.trans (kis_eq h2), ?_⟩
        show ∀ p, H p = none → Q (.ref p) (upd H p (.lst ((ss.mergeSort (PySem.W.dataLe false PyData.int)).map V.int)))
        rw [sort_int]
        exact (newLst_ok rm (W := W) (σ := σ) (reps_ints _ _ _ _) a).2
      · exact a.elim
    · exact a.elim
  · exact a.elim
/-- a + b of lists, with a place -/
def addN (x y : Dv) (m : Mem) : Res Dv := match lx m x, lx m y with
  | some xs, some ys => newLst (xs ++ ys) m
  | _, _ => .bad
theorem addN_s : OpS G (rAddX G.K) addN := fun D adr m H x y dx dy rm rx ry σ W Q a => by
  unfold addN at a
  split at a
  · rename_i xs ys hx hy
    obtain ⟨p, vs, rfl, h1, h2⟩ := rm.lx rx hx
    obtain ⟨q, ws, rfl, h3, h4⟩ := rm.lx ry hy
    obtain ⟨z, k⟩ := newLst_ok rm (W := W) (σ := σ) (h2.append h4) a
    exact .inr (.inr (.inl ⟨p, q, vs, ws, rfl, rfl, h1, h3, by rw [List.length_append] at z; exact z, k⟩))
  · exact a.elim
/-! data one deeper -/
def vwT (m : Mem) : Dv → Dv
  | .tup ds => .tup (ds.map (vw m))
  | d => vw m d
theorem vws_dp (rm : RM G D adr m H) : ∀ (ds : List Dv) (vs : List V) (ps : List PyData), Reps G D adr vs ds → toPys m (ds.map (vw m)) = some ps → DpAll G.K H vs ps
  | [], _, _, r, e => by cases r; cases e; exact .nil
  | d :: ds, _, _, r, e => by
    cases r with
    | cons q s =>
      rw [List.map_cons] at e
      unfold toPys at e
      split at e
      · rename_i p ps h1 h2
        cases e
        exact .cons (vw_dp rm q h1) (vws_dp rm ds _ ps s h2)
      · cases e
theorem vwT_dp (rm : RM G D adr m H) {d : Dv} {v : V} {p : PyData} (r : Rep G D adr v d) (e : toPy m (vwT m d) = some p) : Dp G.K H v p := by
  unfold vwT at e
  split at e
  · rename_i ds
    cases r with
    | tup q s =>
      unfold toPy at e
      cases h : toPys m (ds.map (vw m)) with
      | none => rw [h] at e; cases e
      | some ps => rw [h] at e; cases e; exact .tup (SqT.of (rm.le.tup q)) (vws_dp rm ds _ ps s h)
  · exact vw_dp rm r e
def eqBV (m : Mem) (x y : Dv) : Option Bool := match toPy m (vwT m x), toPy m (vwT m y) with
  | some p, some q => if SeqAt.shaped p && SeqAt.shaped q then some (PyData.eqv p q) else none
  | _, _ => none
def eqDV (x y : Dv) (m : Mem) : Res Dv := match eqBV m x y with
  | some b => .ok (.bl b) m
  | none => .bad
def neDV (x y : Dv) (m : Mem) : Res Dv := match eqBV m x y with
  | some b => .ok (.bl (!b)) m
  | none => .bad
theorem eqBV_s (rm : RM G D adr m H) {x y : V} {dx dy : Dv} {b : Bool} (rx : Rep G D adr x dx) (ry : Rep G D adr y dy) (e : eqBV m dx dy = some b) :
    ∃ p q, Dp G.K H x p ∧ Dp G.K H y q ∧ SeqAt.shaped p = true ∧ SeqAt.shaped q = true ∧ b = PyData.eqv p q := by
  unfold eqBV at e
  split at e
  · rename_i p q h1 h2
    split at e
    · rename_i h
      cases e
      rw [Bool.and_eq_true] at h
      exact ⟨p, q, vwT_dp rm rx h1, vwT_dp rm ry h2, h.1, h.2, rfl⟩
    · cases e
  · cases e
theorem eqDV_s : OpS G (rEqX G.K) eqDV := fun D adr m H x y dx dy rm rx ry σ W Q a => by
  unfold eqDV at a
  split at a
  · rename_i b e
    obtain ⟨p, q, h1, h2, h3, h4, h5⟩ := eqBV_s rm rx ry e
    exact .inr ⟨p, q, h1, h2, h3, h4, by rw [← h5]; exact a.ok rm (.bl _)⟩
  · exact a.elim
theorem neDV_s : OpS G (rNeX G.K) neDV := fun D adr m H x y dx dy rm rx ry σ W Q a => by
  unfold neDV at a
  split at a
  · rename_i b e
    obtain ⟨p, q, h1, h2, h3, h4, h5⟩ := eqBV_s rm rx ry e
    exact .inr ⟨p, q, h1, h2, h3, h4, by rw [← h5]; exact a.ok rm (.bl _)⟩
  · exact a.elim
end
/-! how they are reckoned with -/
@[simp] theorem listKD_r (x : Dv) (m : Mem) : listKD [x] m = (match dcAt m x with
    | some (.k kds) => mkLst ((kds.map (·.1)).map keyV) m
    | _ => .bad) := rr rfl
@[simp] theorem addN_r (x y : Dv) (m : Mem) : addN x y m = (match lx m x, lx m y with
  | some xs, some ys => newLst (xs ++ ys) m
  | _, _ => .bad) := rr rfl
theorem keyV_ints (ks : List Int) : (ks.map Sum.inl : List Key).map keyV = ks.map Dv.int := by rw [List.map_map] <;> rfl
end Sn
/-! Sn12 -/
set_option Elab.async false
set_option linter.all false
set_option maxRecDepth 100000
set_option autoImplicit false
set_option maxHeartbeats 2000000
/-! Sn12: within an except suite: loops over lists, defs called, methods -/
namespace Sn
open PySem PySem.Spec PyProof.Rows L2 HotX L2H

theorem pyNext_list_end_hot {prog : Program} {w : World} {A : Around} {E : Value → Shared → Prop} {s : Shared} {it x1 l : Addr} {i : Nat} {items} {Q : Option Value → Shared → Prop} (hot : HotAt A x1 s.heap) (hne : x1 ≠ it)
    (hit : s.heap.IsListIter it l i) (hl : s.heap.IsList l items) (hx : items[i]? = none)
    (hQ : ∀ h', (∀ b o, b ≠ it → s.heap.get? b = some o → h'.get? b = some o) → Q none { s with heap := h' }) : wpAny (model prog w) A (pyNext (.ref it)) Q E s := by
  obtain ⟨o, ho, hc, hd⟩ := id hit
  obtain ⟨ol, hol, _, nl, hdl⟩ := hl
  obtain ⟨hh, o1, vs1, h1, d1, c1⟩ := hot
  unfold pyNext
  refine wpAny_bind (wpAny_attempt (wpAny_callSpecial?_slot (name := Str.ofString "__next__") hit.typeIs slot_listiter_next
    (wpAny_call_entry slot_listiter_next hit.typeIs entry_listiter_next ?_ (args_listiter_next _))))
  show wpAny _ _ (field (.ref it) 0 >>= _) _ _ s
  refine wpAny_bind (wpAny_field ho hd (x := .ref l) rfl ?_)
  show wpAny _ _ (if (Value.ref l == Value.none) = true then _ else _) _ _ s
  rw [if_neg (show ¬ ((Value.ref l == Value.none) = true) from Bool.false_ne_true)]
  show wpAny _ _ (field (.ref it) 1 >>= _) _ _ s
  refine wpAny_bind (wpAny_field ho hd (x := .int i 0) rfl ?_)
  show wpAny _ _ (seqItems? (.ref l) >>= _) _ _ s
  refine wpAny_bind (wpAny_seqItems hol hdl ?_)
  simp only [Int.toNat_natCast, hx]
  refine wpAny_bind (wpAny_rule (wpAny_bind (wpAny_setField ho hd (by simp) ?_)))
  show wpAny _ _ (newExc (.type "StopIteration") [] >>= _) _ _ _
  refine wpAny_bind ?_
  simp only [newExc, newTuple]
  refine wpAny_bind (wpAny_newObj_type ?_ (by size_fits))
  refine wpAny_bind (m := firstArgMember _ _) (wpAny_of_eq (a := Value.none) (by first | rfl | (simp only [firstArgMember]; rfl)) ?_)
  refine wpAny_newObj_type ?_ (by size_fits)
  have q1 : ∀ (f : Obj → Obj), (s.heap.update it f).get? x1 = some o1 := fun f => (Heap.get?_update_other _ _ hne.symm).trans h1
  refine raiseNew_hot ⟨hh, o1, vs1, Heap.get?_push_of_some _ (Heap.get?_push_of_some _ (q1 _)), d1, c1⟩ (Nat.ne_of_lt (Heap.lt_size (Heap.get?_push_of_some _ (q1 _)))) (Heap.get?_push_size _ rfl) rfl (by first | (simp; done) | (simp; omega) | (simp only [Array.size_append]; simp; omega)) ?_
  refine wpAny_bind (wpAny_isInstance (T := "StopIteration") (b := true) ⟨_, Heap.get?_update_self _ (Heap.get?_push_size _ rfl) rfl, rfl⟩ isSubtype_stop ?_)
  refine wpAny_pure (hQ _ fun b o hb e => ?_)
  have e2 : ∀ (f : Obj → Obj), (s.heap.update it f).get? b = some o := fun f => (Heap.get?_update_other _ _ (Ne.symm hb)).trans e
  rw [Heap.get?_update_other _ _ (Nat.ne_of_gt (Heap.lt_size (Heap.get?_push_of_some _ (e2 _))))]
  exact Heap.get?_push_of_some _ (Heap.get?_push_of_some _ (e2 _))
theorem turn_listH {P : Program} {w : World} {K : PySem.W.Frag} {tg : Expr} (a it : Addr) : TurnH P w K tg (Itl K a) [it] it (fun i h => h.IsListIter it a i) where
  mem := by simp
  obj := fun i h st b hb => by
    have e : b = it := by simpa using hb
    subst e
    obtain ⟨o, e, c, d⟩ := st
    exact ⟨o, e, fun v z => by rw [d] at z; cases z⟩
  keep := fun i h h' st k => st.at fun o e => k it (by simp) o e
  item := by
    intro X hP hw hK hc i pins s σ H E I hf st hg
    subst hP hw hK
    obtain ⟨xs, x, hq, hx⟩ := hg
    obtain ⟨its, rv, p, hz⟩ := I.list hq
    obtain ⟨u, hu, ru⟩ := rv.get hx
    obtain ⟨f0, f1, f2, f3, f4, f5⟩ := hf it (by simp)
    refine wpAny_pyNext_list_item st p.isList (x := u) (by simpa using hu) fun h' st' sb => ?_
    have I1 : Inv X pins σ H { s with heap := h' } := I.turned (t' := s.toks) (fun b o hb e => (sb.2 b hb).trans e) f0 f1 f3 f4 f5
    obtain ⟨o, e, c, d⟩ := id st'
    exact ⟨u, rfl, go_of (s := { s with heap := h' }) e c d (by decide) ⟨x, H, I1, ru, ⟨rfl, fun ys hy => by rw [I.list_inj hy hq]; exact hx⟩, st', fun b hb => (hf b hb).1⟩⟩
  done := by
    intro X hP hw hK hc i pins s σ H E I hf st hg
    subst hP hw hK
    obtain ⟨xs, hq, hx⟩ := hg
    obtain ⟨its, rv, p, hz⟩ := I.list hq
    obtain ⟨f0, f1, f2, f3, f4, f5⟩ := hf it (by simp)
    have hl := rv.length
    obtain ⟨x1, hpn, hot⟩ : ∃ x1, x1 ≠ it ∧ HotAt X.A x1 s.heap := by
      obtain ⟨q, ⟨hh, v1, e1, c1⟩, hq'⟩ := hc
      exact ⟨q.1, f5 q (List.mem_append_left _ hq'), hh, q.2, v1, (I.pin q (List.mem_append_left _ hq')).1, e1, c1⟩
    exact pyNext_list_end_hot hot hpn st p.isList (by simp; omega) fun h' eb => ⟨rfl, I.turned (t' := s.toks) (fun b o hb e => eb b o hb e) f0 f1 f3 f4 f5⟩
  self := fun _ _ _ _ _ st h => wpAny_pyIter_listiter st h
theorem pi_listH {X : Cx} {tg l : Expr} {tl : TE} (hl : PE X l tl) : PIH X tg l (iList X.K tl) := by
  refine ⟨fun pins s σ H R I h => ?_⟩
  refine thn (hl.run pins s σ H _ I h) fun v s1 ⟨x, H1, I1, r1, q1⟩ => ?_
  obtain ⟨a, e, ⟨xs, hq⟩, q⟩ := q1
  subst e
  cases r1
  obtain ⟨its, rv, p, hz⟩ := I1.list hq
  refine wpAny_pyIter_list p.isList ?_
  refine ⟨s1.heap.objs.size, [s1.heap.objs.size], _, _, H1, rfl, I1.kept (t' := s1.toks) fun b o e => Heap.get?_push_of_some _ e, turn_listH a _, ⟨_, Heap.get?_push_size _ rfl, rfl, rfl⟩, fun b hb => ?_, q⟩
  have e : b = s1.heap.objs.size := by simpa using hb
  subst e
  exact I1.fpOk (Nat.le_refl _) (I1.hok.fresh (Nat.le_refl _))
section
variable {G : Cg} {X : Cx} {W : WX}
/-- a loop over a list without items -/
def sForE (e : E) : S := fun l m => (e l m).out l fun d m1 => match d with
  | .lst [] => .nx l m1
  | _ => .bad
theorem pg_no {tg : Expr} : PG X tg (fun _ _ _ _ => False) := ⟨fun _ _ _ _ _ _ _ _ _ h => h.elim⟩
theorem ms_forE {tg iter : Expr} {me : E} {body : List Stmt} {pos : Pos} (hp : PassesOwn (model X.prog X.w) X.A X.env X.xe) (hc : HotC X) (hK : X.K = G.K) (he : PE X iter (tM G W me)) (hs : ∀ x, foldedSetIterable iter X.env x = pure x := by intro _; rfl) :
    PS X (.For tg iter body [] pos) (tS G W (sForE me)) := by
  refine PS_imp (ps_forH hp hc (pi_listH he) pg_no (pss_no (ss := body)) hs) fun De σ H ⟨D, adr, l, m, rm, rs, a⟩ => ?_
  refine stepS rm rs a fun v H1 D1 a1 d m1 e1 f1 rm1 rs1 re b => ?_
  split at b
  · cases re with
    | @lst p vs _ q r =>
      cases r
      have hq : SqL X.K H1 p [] := SqL.of (rm1.le _ _ q)
      refine ⟨p, rfl, ⟨[], hq⟩, fun _ _ σ' H' => σ' = σ ∧ H' = H1, ⟨0, rfl, rfl⟩, ?_⟩
      rintro i n σ' H' ⟨rfl, rfl⟩
      exact .inl ⟨⟨[], hq, Nat.zero_le _⟩, b _ _ _ _ (Le.refl _) (Pf.refl _) rm1 rs1⟩
  · exact b.elim
theorem me_callH {x : Str} {p pos : Pos} {e : Expr} {es : List Expr} {ms : A} {k n : Nat} {f : Addr} {fd : FuncData} {ps : List Str} {g : Fn} (F : FnH X.prog X.w X.K X.mg X.base (L2N.CX X.prog X.w) k f fd ps (spM G n g)) (tk : L2N.Takes X W) (hr : RoomH k X.A) (hc : HotC X) (hg : Gl X x) (hm : X.mg x = some (.ref f))
    (hk : PySem.W.keepIn X.K (.ref f) = true) (hb : Binds X.K fd ps []) (ha : PA X (e :: es) (tMA G W ms)) (hdb : (x == ("__debug__" : Str)) = false := by decide) (he : starEach (e :: es) X.env = (false, eval e X.env) :: starEach es X.env := by rfl) (hpl : (backTo pos (starEach es X.env)).any (·.1) = false := by rfl) :
    PE X (.Call (.Name x p) (e :: es) [] pos) (tM G W (eCall n g ms)) :=
  PE_imp (pe_callH F hr hc hg hm hk hb (fun σ => L2N.passAt tk σ) ha hdb he hpl) fun σ H Q ⟨D, adr, l, m, rm, rs, a⟩ => step rm rs a fun vs H1 D1 a1 ds m1 e1 f1 rm1 rs1 r b => by
    split at b
    · rename_i hl
      exact ⟨D1, a1, m1, ds, rm1, r, hl, aft_we b⟩
    · exact b.elim
theorem me_methH {k n C : Nat} {f : Addr} {fd : FuncData} {ps : List Str} {g : Fn} {o e : Expr} {es : List Expr} {mo : E} {ms : A} {nm : Str} {apos pos : Pos} {pl : Sem Bool} (F : FnH X.prog X.w X.K X.mg X.base (L2N.CX X.prog X.w) k f fd ps (spM G n g)) (tk : L2N.Takes X W) (hr : RoomH k X.A) (hc : HotC X) (hb : Binds X.K fd ps [])
    (c : Cls X.K (G.cls C)) (hm : Meth X.K (G.cls C) nm f) (hn : nm ∉ G.names C) (ho : PE X o (tM G W mo)) (ha : PA X (e :: es) (tMA G W ms))
    (hst : starEach (e :: es) X.env = (false, eval e X.env) :: starEach es X.env := by rfl) (hpl : (backTo pos (starEach es X.env)).any (·.1) = false := by rfl)
    (ht : eval (.Call (.Attribute o nm apos) (e :: es) [] pos) X.env = (do
      let ov ← eval o X.env
      standAt apos.atName
      let (f, first) ← holding [ov] (getMethod ov nm pl)
      callWith pos f first (backTo pos (starEach (e :: es) X.env)) (backToKw pos (keywordEach [] X.env))) := by rfl) :
    PE X (.Call (.Attribute o nm apos) (e :: es) [] pos) (tM G W (eMeth C n g mo ms)) :=
  PE_imp (pe_methH ho c hm F hr hc hb (fun σ => L2N.passAt tk σ) ha hst hpl ht) fun σ H Q ⟨D, adr, l, m, rm, rs, a⟩ => step rm rs a fun v H1 D1 a1 d m1 e1 f1 rm1 rs1 r b => by
    split at b
    · rename_i C' fs h
      split at b
      · rename_i hC
        subst hC
        obtain ⟨p, dx, fv, rfl, h1, h2, h3, h4⟩ := rm1.ins r h
        refine ⟨p, dx, fv, rfl, h1, lookup_none (fun z => hn (by rw [h2] at z; exact List.mem_of_mem_take z)), ?_⟩
        refine step rm1 rs1 b fun vs H2 D2 a2 ds m2 e2 f2 rm2 rs2 r2 c => ?_
        split at c
        · rename_i hl
          exact ⟨D2, a2, m2, d :: ds, rm2, .cons (r.mono e2 f2) r2, hl, aft_we c⟩
        · exact c.elim
      · exact b.elim
    · exact b.elim
end
/-- the context of a def's body, called within an except suite -/
abbrev cxh (P : Program) (w : World) (K : PySem.W.Frag) (mg : Str → Option Value) (base : Heap) (N : List Str) (qual : Str) (st : Stmt) (f : Addr) (cdv : Value) (A : Around) (outer : List Env) (s : Shared) (H : Hp) (E : XK) (p : Addr × Obj) : Cx :=
  cxH (L2N.CX P w) P w K mg base N qual (defScope st) f cdv A outer s H E p
theorem fn_okH {P : Program} {w : World} {G : Cg} {mg : Str → Option Value} {base : Heap} {x qual : Str} {st : Stmt} {f : Addr} {fd : FuncData} {N ps : List Str} {k n M : Nat} {body : S} {g : Fn} (F : Fun G.K x qual st f fd) (Sc : FnScope N ps (defScope st)) (hn : ps.length = n) (hM : N.length = M) (hg : g = mkFn n M body)
    (hbody : ∀ (cdv : Value) (A : Around) (outer : List Env) (s : Shared) (H : Hp) (E : XK) (p : Addr × Obj), Hot1 A p → RoomH k (A.deeper (envOfC qual (defScope st) s.heap.objs.size f cdv)) →
      PSs (cxH (L2N.CX P w) P w G.K mg base N qual (defScope st) f cdv A outer s H E p) (defBody st) (tS G (We E) body)) : FnH P w G.K mg base (L2N.CX P w) (k + 1) f fd ps (spM G n g) := by
  subst hn hM hg
  obtain ⟨oc, od, kV, doc, pm, an, cdv, ct, osl, rfl, lk, hcd⟩ := F.ex
  refine fn_ofH lk hcd Sc (fun vs H Q E h => ?_) (fun A outer s H vs Q E p hot hr h => ⟨tS G (We E) body, hbody cdv A outer s H E p hot hr, ?_⟩)
  · obtain ⟨D, adr, m, ds, rm, r, hl, a⟩ := h
    rw [r.length, hl]
  · obtain ⟨D, adr, m, ds, rm, r, hl, a⟩ := h
    unfold mkFn at a
    rw [if_pos hl] at a
    refine ⟨D, adr, _, m, rm, ?_, fin_s rm a⟩
    have := rs_start r (N.length - ps.length)
    unfold L2.start
    rw [r.length, hl]
    exact this
theorem hotC_of {CX : CXT} {P : Program} {w : World} {K : PySem.W.Frag} {mg : Str → Option Value} {base : Heap} {N : List Str} {qual : Str} {scope : Scope} {f : Addr} {cd : Value} {A : Around} {outer : List Env} {s : Shared} {H : Hp} {E : XK} {p : Addr × Obj} (h : Hot1 A p) : HotC (cxH CX P w K mg base N qual scope f cd A outer s H E p) := ⟨p, h, List.mem_singleton.mpr rfl⟩
theorem huH_of {A : Around} {k : Nat} (hr : RoomH k A) : A.units + 1 < cLine := by have := hr.un; omega
theorem huH64 {A : Around} {k : Nat} (hr : RoomH k A) : A.units + 64 < cLine := by have := hr.un; omega
/-! ### try: .. except X: a suite that runs on -/
section
variable {G : Cg} {X : Cx} {W : WX}
/-- body; classes of what it raises: caught (then the suite), or not -/
def sTryS (tab : List (XC × Bool)) (body suite : S) : S := fun l m => match body l m with
  | .exc c l1 m1 => match tab.lookup c with
    | some true => (match suite l1 m1 with
      | .exc _ _ _ => .bad
      | o => o)
    | some false => .exc c l1 m1
    | none => .bad
  | o => o
inductive HdB (G : Cg) (X : Cx) (cv : Value) : List (XC × Bool) → Prop
  | nil : HdB G X cv []
  | cons {c : XC} {b : Bool} {tab : List (XC × Bool)} (hx : PySem.W.exmOne X.K (.ref (G.xa c)) cv = some b) (r : HdB G X cv tab) : HdB G X cv ((c, b) :: tab)
theorem HdB.get {cv : Value} {tab : List (XC × Bool)} (h : HdB G X cv tab) {c : XC} {b : Bool} (e : tab.lookup c = some b) : PySem.W.exmOne X.K (.ref (G.xa c)) cv = some b := by
  induction h with
  | nil => cases e
  | cons hx r ih =>
    rename_i c' b' tab
    rw [List.lookup_cons] at e
    by_cases g : c = c'
    · subst g
      simp at e
      subst e
      exact hx
    · have g' : (c == c') = false := by simpa using g
      rw [g'] at e
      exact ih e
/-- nothing is let out -/
abbrev Wno : WX := fun _ _ _ _ => False
theorem aftS_w0 {De : Ends} {D : Hp} {adr : List Addr} {r : Out} (h : AftS G W De D adr (match r with
      | .exc _ _ _ => .bad
      | o => o)) : AftS G Wno De D adr r := by
  cases r <;> first | exact h | exact False.elim h
theorem ms_tryS {x : Str} {cv : Value} {tab : List (XC × Bool)} {body suite : List Stmt} {mb ms : S} {b₀ : Stmt} {np pos pos' : Pos} (hs : X.stack = X.env :: X.outer) (hf : X.env.frame = some X.env.locals) (hc : Names X x cv) (tk : L2N.Takes X W)
    (hb : ∀ (W : WX) (pn : List (Addr × Obj)) (xe : Value → Shared → Prop), L2N.Takes (X.tr pn xe) W → PassesOwn (model X.prog X.w) X.A X.env xe → PSs (X.tr pn xe) body (tS G W mb))
    (hsu : ∀ (a : Addr) (oe : Obj) (pn : List (Addr × Obj)), HotC (X.suite a ((a, oe) :: pn)) → PSs (X.suite a ((a, oe) :: pn)) (b₀ :: suite) (tS G Wno ms)) (ht : HdB G X cv tab) :
    PS X (.Try body [.ExceptHandler (some (.Name x np)) none (b₀ :: suite) pos'] [] [] pos) (tS G W (sTryS tab mb ms)) := by
  have hh : L2N.HdsOk X [.ExceptHandler (some (.Name x np)) none (b₀ :: suite) pos'] [(cv, fun _ _ _ => tS G Wno ms)] := .cons hc (fun a oe cls d pn z f => by
    obtain ⟨vs, hv⟩ := f
    exact hsu a oe pn ⟨(a, oe), ⟨rfl, vs, hv, z.2.2 vs hv⟩, List.mem_cons_self⟩) .nil
  refine PS_imp (L2N.ps_try_many (tb := fun W => tS G W mb) (Wout := W) hs hf tk hb hh) fun De σ H ⟨D, adr, l, m, rm, rs, q⟩ => ?_
  refine ⟨D, adr, l, m, rm, rs, ?_⟩
  unfold sTryS at q
  cases e : mb l m with
  | nx l1 m1 => rw [e] at q; exact q
  | rt d m1 => rw [e] at q; exact q
  | bk l1 m1 => rw [e] at q; exact q
  | ct l1 m1 => rw [e] at q; exact q
  | bad => rw [e] at q; exact q.elim
  | exc c l1 m1 =>
    rw [e] at q
    intro σ' H' D' a' le pf rm' rs'
    cases hl : tab.lookup c with
    | none => simp only [hl] at q; exact q.elim
    | some o =>
      have h1 := ht.get hl
      simp only [hl] at q
      refine ⟨o, h1, fun ho a ha => ?_, fun ho => ?_⟩
      · subst ho
        exact ⟨D', a', l1, m1, rm', rs', (aftS_w0 q).mono le pf⟩
      · subst ho
        exact q σ' H' D' a' le pf rm' rs'
end
/-! what is not carried (and must not be reached) -/
def sBad : S := fun _ _ => .bad
def eBad : E := fun _ _ => .bad
theorem ms_bad {G : Cg} {X : Cx} {W : WX} {st : Stmt} : PS X st (tS G W sBad) := ⟨fun pins s σ H De I ⟨_, _, _, _, _, _, a⟩ => a.elim⟩
theorem me_bad {G : Cg} {X : Cx} {W : WX} {e : Expr} : PE X e (tM G W eBad) := ⟨fun pins s σ H Q I ⟨_, _, _, _, _, _, a⟩ => a.elim⟩
theorem roomH_mark {k : Nat} {A : Around} (r : Room k A) (v : Option Value) : RoomH k (A.mark v) := ⟨r.dp, r.un⟩
@[simp] theorem sForE_r (e : E) (l : Lc) (m : Mem) : sForE e l m = (e l m).out l fun d m1 => match d with
  | .lst [] => .nx l m1
  | _ => .bad := rr rfl
def Out.gotS (tab : List (XC × Bool)) (suite : S) (o : Out) : Out := match o with
  | .exc c l1 m1 => match tab.lookup c with
    | some true => (match suite l1 m1 with
      | .exc _ _ _ => .bad
      | o => o)
    | some false => .exc c l1 m1
    | none => .bad
  | o => o
@[simp] theorem sTryS_r (tab : List (XC × Bool)) (b ms : S) (l : Lc) (m : Mem) : sTryS tab b ms l m = Out.gotS tab ms (b l m) := by
  unfold sTryS Out.gotS
  cases b l m <;> rfl
@[simp] theorem gotS_nx (tab : List (XC × Bool)) (ms : S) (l : Lc) (m : Mem) : Out.gotS tab ms (.nx l m) = .nx l m := rr rfl
@[simp] theorem gotS_rt (tab : List (XC × Bool)) (ms : S) (d : Dv) (m : Mem) : Out.gotS tab ms (.rt d m) = .rt d m := rr rfl
@[simp] theorem gotS_exc (tab : List (XC × Bool)) (ms : S) (c : XC) (l : Lc) (m : Mem) : Out.gotS tab ms (.exc c l m) = (match tab.lookup c with
    | some true => (match ms l m with
      | .exc _ _ _ => .bad
      | o => o)
    | some false => .exc c l m
    | none => .bad) := rr rfl
end Sn
/-! R1 -/
set_option Elab.async false
set_option linter.all false
set_option maxRecDepth 100000
set_option autoImplicit false
set_option maxHeartbeats 1000000
/-! R1: texts in order, tables by keys, sorted rows -/
namespace Sn
open PySem PySem.Spec PyProof.Rows L2

/-! ### texts in order -/
abbrev tx (s : Str) : List Nat := s.cps.toList
theorem tx_inj {a b : Str} (h : tx a = tx b) : a = b := by
  cases a with
  | mk x =>
    cases b with
    | mk y =>
      have : x = y := Array.ext' h
      rw [this]
def slt (a b : Str) : Prop := tx a < tx b
instance (a b : Str) : Decidable (slt a b) := inferInstanceAs (Decidable (tx a < tx b))
theorem slt_irrefl (a : Str) : ¬ slt a a := List.lt_irrefl _
theorem slt_trans {a b c : Str} (h : slt a b) (g : slt b c) : slt a c := List.lt_trans h g
theorem slt_tri (a b : Str) : slt a b ∨ a = b ∨ slt b a := by
  by_cases h : tx a < tx b
  · exact .inl h
  · by_cases g : tx b < tx a
    · exact .inr (.inr g)
    · exact .inr (.inl (tx_inj (List.le_antisymm (List.not_lt.mp g) (List.not_lt.mp h))))
theorem slt_asymm {a b : Str} (h : slt a b) : ¬ slt b a := fun g => slt_irrefl _ (slt_trans h g)
theorem slt_ne {a b : Str} (h : slt a b) : a ≠ b := fun e => slt_irrefl b (by rw [e] at h; exact h)
theorem sle_iff {a b : Str} : sle a b = true ↔ ¬ slt b a := by
  unfold sle slt
  rw [decide_eq_true_iff]
  exact List.not_lt.symm
theorem leD_str (a b : Str) (m : Mem) : leD (.str a) (.str b) m = .ok (.bl (decide (¬ slt b a))) m := by
  show Res.ok (Dv.bl (!decide (slt b a))) m = _
  rw [decide_not]
theorem sle_trans {a b c : Str} (h : sle a b = true) (g : sle b c = true) : sle a c = true := by
  rw [sle_iff] at *
  intro k
  rcases slt_tri b a with x | x | x
  · exact h x
  · subst x; exact g k
  · rcases slt_tri c b with y | y | y
    · exact g y
    · subst y; exact h k
    · exact slt_asymm (slt_trans x y) k
theorem sle_total (a b : Str) : (sle a b || sle b a) = true := by
  rw [Bool.or_eq_true, sle_iff, sle_iff]
  by_cases h : slt b a
  · exact .inr (slt_asymm h)
  · exact .inl h
theorem sort_pairwise {l : List Str} (h : l.Nodup) : (l.mergeSort sle).Pairwise slt := by
  have h1 : (l.mergeSort sle).Pairwise (fun a b => sle a b = true) := List.pairwise_mergeSort (le := sle) (fun a b c h g => sle_trans h g) sle_total l
  have h2 : (l.mergeSort sle).Nodup := (List.mergeSort_perm l sle).nodup_iff.mpr h
  refine (List.pairwise_and_iff.mpr ⟨h1, h2⟩).imp fun {a b} ⟨x, y⟩ => ?_
  rcases slt_tri a b with z | z | z
  · exact z
  · exact absurd z y
  · exact absurd z (sle_iff.mp x)

/-! ### tables -/
section
variable {κ κ' α α' : Type}
def keys (kvs : List (κ × α)) : List κ := kvs.map (·.1)
/-- the same table in other words -/
def kmap (f : κ → κ') (g : α → α') (kvs : List (κ × α)) : List (κ' × α') := kvs.map fun p => (f p.1, g p.2)
theorem keys_kmap (f : κ → κ') (g : α → α') (kvs : List (κ × α)) : keys (kmap f g kvs) = (keys kvs).map f := by
  unfold keys kmap
  rw [List.map_map, List.map_map] <;> rfl
@[simp] theorem length_kmap (f : κ → κ') (g : α → α') (kvs : List (κ × α)) : (kmap f g kvs).length = kvs.length := List.length_map _
end
section
variable {κ κ' α α' : Type} [DecidableEq κ] [DecidableEq κ']
theorem valG_nil (k : κ) : valG ([] : List (κ × α)) k = none := rfl
theorem valG_cons (p : κ × α) (kvs : List (κ × α)) (k : κ) : valG (p :: kvs) k = if p.1 = k then some p.2 else valG kvs k := by
  unfold valG
  rw [List.find?_cons]
  by_cases h : p.1 = k <;> simp [h]
theorem valG_none {kvs : List (κ × α)} {k : κ} : valG kvs k = none ↔ k ∉ keys kvs := by
  induction kvs with
  | nil => simp [valG_nil, keys]
  | cons p r ih =>
    rw [valG_cons]
    by_cases h : p.1 = k
    · simp [h, keys]
    · rw [if_neg h, ih]
      simp [keys, Ne.symm h]
theorem valG_mem {kvs : List (κ × α)} {k : κ} {v : α} (h : valG kvs k = some v) : (k, v) ∈ kvs := by
  induction kvs with
  | nil => cases h
  | cons p r ih =>
    rw [valG_cons] at h
    split at h
    · rename_i e
      cases h
      subst e
      exact .head _
    · exact .tail _ (ih h)
theorem valG_of_mem {kvs : List (κ × α)} {k : κ} {v : α} (nd : (keys kvs).Nodup) (h : (k, v) ∈ kvs) : valG kvs k = some v := by
  induction kvs with
  | nil => cases h
  | cons p r ih =>
    rw [valG_cons]
    have nd' : p.1 ∉ keys r ∧ (keys r).Nodup := List.nodup_cons.mp nd
    rcases List.mem_cons.mp h with rfl | h
    · simp
    · rw [if_neg, ih nd'.2 h]
      rintro rfl
      exact nd'.1 (List.mem_map.mpr ⟨_, h, rfl⟩)
theorem any_key (kvs : List (κ × α)) (k : κ) : (kvs.any fun kv => decide (kv.1 = k)) = true ↔ k ∈ keys kvs := by
  simp [keys]
theorem keys_put (kvs : List (κ × α)) (k : κ) (v : α) : keys (putG kvs k v) = if k ∈ keys kvs then keys kvs else keys kvs ++ [k] := by
  unfold putG
  by_cases h : k ∈ keys kvs
  · rw [if_pos ((any_key kvs k).mpr h), if_pos h]
    unfold keys
    rw [List.map_map]
    apply List.map_congr_left
    intro a _
    simp only [Function.comp]
    split <;> rfl
  · rw [if_neg (fun g => h ((any_key kvs k).mp g)), if_neg h]
    simp [keys]
theorem mem_keys_put {kvs : List (κ × α)} {k x : κ} {v : α} : x ∈ keys (putG kvs k v) ↔ x = k ∨ x ∈ keys kvs := by
  rw [keys_put]
  by_cases h : k ∈ keys kvs
  · rw [if_pos h]
    constructor
    · exact .inr
    · rintro (rfl | g)
      · exact h
      · exact g
  · rw [if_neg h]
    simp [or_comm]
theorem nodup_put {kvs : List (κ × α)} (nd : (keys kvs).Nodup) (k : κ) (v : α) : (keys (putG kvs k v)).Nodup := by
  rw [keys_put]
  split
  · exact nd
  · rename_i h
    rw [List.nodup_append]
    refine ⟨nd, by simp, fun a ha b hb e => ?_⟩
    rw [List.mem_singleton] at hb
    subst hb e
    exact h ha
theorem length_put (kvs : List (κ × α)) (k : κ) (v : α) : (putG kvs k v).length ≤ kvs.length + 1 := by
  have h := congrArg List.length (keys_put kvs k v)
  unfold keys at h
  rw [List.length_map] at h
  rw [h]
  split <;> simp
theorem valG_append (a b : List (κ × α)) (x : κ) : valG (a ++ b) x = (valG a x).or (valG b x) := by
  induction a with
  | nil => rfl
  | cons p r ih =>
    rw [List.cons_append, valG_cons, valG_cons, ih]
    split <;> rfl
theorem valG_put (kvs : List (κ × α)) (k x : κ) (v : α) : valG (putG kvs k v) x = if x = k then some v else valG kvs x := by
  unfold putG
  split
  · rename_i h
    have h := (any_key kvs k).mp h
    induction kvs with
    | nil => cases h
    | cons p r ih =>
      rw [List.map_cons, valG_cons, valG_cons]
      by_cases e : p.1 = k
      · simp only [e, if_true]
        by_cases g : k = x
        · simp [g]
        · have g' : x ≠ k := Ne.symm g
          simp only [g, g', if_false]
          by_cases hr : k ∈ keys r
          · rw [ih ((any_key r k).mpr hr) hr, if_neg g']
          · have : r.map (fun kv => if kv.1 = k then (kv.1, v) else kv) = r := by
              conv => rhs; rw [← List.map_id r]
              apply List.map_congr_left
              intro a ha
              rw [if_neg]
              · rfl
              · rintro rfl; exact hr (List.mem_map.mpr ⟨a, ha, rfl⟩)
            rw [this]
      · have hr : k ∈ keys r := by
          rcases List.mem_cons.mp h with z | z
          · exact absurd z.symm e
          · exact z
        simp only [e, if_false]
        by_cases g : p.1 = x
        · have : x ≠ k := by rintro rfl; exact e g
          simp [g, this]
        · rw [if_neg g, ih ((any_key r k).mpr hr) hr, if_neg g]
  · rename_i h
    have h : k ∉ keys kvs := fun g => h ((any_key kvs k).mpr g)
    rw [valG_append, valG_cons, valG_nil]
    by_cases e : x = k
    · subst e
      rw [valG_none.mpr h]
      simp
    · rw [if_neg e, if_neg (Ne.symm e)]
      simp
theorem keys_drop (kvs : List (κ × α)) (k : κ) : keys (dropG kvs k) = (keys kvs).filter (fun x => decide (x ≠ k)) := by
  unfold keys dropG
  rw [List.filter_map]
  rfl
theorem valG_drop (kvs : List (κ × α)) (k x : κ) : valG (dropG kvs k) x = if x = k then none else valG kvs x := by
  unfold dropG
  induction kvs with
  | nil => simp [valG_nil]
  | cons p r ih =>
    by_cases e : p.1 = k
    · rw [List.filter_cons_of_neg (by simp [e]), ih, valG_cons]
      by_cases g : x = k
      · simp [g]
      · rw [if_neg g, if_neg g, if_neg]
        rintro rfl; exact g e
    · rw [List.filter_cons_of_pos (by simp [e]), valG_cons, ih, valG_cons]
      by_cases g : p.1 = x
      · rw [if_pos g, if_pos g, if_neg]
        rintro rfl; exact e g
      · rw [if_neg g, if_neg g]
theorem nodup_drop {kvs : List (κ × α)} (nd : (keys kvs).Nodup) (k : κ) : (keys (dropG kvs k)).Nodup := by
  rw [keys_drop]; exact nd.filter _
theorem valG_kmap {f : κ → κ'} (hf : ∀ a b, f a = f b → a = b) (g : α → α') (kvs : List (κ × α)) (k : κ) : valG (kmap f g kvs) (f k) = (valG kvs k).map g := by
  induction kvs with
  | nil => rfl
  | cons p r ih =>
    show valG ((f p.1, g p.2) :: kmap f g r) (f k) = _
    rw [valG_cons, valG_cons, ih]
    by_cases e : p.1 = k
    · simp [e]
    · rw [if_neg e, if_neg (fun z => e (hf _ _ z))]
theorem putG_kmap {f : κ → κ'} (hf : ∀ a b, f a = f b → a = b) (g : α → α') (kvs : List (κ × α)) (k : κ) (v : α) : putG (kmap f g kvs) (f k) (g v) = kmap f g (putG kvs k v) := by
  unfold putG
  have h1 : ((kmap f g kvs).any fun kv => decide (kv.1 = f k)) = kvs.any fun kv => decide (kv.1 = k) := by
    unfold kmap
    rw [List.any_map]
    congr 1
    funext p
    simp only [Function.comp]
    rw [decide_eq_decide]
    exact ⟨hf _ _, congrArg f⟩
  rw [h1]
  split
  · unfold kmap
    rw [List.map_map, List.map_map]
    apply List.map_congr_left
    intro p _
    simp only [Function.comp]
    by_cases e : p.1 = k
    · simp [e]
    · rw [if_neg (fun z => e (hf _ _ z)), if_neg e]
  · unfold kmap
    rw [List.map_append] <;> rfl
theorem dropG_kmap {f : κ → κ'} (hf : ∀ a b, f a = f b → a = b) (g : α → α') (kvs : List (κ × α)) (k : κ) : dropG (kmap f g kvs) (f k) = kmap f g (dropG kvs k) := by
  unfold dropG kmap
  rw [List.filter_map]
  congr 1
  apply List.filter_congr
  intro p _
  simp only [Function.comp]
  rw [decide_eq_decide]
  exact ⟨fun z e => z (congrArg f e), fun z e => z (hf _ _ e)⟩
end

/-! ### sorted rows -/
section
variable {α : Type}
abbrev Srt (rows : List (Str × α)) : Prop := rows.Pairwise fun p q => slt p.1 q.1
theorem Srt.nd {rows : List (Str × α)} (h : Srt rows) : (keys rows).Nodup := by
  unfold keys
  rw [List.nodup_iff_pairwise_ne, List.pairwise_map]
  exact h.imp fun {a b} z => slt_ne z
theorem srt_ext : ∀ {xs ys : List (Str × α)}, Srt xs → Srt ys → (∀ x, valG xs x = valG ys x) → xs = ys
  | [], [], _, _, _ => rfl
  | [], q :: _, _, _, e => by
    have := e q.1
    rw [valG_nil, valG_cons, if_pos rfl] at this
    cases this
  | p :: _, [], _, _, e => by
    have := e p.1
    rw [valG_nil, valG_cons, if_pos rfl] at this
    cases this
  | p :: xs, q :: ys, h1, h2, e => by
    obtain ⟨a1, a2⟩ := List.pairwise_cons.mp h1
    obtain ⟨b1, b2⟩ := List.pairwise_cons.mp h2
    have lo : ∀ {r : List (Str × α)} {x y : Str}, (∀ z ∈ r, slt x z.1) → slt y x ∨ y = x → valG r y = none := fun {r x y} h g => by
      rw [valG_none]
      intro m
      obtain ⟨z, hz, rfl⟩ := List.mem_map.mp m
      rcases g with g | g
      · exact slt_asymm g (h z hz)
      · rw [← g] at h; exact slt_irrefl _ (h z hz)
    have hk : p.1 = q.1 := by
      rcases slt_tri p.1 q.1 with z | z | z
      · have := e p.1
        rw [valG_cons, if_pos rfl, valG_cons, if_neg (slt_ne z).symm, lo b1 (.inl z)] at this
        cases this
      · exact z
      · have := e q.1
        rw [valG_cons, valG_cons, if_pos rfl, if_neg (slt_ne z).symm, lo a1 (.inl z)] at this
        cases this
    have hv : p.2 = q.2 := by
      have := e p.1
      rw [valG_cons, if_pos rfl, valG_cons, if_pos hk.symm] at this
      exact Option.some.inj this
    rw [srt_ext a2 b2 fun x => by
      have := e x
      rw [valG_cons, valG_cons, hk] at this
      by_cases g : q.1 = x
      · rw [lo a1 (.inr (by rw [hk]; exact g.symm)), lo b1 (.inr g.symm)]
      · rwa [if_neg g, if_neg g] at this]
    exact congrArg (· :: ys) (Prod.ext hk hv)
/-- a table's rows by name -/
def rowsOf [Inhabited α] (d : List (Str × α)) : List (Str × α) := ((keys d).mergeSort sle).map fun s => (s, (valG d s).getD default)
theorem keys_rowsOf [Inhabited α] (d : List (Str × α)) : keys (rowsOf d) = (keys d).mergeSort sle := by
  unfold rowsOf
  show (List.map (fun s => (s, (valG d s).getD default)) ((keys d).mergeSort sle)).map (·.1) = _
  rw [List.map_map]
  exact (List.map_congr_left (fun _ _ => rfl)).trans (List.map_id _)
theorem rowsOf_srt [Inhabited α] {d : List (Str × α)} (nd : (keys d).Nodup) : Srt (rowsOf d) := by
  unfold Srt rowsOf
  rw [List.pairwise_map]
  exact sort_pairwise nd
theorem valG_rowsOf [Inhabited α] {d : List (Str × α)} (nd : (keys d).Nodup) (x : Str) : valG (rowsOf d) x = valG d x := by
  cases h : valG d x with
  | none =>
    rw [valG_none, keys_rowsOf, List.mem_mergeSort]
    exact valG_none.mp h
  | some v =>
    refine valG_of_mem (rowsOf_srt nd).nd ?_
    have hm : x ∈ keys d := by
      rcases Classical.em (x ∈ keys d) with z | z
      · exact z
      · rw [valG_none.mpr z] at h; cases h
    unfold rowsOf
    exact List.mem_map.mpr ⟨x, List.mem_mergeSort.mpr hm, by rw [h] <;> rfl⟩
theorem length_rowsOf [Inhabited α] (d : List (Str × α)) : (rowsOf d).length = d.length := by
  unfold rowsOf
  rw [List.length_map, List.length_mergeSort]
  exact List.length_map _
/-- placed -/
def plc (name : Str) (box : α) : Bool → List (Str × α) → List (Str × α)
  | put, [] => if put then [] else [(name, box)]
  | put, (o, k) :: r => (if !put && decide (¬ slt o name) then [(name, box)] else []) ++ ((if o = name then [] else [(o, k)]) ++ plc name box (put || decide (¬ slt o name)) r)
theorem plc_true (name : Str) (box : α) (rows : List (Str × α)) : plc name box true rows = rows.filter fun p => decide (p.1 ≠ name) := by
  induction rows with
  | nil => rfl
  | cons p r ih =>
    obtain ⟨o, k⟩ := p
    show (if (!true && decide (¬ slt o name)) = true then _ else _) ++ (_ ++ plc name box (true || decide (¬ slt o name)) r) = _
    rw [Bool.true_or, ih]
    by_cases e : o = name <;> simp [e]
theorem plc_srt {name : Str} {box : α} {rows : List (Str × α)} (h : Srt rows) : Srt (plc name box false rows) ∧ ∀ x, valG (plc name box false rows) x = if x = name then some box else valG rows x := by
  induction rows with
  | nil =>
    refine ⟨by simp [plc], fun x => ?_⟩
    show valG [(name, box)] x = _
    rw [valG_cons, valG_nil]
    by_cases e : x = name
    · simp [e]
    · rw [if_neg e, if_neg (Ne.symm e)]
  | cons p r ih =>
    obtain ⟨o, k⟩ := p
    obtain ⟨h1, h2⟩ := List.pairwise_cons.mp h
    obtain ⟨i1, i2⟩ := ih h2
    show Srt ((if (!false && decide (¬ slt o name)) = true then _ else _) ++ (_ ++ plc name box (false || decide (¬ slt o name)) r)) ∧ _
    rw [Bool.false_or, Bool.not_false, Bool.true_and]
    by_cases hs : slt o name
    · have hne : o ≠ name := slt_ne hs
      have e : plc name box false ((o, k) :: r) = (o, k) :: plc name box false r := by
        show (if (!false && decide (¬ slt o name)) = true then _ else _) ++ (_ ++ plc name box (false || decide (¬ slt o name)) r) = _
        simp [hs, hne]
      rw [e]
      simp only [hs, not_true, decide_false, Bool.false_eq_true, if_false, hne, List.nil_append, List.cons_append]
      refine ⟨List.pairwise_cons.mpr ⟨fun z hz => ?_, i1⟩, fun x => ?_⟩
      · have hm : z.1 ∈ keys (plc name box false r) := List.mem_map.mpr ⟨z, hz, rfl⟩
        by_cases g : z.1 = name
        · rw [g]; exact hs
        · have : valG (plc name box false r) z.1 = valG r z.1 := by rw [i2, if_neg g]
          have hr : z.1 ∈ keys r := by
            rcases Classical.em (z.1 ∈ keys r) with y | y
            · exact y
            · rw [valG_none.mpr y, valG_none] at this; exact absurd hm this
          obtain ⟨y, hy, e⟩ := List.mem_map.mp hr
          rw [← e]
          exact h1 y hy
      · rw [valG_cons, valG_cons, i2]
        by_cases g : o = x
        · subst g; rw [if_pos rfl, if_neg hne, if_pos rfl]
        · rw [if_neg g, if_neg g]
    · have e : plc name box false ((o, k) :: r) = (name, box) :: ((if o = name then [] else [(o, k)]) ++ r.filter fun p => decide (p.1 ≠ name)) := by
        show (if (!false && decide (¬ slt o name)) = true then _ else _) ++ (_ ++ plc name box (false || decide (¬ slt o name)) r) = _
        simp [hs, plc_true]
      have e2 : (if o = name then [] else [(o, k)]) ++ (r.filter fun p => decide (p.1 ≠ name)) = ((o, k) :: r).filter fun p => decide (p.1 ≠ name) := by
        by_cases g : o = name <;> simp [g]
      rw [e, e2]
      simp only [hs, not_false_eq_true, decide_true, if_true]
      rw [plc_true, e2]
      show Srt ((name, box) :: _) ∧ _
      refine ⟨List.pairwise_cons.mpr ⟨fun z hz => ?_, h.filter _⟩, fun x => ?_⟩
      · obtain ⟨z1, z2⟩ := List.mem_filter.mp hz
        have z2 := of_decide_eq_true z2
        rcases List.mem_cons.mp z1 with rfl | z1
        · rcases slt_tri o name with y | y | y
          · exact absurd y hs
          · exact absurd y z2
          · exact y
        · have h3 := h1 z z1
          rcases slt_tri name o with y | y | y
          · exact slt_trans y h3
          · rw [y]; exact h3
          · exact absurd y hs
      · have hd := valG_drop ((o, k) :: r) name x
        unfold dropG at hd
        rw [valG_cons, hd]
        by_cases g : x = name
        · simp [g]
        · rw [if_neg g, if_neg g, if_neg (Ne.symm g)]
theorem plc_rows [Inhabited α] {d : List (Str × α)} (nd : (keys d).Nodup) (name : Str) (box : α) : plc name box false (rowsOf d) = rowsOf (putG d name box) := by
  obtain ⟨h1, h2⟩ := plc_srt (name := name) (box := box) (rowsOf_srt nd)
  refine srt_ext h1 (rowsOf_srt (nodup_put nd _ _)) fun x => ?_
  rw [h2, valG_rowsOf (nodup_put nd _ _), valG_put, valG_rowsOf nd]
end
end Sn
/-! Q1 -/
set_option Elab.async false
set_option linter.all false
set_option maxRecDepth 100000
set_option autoImplicit false
set_option maxHeartbeats 1000000
/-! Q1: plain data compared -/
namespace Sn
open PySem PySem.Spec PyProof.Rows L2

mutual
def pyOf : Dv → PyData
  | .int i => .int i
  | .str s => .str s
  | .lst ds => .list (pyOfs ds)
  | .tup ds => .tuple (pyOfs ds)
  | _ => .none
def pyOfs : List Dv → List PyData
  | [] => []
  | d :: ds => pyOf d :: pyOfs ds
end
mutual
/-- plain data: none, numbers, texts, lists and tuples of them, n deep -/
def pln (n : Nat) : Dv → Bool
  | .non => true
  | .int _ => true
  | .str s => PyData.strOk s
  | .lst ds => match n with
    | 0 => false
    | n + 1 => plns n ds
  | .tup ds => match n with
    | 0 => false
    | n + 1 => plns n ds
  | _ => false
def plns (n : Nat) : List Dv → Bool
  | [] => true
  | d :: ds => pln n d && plns n ds
end
theorem plns_map {α : Type} (n : Nat) (f : α → Dv) : ∀ (xs : List α), (∀ a ∈ xs, pln n (f a) = true) → plns n (xs.map f) = true
  | [], _ => by simp [plns]
  | x :: xs, h => by
    rw [List.map_cons]
    unfold plns
    rw [h x (.head _), plns_map n f xs fun a ha => h a (.tail _ ha)]
    rfl
theorem plns_of {n : Nat} : ∀ {xs : List Dv}, (∀ a ∈ xs, pln n a = true) → plns n xs = true
  | [], _ => by simp [plns]
  | x :: xs, h => by
    unfold plns
    rw [h x (.head _), plns_of fun a ha => h a (.tail _ ha)]
    rfl
mutual
theorem pln_ok (m : Mem) : ∀ (n : Nat) (d : Dv), pln n d = true → toPy m d = some (pyOf d) ∧ (pyOf d).canLay0 = true ∧ (pyOf d).depth ≤ n
  | _, .non, _ => by simp [toPy, pyOf, PyData.canLay0, PyData.depth]
  | _, .int _, _ => by simp [toPy, pyOf, PyData.canLay0, PyData.depth]
  | _, .str s, h => by
    have h : PyData.strOk s = true := by simpa [pln] using h
    simp [toPy, pyOf, PyData.canLay0, PyData.depth, h]
  | 0, .lst ds, h => by simp [pln] at h
  | n + 1, .lst ds, h => by
    have h : plns n ds = true := by simpa [pln] using h
    obtain ⟨a, b, c⟩ := plns_ok m n ds h
    refine ⟨by simp [toPy, pyOf, a], by simp only [pyOf, PyData.canLay0]; exact b, by simp only [pyOf, PyData.depth]; omega⟩
  | 0, .tup ds, h => by simp [pln] at h
  | n + 1, .tup ds, h => by
    have h : plns n ds = true := by simpa [pln] using h
    obtain ⟨a, b, c⟩ := plns_ok m n ds h
    refine ⟨by simp [toPy, pyOf, a], by simp only [pyOf, PyData.canLay0]; exact b, by simp only [pyOf, PyData.depth]; omega⟩
  | _, .bl _, h => by simp [pln] at h
  | _, .fn _, h => by simp [pln] at h
  | _, .loc _, h => by simp [pln] at h
  | _, .scr _, h => by simp [pln] at h
  | _, .dic _ _, h => by simp [pln] at h
  | _, .dit _ _, h => by simp [pln] at h
theorem plns_ok (m : Mem) : ∀ (n : Nat) (ds : List Dv), plns n ds = true → toPys m ds = some (pyOfs ds) ∧ PyData.canLayAll0 (pyOfs ds) = true ∧ PyData.depthAll (pyOfs ds) ≤ n
  | _, [], _ => by simp [toPys, pyOfs, PyData.canLayAll0, PyData.depthAll]
  | n, d :: ds, h => by
    have h : pln n d = true ∧ plns n ds = true := by simpa [plns] using h
    obtain ⟨a, b, c⟩ := pln_ok m n d h.1
    obtain ⟨a', b', c'⟩ := plns_ok m n ds h.2
    refine ⟨by simp [toPys, pyOfs, a, a'], by simp only [pyOfs, PyData.canLayAll0]; rw [b, b']; rfl, by simp only [pyOfs, PyData.depthAll]; omega⟩
end
mutual
theorem pln_eq : ∀ (n : Nat) (d e : Dv), pln n d = true → pln n e = true → ((pyOf d).eqv (pyOf e) = true ↔ d = e)
  | n, .lst ds, e, h, g => by
    cases e with
    | lst es =>
      cases n with
      | zero => simp [pln] at h
      | succ n =>
        have h : plns n ds = true := by simpa [pln] using h
        have g : plns n es = true := by simpa [pln] using g
        have := plns_eq n ds es h g
        simp only [pyOf, PyData.eqv, this, Dv.lst.injEq]
    | _ => first | (simp [pyOf, PyData.eqv]; done) | (simp [pln] at g; done)
  | n, .tup ds, e, h, g => by
    cases e with
    | tup es =>
      cases n with
      | zero => simp [pln] at h
      | succ n =>
        have h : plns n ds = true := by simpa [pln] using h
        have g : plns n es = true := by simpa [pln] using g
        have := plns_eq n ds es h g
        simp only [pyOf, PyData.eqv, this, Dv.tup.injEq]
    | _ => first | (simp [pyOf, PyData.eqv]; done) | (simp [pln] at g; done)
  | n, .int i, e, h, g => by
    cases e with
    | _ => first | (simp [pyOf, PyData.eqv]; done) | (simp [pln] at g; done)
  | n, .str i, e, h, g => by
    cases e with
    | _ => first | (simp [pyOf, PyData.eqv]; done) | (simp [pln] at g; done)
  | n, .non, e, h, g => by
    cases e with
    | _ => first | (simp [pyOf, PyData.eqv]; done) | (simp [pln] at g; done)
  | _, .bl _, _, h, _ => by simp [pln] at h
  | _, .fn _, _, h, _ => by simp [pln] at h
  | _, .loc _, _, h, _ => by simp [pln] at h
  | _, .scr _, _, h, _ => by simp [pln] at h
  | _, .dic _ _, _, h, _ => by simp [pln] at h
  | _, .dit _ _, _, h, _ => by simp [pln] at h
theorem plns_eq : ∀ (n : Nat) (ds es : List Dv), plns n ds = true → plns n es = true → (PyData.eqvAll (pyOfs ds) (pyOfs es) = true ↔ ds = es)
  | _, [], [], _, _ => by simp [pyOfs, PyData.eqvAll]
  | _, [], _ :: _, _, _ => by simp [pyOfs, PyData.eqvAll]
  | _, _ :: _, [], _, _ => by simp [pyOfs, PyData.eqvAll]
  | n, d :: ds, e :: es, h, g => by
    have h : pln n d = true ∧ plns n ds = true := by simpa [plns] using h
    have g : pln n e = true ∧ plns n es = true := by simpa [plns] using g
    simp only [pyOfs, PyData.eqvAll, Bool.and_eq_true, pln_eq n d e h.1 g.1, plns_eq n ds es h.2 g.2, List.cons.injEq]
end
open Classical in
theorem eqB_pln {n : Nat} {m : Mem} {x y : Dv} (hn : n ≤ 64) (h : pln n (vw m x) = true) (g : pln n (vw m y) = true) (hs : scD x = none ∨ scD y = none) : eqB m x y = some (decide (vw m x = vw m y)) := by
  obtain ⟨a, b, c⟩ := pln_ok m n _ h
  obtain ⟨a', b', c'⟩ := pln_ok m n _ g
  have s1 : SeqAt.shaped (pyOf (vw m x)) = true := by
    unfold SeqAt.shaped
    rw [b, decide_eq_true (Nat.le_trans c hn)]
    rfl
  have s2 : SeqAt.shaped (pyOf (vw m y)) = true := by
    unfold SeqAt.shaped
    rw [b', decide_eq_true (Nat.le_trans c' hn)]
    rfl
  have e : (pyOf (vw m x)).eqv (pyOf (vw m y)) = decide (vw m x = vw m y) := by
    rw [Bool.eq_iff_iff, decide_eq_true_iff]
    exact pln_eq n _ _ h g
  unfold eqB
  split
  · rename_i h1 h2
    rcases hs with z | z
    · rw [z] at h1; cases h1
    · rw [z] at h2; cases h2
  · rw [a, a']
    simp only [s1, s2, Bool.and_self, if_true, e]
open Classical in
theorem eqD_pln {n : Nat} {m : Mem} {x y : Dv} (hn : n ≤ 64) (h : pln n (vw m x) = true) (g : pln n (vw m y) = true) (hs : scD x = none ∨ scD y = none) : eqD x y m = .ok (.bl (decide (vw m x = vw m y))) m := by
  unfold eqD; rw [eqB_pln hn h g hs]
open Classical in
theorem neD_pln {n : Nat} {m : Mem} {x y : Dv} (hn : n ≤ 64) (h : pln n (vw m x) = true) (g : pln n (vw m y) = true) (hs : scD x = none ∨ scD y = none) : neD x y m = .ok (.bl (!decide (vw m x = vw m y))) m := by
  unfold neD; rw [eqB_pln hn h g hs]
theorem strOk_abc {s : Str} (h : ∀ x ∈ tx s, x ≤ 122) : PyData.strOk s = true := by
  unfold PyData.strOk
  rw [← Array.all_toList, List.all_eq_true]
  intro x hx
  have := h x hx
  simp
  omega
/-- a list's data: given at once or at a place -/
def LV (m : Mem) (x : Dv) (ds : List Dv) : Prop := x = .lst ds ∨ ∃ n, x = .loc n ∧ m[n]? = some (.lst ds)
theorem LV.sq {m : Mem} {x : Dv} {ds : List Dv} (h : LV m x ds) : sq m x = some ds := by
  rcases h with rfl | ⟨n, rfl, h⟩
  · rfl
  · rw [sq_loc, h]
theorem LV.ty {m : Mem} {x : Dv} {ds : List Dv} (h : LV m x ds) : tyOf m x = some .list := by
  rcases h with rfl | ⟨n, rfl, h⟩
  · rfl
  · exact tyOf_loc_l h
theorem LV.len {m : Mem} {x : Dv} {ds : List Dv} (h : LV m x ds) : lenD [x] m = .ok (.int ds.length) m := by
  rcases h with rfl | ⟨n, rfl, h⟩
  · rfl
  · rw [lenD_loc, sq_loc, h]
theorem LV.ix {m : Mem} {x : Dv} {ds : List Dv} (h : LV m x ds) (i : Int) : ixD x (.int i) m = (match atI ds i with
    | some d => .ok d m
    | none => .bad) := by
  rcases h with rfl | ⟨n, rfl, h⟩
  · rfl
  · rw [ixD_loc, sq_loc, h] <;> rfl
theorem LV.vw {m : Mem} {x : Dv} {ds : List Dv} (h : LV m x ds) : vw m x = .lst ds := by
  rcases h with rfl | ⟨n, rfl, h⟩
  · rfl
  · show (match m[n]? with
      | some (.lst ds) => Dv.lst ds
      | _ => .loc n) = _
    rw [h]
theorem LV.app {m : Mem} {x : Dv} {ds : List Dv} (h : LV m x ds) (e : Mem) : LV (m ++ e) x ds := by
  rcases h with rfl | ⟨n, rfl, h⟩
  · exact .inl rfl
  · refine .inr ⟨n, rfl, ?_⟩
    rw [List.getElem?_append_left]
    · exact h
    · exact (List.getElem?_eq_some_iff.mp h).1
theorem sortKsD_ok {α : Type} {m : Mem} {n : Nat} {f : α → Dv} {d : List (Str × α)} (h : m[n]? = some (.dic (kmap Sum.inr f d))) : sortKsD [.loc n] m = .ok (.lst (((keys d).mergeSort sle).map Dv.str)) m := by
  have e : dcAt m (.loc n) = some (.k (kmap Sum.inr f d)) := by rw [dcAt_r, h]
  have e2 : kss ((kmap Sum.inr f d).map (·.1)) = some (keys d) := by
    have := keys_kmap (κ' := Key) Sum.inr f d
    unfold keys at this
    rw [this, kss_map] <;> rfl
  unfold sortKsD
  simp only [e, e2]
theorem inr_inj (a b : Str) (h : (Sum.inr a : Key) = Sum.inr b) : a = b := Sum.inr.inj h
theorem inl_inj (a b : Int) (h : (Sum.inl a : Key) = Sum.inl b) : a = b := Sum.inl.inj h
end Sn
/-! Sn13 -/
set_option Elab.async false
set_option linter.all false
set_option maxRecDepth 100000
set_option autoImplicit false
set_option maxHeartbeats 1000000
/-! Sn13: lists of data sorted; dicts whose values are equal tuples -/
namespace Sn
open PySem PySem.Spec PyProof.Rows L2
section
variable {X : Cx}
theorem each_zip {K : PySem.W.Frag} {H : Hp} : ∀ {vs : List V} {ps : List PyData} {us : List Value}, DpAll K H vs ps → Vals vs us → PySem.W.EachIs (fun u b => RelV b.1 u) us (vs.zip ps)
  | [], [], us, _, r => by cases r; exact .nil
  | [], _ :: _, _, d, _ => nomatch d
  | _ :: _, [], _, d, _ => nomatch d
  | v :: vs, p :: ps, us, d, r => by
    cases r with
    | cons q t =>
      cases d with
      | cons d1 d2 => exact .cons q (each_zip d2 t)
theorem each_reads {K : PySem.W.Frag} {pins : List (Addr × Obj)} {σ : L2.St} {H : Hp} {s : Shared} (I : Inv X pins σ H s) : ∀ {vs : List V} {ps : List PyData} {us : List Value}, DpAll X.K H vs ps → Vals vs us → PySem.W.EachIs (fun u b => ∃ as, Reads s.heap u b.2 as) us (vs.zip ps)
  | [], [], us, _, r => by cases r; exact .nil
  | [], _ :: _, _, d, _ => nomatch d
  | _ :: _, [], _, d, _ => nomatch d
  | v :: vs, p :: ps, us, d, r => by
    cases r with
    | cons q t =>
      cases d with
      | cons d1 d2 => exact .cons (Dp.reads I p v _ d1 q) (each_reads (K := K) I d2 t)
theorem zip_snd {α β : Type} : ∀ {xs : List α} {ys : List β}, xs.length = ys.length → (xs.zip ys).map (·.2) = ys
  | [], [], _ => rfl
  | [], _ :: _, h => by cases h
  | _ :: _, [], h => by cases h
  | x :: xs, y :: ys, h => by
    show y :: (xs.zip ys).map (·.2) = _
    rw [zip_snd (by simpa using h)]
theorem dpAll_len {K : PySem.W.Frag} {H : Hp} : ∀ {vs : List V} {ps : List PyData}, DpAll K H vs ps → vs.length = ps.length
  | [], [], _ => rfl
  | [], _ :: _, d => nomatch d
  | _ :: _, [], d => nomatch d
  | v :: vs, p :: ps, d => by
    cases d with
    | cons _ d2 => simp [dpAll_len d2]
theorem vals_of_zip {bs : List (V × PyData)} : ∀ {us : List Value}, PySem.W.EachIs (fun u (b : V × PyData) => RelV b.1 u) us bs → Vals (bs.map (·.1)) us
  | _, .nil => .nil
  | _, .cons q t => .cons q (vals_of_zip t)
def rSortD (K : PySem.W.Frag) : List V → Hp → VK → Prop := fun xs H Q => ∃ (a : Addr) (vs : List V) (ps : List PyData), xs = [.ref a] ∧ SqL K H a vs ∧ DpAll K H vs ps ∧ PySem.W.AllAlike ps ∧ PySem.W.Sortable ps ∧ (∀ p ∈ ps, p.depth ≤ 40) ∧
  ∀ p, H p = none → Q (.ref p) (upd H p (.lst (((vs.zip ps).mergeSort (PySem.W.dataLe false (·.2))).map (·.1))))
/-- sorted(xs), data of one kind -/
theorem call_sortD (hu : X.A.units + 64 < cLine) : CallR X (.builtin "sorted") (rSortD X.K) := by
  intro pins s σ H xs us Q I r q
  obtain ⟨a, vs, ps, ex, hd, dp, hal, hso, hdp, q⟩ := q
  subst ex
  obtain ⟨its, rv, hl, hz⟩ := I.list hd
  rw [Vals.ref1 r]
  have hlen := dpAll_len dp
  have hps : (vs.zip ps).map (·.2) = ps := zip_snd hlen
  have hz' : (vs.zip ps).length = vs.length := by rw [List.length_zip, hlen, Nat.min_self]
  refine PySem.W.sorted_data (enc := fun b : V × PyData => b.2) hl.isList (each_zip dp rv) (each_reads (K := X.K) I dp rv) (by rw [hps]; exact hal) (by rw [hps]; exact hso) (by rw [hz']; exact hz) (fun b hb => ?_) fun out _ eo => ?_
  · have : b.2 ∈ ps := by rw [← hps]; exact List.mem_map.mpr ⟨b, hb, rfl⟩
    have := hdp _ this
    omega
  · obtain ⟨ep, he'⟩ := PyProof.Rows.sortedAll_at s.heap its out.toArray
    have hle : (((vs.zip ps).mergeSort (PySem.W.dataLe false (·.2))).map (·.1)).length ≤ sizeLine := by
      rw [List.length_map, List.length_mergeSort, hz']
      exact hz
    exact ⟨.ref _, upd H (s.heap.objs.size + 1) (.lst (((vs.zip ps).mergeSort (PySem.W.dataLe false (·.2))).map (·.1))), I.laid (t' := s.toks) (fun _ _ => PyProof.Rows.sortedAll_old) (Nat.le_succ _) ⟨hle, out, ep, vals_of_zip eo, he'⟩, rfl, q _ (I.hok.fresh (Nat.le_succ _))⟩
end
section
variable {G : Cg}
theorem reps_zip3 {D : Hp} {adr : List Addr} : ∀ {vs : List V} {ds : List Dv} {ps : List PyData}, Reps G D adr vs ds → ∀ t ∈ vs.zip (ds.zip ps), Rep G D adr t.1 t.2.1
  | [], _, _, _, t, ht => by cases ht
  | _ :: _, [], _, h, _, _ => nomatch h
  | _ :: _, _ :: _, [], _, t, ht => by cases ht
  | v :: vs, d :: ds, p :: ps, h, t, ht => by
    cases h with
    | cons q r =>
      rcases List.mem_cons.mp ht with rfl | ht
      · exact q
      · exact reps_zip3 r t ht
theorem reps_of_all {D : Hp} {adr : List Addr} {α : Type} : ∀ (l : List α) (f : α → V) (g : α → Dv), (∀ a ∈ l, Rep G D adr (f a) (g a)) → Reps G D adr (l.map f) (l.map g)
  | [], _, _, _ => .nil
  | a :: l, f, g, h => .cons (h a (.head _)) (reps_of_all l f g fun b hb => h b (.tail _ hb))
theorem zip_map3 {α β γ : Type} : ∀ {xs : List α} {ys : List β} {zs : List γ}, xs.length = ys.length → ys.length = zs.length → (xs.zip (ys.zip zs)).map (fun t => (t.1, t.2.2)) = xs.zip zs ∧ (xs.zip (ys.zip zs)).map (fun t => t.2) = ys.zip zs
  | [], [], [], _, _ => ⟨rfl, rfl⟩
  | x :: xs, y :: ys, z :: zs, h1, h2 => by
    obtain ⟨a, b⟩ := zip_map3 (xs := xs) (ys := ys) (zs := zs) (by simpa using h1) (by simpa using h2)
    constructor
    · show (x, z) :: (xs.zip (ys.zip zs)).map _ = _
      rw [a]; rfl
    · show (y, z) :: (xs.zip (ys.zip zs)).map _ = _
      rw [b]; rfl
  | [], _ :: _, _, h, _ => by cases h
  | _ :: _, [], _, h, _ => by cases h
  | _ :: _, _ :: _, [], _, h => by cases h
  | [], [], _ :: _, _, h => by cases h
/-- sorted data, with the things -/
def srtD (ds : List Dv) (ps : List PyData) : List Dv := ((ds.zip ps).mergeSort (PySem.W.dataLe false (·.2))).map (·.1)
theorem reps_srt {D : Hp} {adr : List Addr} {vs : List V} {ds : List Dv} {ps : List PyData} (r : Reps G D adr vs ds) (h : ds.length = ps.length) : Reps G D adr (((vs.zip ps).mergeSort (PySem.W.dataLe false (·.2))).map (·.1)) (srtD ds ps) := by
  obtain ⟨e1, e2⟩ := zip_map3 r.length h
  have m1 : ((vs.zip (ds.zip ps)).mergeSort (PySem.W.dataLe false fun t => t.2.2)).map (fun t => (t.1, t.2.2)) = (vs.zip ps).mergeSort (PySem.W.dataLe false (·.2)) := by
    conv => rhs; rw [← e1]
    exact List.map_mergeSort fun a _ b _ => rfl
  have m2 : ((vs.zip (ds.zip ps)).mergeSort (PySem.W.dataLe false fun t => t.2.2)).map (fun t => t.2) = (ds.zip ps).mergeSort (PySem.W.dataLe false (·.2)) := by
    conv => rhs; rw [← e2]
    exact List.map_mergeSort fun a _ b _ => rfl
  unfold srtD
  rw [← m1, ← m2, List.map_map, List.map_map]
  exact reps_of_all _ _ _ fun t ht => reps_zip3 r t (List.mem_mergeSort.mp ht)
open Classical in
noncomputable def sortDD (ds : List Dv) (m : Mem) : Res Dv := match ds with
  | [x] => match sq m x with
    | some es => match toPys m es with
      | some ps => if PySem.W.AllAlike ps ∧ PySem.W.Sortable ps ∧ ∀ p ∈ ps, p.depth ≤ 40 then .ok (.lst (srtD es ps)) m else .bad
      | none => .bad
    | none => .bad
  | _ => .bad
theorem toPys_len {m : Mem} : ∀ {ds : List Dv} {ps : List PyData}, toPys m ds = some ps → ds.length = ps.length
  | [], _, e => by cases e; rfl
  | d :: ds, ps, e => by
    unfold toPys at e
    split at e
    · rename_i p qs h1 h2
      cases e
      simp [toPys_len h2]
    · cases e
theorem sortDD_s : CaS G (rSortD G.K) sortDD := fun D adr m H xs ds rm r σ W Q a => by
  unfold sortDD at a
  split at a
  · split at a
    · rename_i es h1
      split at a
      · rename_i ps h2
        split at a
        · rename_i hc
          obtain ⟨v, rfl, q⟩ := r.one_inv
          obtain ⟨p, vs, rfl, h5, h6⟩ := rm.sq q h1
          refine ⟨p, vs, ps, rfl, h5, toPys_dp rm es vs ps h6 h2, hc.1, hc.2.1, hc.2.2, fun q hq => ?_⟩
          have hl : Le D (upd D q (.lst (((vs.zip ps).mergeSort (PySem.W.dataLe false (·.2))).map (·.1)))) := Le.new (rm.dfree hq)
          exact a _ _ _ adr hl (Pf.refl _) (rm.newD hq) (.lst upd_same (Reps.mono hl (Pf.refl _) _ _ (reps_srt h6 (toPys_len h2))))
        · exact a.elim
      · exact a.elim
    · exact a.elim
  · exact a.elim
/-! ### dicts of equal tuples -/
def rEqDD (K : PySem.W.Frag) : R2 := fun x y H Q => ∃ a b ks ls, x = .ref a ∧ y = .ref b ∧ H a = some (.dK ks) ∧ H b = some (.dK ls) ∧ ks.length = ls.length ∧
  (∀ p ∈ ks, ∃ c d q1 q2, p.2 = .ref c ∧ valV ls p.1 = some (.ref d) ∧ Dp K H (.ref c) q1 ∧ Dp K H (.ref d) q2 ∧ SeqAt.shaped q1 = true ∧ SeqAt.shaped q2 = true ∧ PyData.eqv q1 q2 = true) ∧ Q (.bl true) H
theorem op_eqDD {X : Cx} (hu : X.A.units + 65 < cLine) : OpR X (compareOp .Eq) (rEqDD X.K) := by
  intro pins s σ H x y v u Q I rx ry h
  obtain ⟨a, b, ks, ls, rfl, rfl, ha, hb, hl, hp, q⟩ := h
  cases (show v = Value.ref a from rx)
  cases (show u = Value.ref b from ry)
  obtain ⟨_, ya, va, ra, da⟩ := (show ObjOk X.prog X.w H s.heap a (.dK ks) from I.hok a _ ha)
  obtain ⟨_, yb, vb, rb, db⟩ := (show ObjOk X.prog X.w H s.heap b (.dK ls) from I.hok b _ hb)
  refine PySem.W.rcP_dicts (A := X.A) (knd := mixKind X.prog X.w) (r := true) ya yb da db (by omega) (fun _ => hits_run (F := fun x y => ∃ c d q1 q2, x = .ref c ∧ y = .ref d ∧ Dp X.K H (.ref c) q1 ∧ Dp X.K H (.ref d) q2 ∧ SeqAt.shaped q1 = true ∧ SeqAt.shaped q2 = true ∧ PyData.eqv q1 q2 = true) ?_ rb ra fun p hm => ?_) _ _ ?_
  · rintro x y v u ⟨c, d, q1, q2, rfl, rfl, d1, d2, s1, s2, e⟩ rx ry
    cases (show v = Value.ref c from rx)
    cases (show u = Value.ref d from ry)
    by_cases z : c = d
    · subst z
      exact (SeqAt.EqAt.same _).eqP
    · refine SeqAt.eqP_refs z fun E Q hq => ?_
      obtain ⟨as, r1⟩ := Dp.reads I q1 _ _ d1 rfl
      obtain ⟨bs, r2⟩ := Dp.reads I q2 _ _ d2 rfl
      exact SeqAt.compareEq_shaped r1 r2 s1 s2 (by show X.A.units + 1 + 64 < cLine; omega) (by rw [e]; exact hq)
  · obtain ⟨c, d, q1, q2, e1, e2, r⟩ := hp p hm
    exact ⟨_, e2, c, d, q1, q2, e1, rfl, r⟩
  · have e : va.length = vb.length := by rw [← ra.length, ← rb.length]; exact hl
    rw [show (va.length == vb.length && true) = true from by rw [e]; simp]
    exact ⟨.bl true, H, I, rfl, q⟩
theorem KReps.mem {K : Cg} {D : Hp} {adr : List Addr} {κ : Type} [DecidableEq κ] : ∀ {kvs : List (κ × V)} {kds : List (κ × Dv)}, KReps K D adr kvs kds → ∀ p ∈ kvs, ∃ q ∈ kds, p.1 = q.1 ∧ Rep K D adr p.2 q.2
  | [], _, _, p, hp => by cases hp
  | _ :: _, [], h, _, _ => by have := h.length; simp at this
  | (a, v) :: kvs, (b, d) :: kds, h, p, hp => by
    obtain ⟨rfl, q, r⟩ := h.cons
    rcases List.mem_cons.mp hp with rfl | hp
    · exact ⟨_, .head _, rfl, q⟩
    · obtain ⟨w, h1, h2, h3⟩ := KReps.mem r p hp
      exact ⟨w, .tail _ h1, h2, h3⟩
open Classical in
noncomputable def eqDict (x y : Dv) (m : Mem) : Res Dv := match kAt m x, kAt m y with
  | some (_, ks), some (_, ls) => if ks.length = ls.length ∧ ∀ p ∈ ks, ∃ ds, p.2 = .tup ds ∧ valG ls p.1 = some (.tup ds) ∧ pln 60 (.tup ds) = true then .ok (.bl true) m else .bad
  | _, _ => .bad
theorem eqDict_s : OpS G (rEqDD G.K) eqDict := fun D adr m H x y dx dy rm rx ry σ W Q a => by
  unfold eqDict at a
  split at a
  · rename_i n1 ks n2 ls h1 h2
    split at a
    · rename_i hc
      obtain ⟨p1, vs, rfl, _, _, e1, k1⟩ := rm.kAt rx h1
      obtain ⟨p2, ws, rfl, _, _, e2, k2⟩ := rm.kAt ry h2
      refine ⟨p1, p2, vs, ws, rfl, rfl, e1, e2, by rw [k1.length, k2.length]; exact hc.1, fun p hp => ?_, a.ok rm (.bl true)⟩
      obtain ⟨q, hq, hq1, hq2⟩ := k1.mem p hp
      obtain ⟨ds, d1, d2, d3⟩ := hc.2 q hq
      obtain ⟨v, v1, v2⟩ := (k2.val p.1).1 (.tup ds) (by rw [hq1]; exact d2)
      obtain ⟨t1, t2, t3⟩ := pln_ok m 60 _ d3
      have hsh : SeqAt.shaped (pyOf (.tup ds)) = true := by
        unfold SeqAt.shaped
        rw [t2, decide_eq_true (Nat.le_trans t3 (by decide))]
        rfl
      rw [d1] at hq2
      have dp1 := toPy_dp rm _ _ _ hq2 t1
      have dp2 := toPy_dp rm _ _ _ v2 t1
      cases hp2 : p.2 with
      | ref c =>
        cases v with
        | ref d =>
          rw [hp2] at dp1
          exact ⟨c, d, _, _, rfl, v1, dp1, dp2, hsh, hsh, (pln_eq 60 _ _ d3 d3).mpr rfl⟩
        | _ => cases v2
      | _ => rw [hp2] at hq2; cases hq2
    · exact a.elim
  · exact a.elim
end
end Sn
/-! Sn14 -/
set_option Elab.async false
set_option linter.all false
set_option maxRecDepth 100000
set_option autoImplicit false
set_option maxHeartbeats 1000000
/-! Sn14: a dict walked while a statement runs: it is locked, and comes free behind it -/
namespace Sn
open PySem PySem.Spec PyProof.Rows L2
section
variable {G : Cg} {X : Cx} {W : WX} {σ : L2.St} {H : Hp} {D : Hp} {adr : List Addr} {m : Mem}

def IsDk : HO → Prop
  | .dK _ => True
  | .dT _ => True
  | _ => False
theorem IsDk.mut {u : HO} (h : IsDk u) : Mut (some u) := by
  cases u <;> first | exact trivial | exact h.elim
def cutH (D : Hp) (a : Addr) : Hp := fun b => if b = a then none else D b
theorem cutH_ne {D : Hp} {a b : Addr} (h : b ≠ a) : cutH D a b = D b := by simp [cutH, h]
section
variable {a : Addr} {od : Obj} {u : HO} (ha : D a = some (.frz od u)) (hu : IsDk u)
include ha hu
theorem lk_ne {b : Addr} {o : HO} (h : D b = some o) (hn : ∀ od u, o ≠ .frz od u) : b ≠ a := fun e => by
  subst e
  rw [ha] at h
  cases h
  exact hn _ _ rfl
theorem lk_sq {K : PySem.W.Frag} {b : Addr} {xs : List V} (h : SqL K D b xs) : SqL K (cutH D a) b xs := by
  rcases h with (h | ⟨ob, h⟩) | h
  · exact .inl (.inl (by rw [cutH_ne (lk_ne ha hu h (fun _ _ e => by cases e))]; exact h))
  · have hb : b ≠ a := fun e => by
      subst e
      rw [ha] at h
      cases h
      exact hu
    exact .inl (.inr ⟨ob, by rw [cutH_ne hb]; exact h⟩)
  · exact .inr h
mutual
theorem lk_rep : ∀ (d : Dv) (v : V), Rep G D adr v d → Rep G (cutH D a) adr v d
  | .non, _, h => by cases h; exact .non
  | .bl b, _, h => by cases h; exact .bl b
  | .int i, _, h => by cases h; exact .int i
  | .str s, _, h => by cases h; exact .str s
  | .fn a, _, h => by cases h; exact .fn a
  | .loc n, _, h => by
    cases h with
    | loc q => exact .loc q
  | .scr ns, _, h => by
    cases h with
    | scr q => exact .scr (lk_sq ha hu q)
  | .lst ds, _, h => by
    cases h with
    | lst q r => exact .lst (by rw [cutH_ne (lk_ne ha hu q (fun _ _ e => by cases e))]; exact q) (lk_reps ds _ r)
  | .tup ds, _, h => by
    cases h with
    | tup q r => exact .tup (by rw [cutH_ne (lk_ne ha hu q (fun _ _ e => by cases e))]; exact q) (lk_reps ds _ r)
  | .dic ks ds, _, h => by cases h
  | .dit ks ds, _, h => by cases h
theorem lk_reps : ∀ (ds : List Dv) (vs : List V), Reps G D adr vs ds → Reps G (cutH D a) adr vs ds
  | [], _, h => by cases h; exact .nil
  | d :: ds, _, h => by
    cases h with
    | cons q r => exact .cons (lk_rep d _ q) (lk_reps ds _ r)
end
theorem lk_kreps {κ : Type} {kvs : List (κ × V)} {kds : List (κ × Dv)} (h : KReps G D adr kvs kds) : KReps G (cutH D a) adr kvs kds := ⟨h.1, lk_reps ha hu _ _ h.2⟩
theorem lk_rs {l : Lc} (h : RS G D adr l σ) : RS G (cutH D a) adr l σ := ⟨h.1, fun i d e => let ⟨v, p, q⟩ := h.2 i d e; ⟨v, p, lk_rep ha hu _ _ q⟩⟩
theorem lk_ro {b : Addr} (hb : b ≠ a) : ∀ {o : MO}, RO G D adr H b o → RO G (cutH D a) adr H b o
  | .dead, _ => trivial
  | .lst ds, ⟨vs, h, r⟩ => ⟨vs, h, lk_reps ha hu _ _ r⟩
  | .dic kds, ⟨vs, h, r⟩ => ⟨vs, h, lk_kreps ha hu r⟩
  | .dit kds, ⟨vs, h, r⟩ => ⟨vs, h, lk_kreps ha hu r⟩
  | .lck kds, ⟨vs, ob, h, r⟩ => ⟨vs, ob, by rw [cutH_ne hb]; exact h, lk_kreps ha hu r⟩
  | .lct kds, ⟨vs, ob, h, r⟩ => ⟨vs, ob, by rw [cutH_ne hb]; exact h, lk_kreps ha hu r⟩
  | .ins C ds, ⟨dx, fv, h, n, l, r⟩ => ⟨dx, fv, h, n, l, lk_reps ha hu _ _ r⟩
end
/-- what a dict becomes while it is walked, and back -/
def lkO : MO → Option MO
  | .dic k => some (.lck k)
  | .dit k => some (.lct k)
  | _ => none
def ulO : MO → Option MO
  | .lck k => some (.dic k)
  | .lct k => some (.dit k)
  | _ => none
theorem lkO_fre : ∀ {o o' : MO}, lkO o = some o' → Fre o ∧ ¬ Fre o'
  | .dic k, _, h => by cases h; exact ⟨trivial, id⟩
  | .dit k, _, h => by cases h; exact ⟨trivial, id⟩
  | .dead, _, h => by cases h
  | .lst k, _, h => by cases h
  | .lck k, _, h => by cases h
  | .lct k, _, h => by cases h
  | .ins C k, _, h => by cases h
theorem lkO_ro {a : Addr} : ∀ {o o' : MO}, RO G D adr H a o → lkO o = some o' → ∃ u, IsDk u ∧ H a = some u ∧ ∀ (D' H' : Hp) (od : Obj), Le D D' → D' a = some (.frz od u) → RO G D' adr H' a o'
  | .dic k, _, ⟨vs, h, r⟩, e => by cases e; exact ⟨_, (show IsDk (.dK vs) from trivial), h, fun D' H' od le q => ⟨vs, od, q, r.mono le (Pf.refl _)⟩⟩
  | .dit k, _, ⟨vs, h, r⟩, e => by cases e; exact ⟨_, (show IsDk (.dT vs) from trivial), h, fun D' H' od le q => ⟨vs, od, q, r.mono le (Pf.refl _)⟩⟩
  | .dead, _, _, h => by cases h
  | .lst k, _, _, h => by cases h
  | .lck k, _, _, h => by cases h
  | .lct k, _, _, h => by cases h
  | .ins C k, _, _, h => by cases h
theorem ulO_ro {a : Addr} : ∀ {o o' : MO}, RO G D adr H a o → ulO o = some o' → ∃ u od, IsDk u ∧ D a = some (.frz od u) ∧ ∀ (H' : Hp), H' a = some u → RO G (cutH D a) adr H' a o'
  | .lck k, _, ⟨vs, ob, h, r⟩, e => by cases e; exact ⟨_, ob, (show IsDk (.dK vs) from trivial), h, fun H' q => ⟨vs, q, lk_kreps h (show IsDk (.dK vs) from trivial) r⟩⟩
  | .lct k, _, ⟨vs, ob, h, r⟩, e => by cases e; exact ⟨_, ob, (show IsDk (.dT vs) from trivial), h, fun H' q => ⟨vs, q, lk_kreps h (show IsDk (.dT vs) from trivial) r⟩⟩
  | .dead, _, _, h => by cases h
  | .lst k, _, _, h => by cases h
  | .dic k, _, _, h => by cases h
  | .dit k, _, _, h => by cases h
  | .ins C k, _, _, h => by cases h
theorem RM.addr_ne (r : RM G D adr m H) {n k : Nat} {a b : Addr} (e1 : adr[n]? = some a) (q1 : adr[k]? = some b) (hk : n ≠ k) : b ≠ a := by
  rintro rfl
  obtain ⟨l1, g1⟩ := List.getElem?_eq_some_iff.mp e1
  obtain ⟨l2, g2⟩ := List.getElem?_eq_some_iff.mp q1
  exact hk ((List.getElem_inj r.nd).mp (g1.trans g2.symm))
theorem RM.lockd (r : RM G D adr m H) {n : Nat} {a : Addr} {o o' : MO} (e1 : adr[n]? = some a) (e2 : m[n]? = some o) (e3 : lkO o = some o') :
    ∃ u, IsDk u ∧ H a = some u ∧ Le D (upd D a (.frz default u)) ∧ ∀ od, Le D (upd D a (.frz od u)) ∧ RM G (upd D a (.frz od u)) adr (m.set n o') (upd H a (.frz od u)) := by
  obtain ⟨u, hu, h1, h2⟩ := lkO_ro (r.at_ n a o e1 e2) e3
  have hd := r.fr n a o e1 e2 (lkO_fre e3).1
  refine ⟨u, hu, h1, Le.new hd, fun od => ⟨Le.new hd, ?_⟩⟩
  refine ⟨r.le.upd2, r.nd, by simp [r.len], fun k b ob q1 q2 q3 => ?_, fun b hb => ?_, fun k b ob q1 q2 => ?_⟩
  · by_cases hk : n = k
    · subst hk
      rw [List.getElem?_set_self (by have := (List.getElem?_eq_some_iff.mp e2).1; exact this)] at q2
      cases q2
      exact absurd q3 (lkO_fre e3).2
    · rw [List.getElem?_set_ne hk] at q2
      rw [upd_ne (r.addr_ne e1 q1 hk)]
      exact r.fr k b ob q1 q2 q3
  · by_cases z : b = a
    · subst z
      rw [upd_same]
      exact fun e => by cases e
    · rw [upd_ne z]
      exact r.ex b hb
  · by_cases hk : n = k
    · subst hk
      rw [List.getElem?_set_self (by have := (List.getElem?_eq_some_iff.mp e2).1; exact this)] at q2
      cases q2
      rw [e1] at q1
      cases q1
      exact h2 _ _ od (Le.new hd) upd_same
    · rw [List.getElem?_set_ne hk] at q2
      exact ((r.at_ k b ob q1 q2).mono (Le.new hd) (Pf.refl _)).heap (upd_ne (r.addr_ne e1 q1 hk))
theorem RM.unlockd (r : RM G D adr m H) {n : Nat} {a : Addr} {o o' : MO} (e1 : adr[n]? = some a) (e2 : m[n]? = some o) (e3 : ulO o = some o') :
    ∃ u od, IsDk u ∧ D a = some (.frz od u) ∧ RM G (cutH D a) adr (m.set n o') (upd H a u) := by
  obtain ⟨u, od, hu, h1, h2⟩ := ulO_ro (r.at_ n a o e1 e2) e3
  refine ⟨u, od, hu, h1, fun b ob q => ?_, r.nd, by simp [r.len], fun k b ob q1 q2 q3 => ?_, fun b hb => ?_, fun k b ob q1 q2 => ?_⟩
  · have hb : b ≠ a := fun e => by simp [cutH, e] at q
    rw [cutH_ne hb] at q
    rw [upd_ne hb]
    exact r.le b ob q
  · by_cases hk : n = k
    · subst hk
      rw [e1] at q1
      cases q1
      simp [cutH]
    · rw [List.getElem?_set_ne hk] at q2
      rw [cutH_ne (r.addr_ne e1 q1 hk)]
      exact r.fr k b ob q1 q2 q3
  · by_cases z : b = a
    · subst z
      rw [upd_same]
      exact fun e => by cases e
    · rw [upd_ne z]
      exact r.ex b hb
  · by_cases hk : n = k
    · subst hk
      rw [List.getElem?_set_self (by have := (List.getElem?_eq_some_iff.mp e2).1; exact this)] at q2
      cases q2
      rw [e1] at q1
      cases q1
      exact h2 _ upd_same
    · rw [List.getElem?_set_ne hk] at q2
      exact (lk_ro h1 hu (r.addr_ne e1 q1 hk) (r.at_ k b ob q1 q2)).heap (upd_ne (r.addr_ne e1 q1 hk))

def lkM (n : Nat) (m : Mem) : Option Mem := match m[n]? with
  | some o => (lkO o).map fun o' => m.set n o'
  | none => none
def ulM (n : Nat) (m : Mem) : Option Mem := match m[n]? with
  | some o => (ulO o).map fun o' => m.set n o'
  | none => none
def ulS (n : Nat) : Out → Out
  | .nx l m => match ulM n m with
    | some m' => .nx l m'
    | none => .bad
  | .bk l m => match ulM n m with
    | some m' => .bk l m'
    | none => .bad
  | .ct l m => match ulM n m with
    | some m' => .ct l m'
    | none => .bad
  | .rt d m => match ulM n m with
    | some m' => .rt d m'
    | none => .bad
  | _ => .bad
/-- a statement that runs while the dict in a name is walked -/
def sLock (i : Nat) (s : S) : S := fun l m => match l[i]? with
  | some (some (.loc n)) => match lkM n m with
    | some m1 => ulS n (s l m1)
    | none => .bad
  | _ => .bad
theorem ul_step {n : Nat} {a : Addr} {u : HO} {od : Obj} {D1 D' H' : Hp} {a' : List Addr} {m2 m3 : Mem} (e1 : a'[n]? = some a) (hu : IsDk u) (hd : D a = none) (le : Le (upd D a (.frz od u)) D') (rm : RM G D' a' m2 H') (e : ulM n m2 = some m3) :
    H' a = some (.frz od u) ∧ D' a = some (.frz od u) ∧ Le D (cutH D' a) ∧ RM G (cutH D' a) a' m3 (upd H' a u) := by
  have h1 : D' a = some (.frz od u) := le _ _ upd_same
  unfold ulM at e
  split at e
  · rename_i o e2
    obtain ⟨o', e3, rfl⟩ := Option.map_eq_some_iff.mp e
    obtain ⟨u', od', hu', h2, rm2⟩ := rm.unlockd e1 e2 e3
    rw [h1] at h2
    cases h2
    refine ⟨rm.le _ _ h1, h1, fun b ob q => ?_, rm2⟩
    have hb : b ≠ a := fun z => by subst z; rw [hd] at q; cases q
    rw [cutH_ne hb]
    exact le b ob (by rw [upd_ne hb]; exact q)
  · cases e
theorem ms_lock {st : Stmt} {i : Nat} {s : S} (h : PS X st (tS G W s)) : PS X st (tS G W (sLock i s)) :=
  PS_imp (ps_lock h) fun De σ H ⟨D, adr, l, m, rm, rs, a⟩ => by
    unfold sLock at a
    split at a
    · rename_i n e1
      split at a
      · rename_i m1 e2
        unfold lkM at e2
        split at e2
        · rename_i o e3
          obtain ⟨o', e4, rfl⟩ := Option.map_eq_some_iff.mp e2
          obtain ⟨v, hv, r⟩ := rs.2 i _ e1
          obtain ⟨ad, rfl, q1, ro⟩ := rm.of_loc r e3
          obtain ⟨u, hu, h1, _, h2⟩ := rm.lockd q1 e3 e4
          have hd := rm.fr n ad o q1 e3 (lkO_fre e4).1
          refine ⟨ad, u, h1, hu.mut, fun od => ?_⟩
          obtain ⟨le, rm1⟩ := h2 od
          refine ⟨_, adr, l, _, rm1, rs.mono le (Pf.refl _), ?_⟩
          revert a
          cases s l (m.set n o') with
          | bad => exact fun a => a
          | exc c l2 m2 => exact fun a => a.elim
          | nx l2 m2 =>
            intro a σ' H' D' a' le2 pf rm2 rs2
            dsimp only [ulS] at a
            cases e5 : ulM n m2 with
            | none => rw [e5] at a; exact a.elim
            | some m3 =>
              rw [e5] at a
              obtain ⟨x1, x2, x3, x4⟩ := ul_step (D1 := D) (pf.get q1) hu hd le2 rm2 e5
              exact ⟨x1, a σ' _ _ a' x3 pf x4 (lk_rs x2 hu rs2)⟩
          | bk l2 m2 =>
            intro a σ' H' D' a' le2 pf rm2 rs2
            dsimp only [ulS] at a
            cases e5 : ulM n m2 with
            | none => rw [e5] at a; exact a.elim
            | some m3 =>
              rw [e5] at a
              obtain ⟨x1, x2, x3, x4⟩ := ul_step (D1 := D) (pf.get q1) hu hd le2 rm2 e5
              exact ⟨x1, a σ' _ _ a' x3 pf x4 (lk_rs x2 hu rs2)⟩
          | ct l2 m2 =>
            intro a σ' H' D' a' le2 pf rm2 rs2
            dsimp only [ulS] at a
            cases e5 : ulM n m2 with
            | none => rw [e5] at a; exact a.elim
            | some m3 =>
              rw [e5] at a
              obtain ⟨x1, x2, x3, x4⟩ := ul_step (D1 := D) (pf.get q1) hu hd le2 rm2 e5
              exact ⟨x1, a σ' _ _ a' x3 pf x4 (lk_rs x2 hu rs2)⟩
          | rt d2 m2 =>
            intro a v H' D' a' le2 pf rm2 rr2
            dsimp only [ulS] at a
            cases e5 : ulM n m2 with
            | none => rw [e5] at a; exact a.elim
            | some m3 =>
              rw [e5] at a
              obtain ⟨x1, x2, x3, x4⟩ := ul_step (D1 := D) (pf.get q1) hu hd le2 rm2 e5
              exact ⟨x1, a v _ _ a' x3 pf x4 (lk_rep x2 hu _ _ rr2)⟩
        · cases e2
      · exact a.elim
    · exact a.elim
/-- an expression that is worked out while the dict in a name is walked -/
def eLock {α : Type} (i : Nat) (e : Er α) : Er α := fun l m => match l[i]? with
  | some (some (.loc n)) => match lkM n m with
    | some m1 => match e l m1 with
      | .ok d m2 => match ulM n m2 with
        | some m3 => .ok d m3
        | none => .bad
      | _ => .bad
    | none => .bad
  | _ => .bad
theorem me_lock {ex : Expr} {i : Nat} {e : E} (h : PE X ex (tM G W e)) : PE X ex (tM G W (eLock i e)) :=
  PE_imp (pe_lock h) fun σ H Q ⟨D, adr, l, m, rm, rs, a⟩ => by
    unfold eLock at a
    split at a
    · rename_i n e1
      split at a
      · rename_i m1 e2
        unfold lkM at e2
        split at e2
        · rename_i o e3
          obtain ⟨o', e4, rfl⟩ := Option.map_eq_some_iff.mp e2
          obtain ⟨v, hv, r⟩ := rs.2 i _ e1
          obtain ⟨ad, rfl, q1, ro⟩ := rm.of_loc r e3
          obtain ⟨u, hu, h1, _, h2⟩ := rm.lockd q1 e3 e4
          have hd := rm.fr n ad o q1 e3 (lkO_fre e4).1
          refine ⟨ad, u, h1, hu.mut, fun od => ?_⟩
          obtain ⟨le, rm1⟩ := h2 od
          refine ⟨_, adr, l, _, rm1, rs.mono le (Pf.refl _), ?_⟩
          revert a
          cases e l (m.set n o') with
          | bad => exact fun a => a
          | exc c m2 => exact fun a => a.elim
          | ok d m2 =>
            intro a v H' D' a' le2 pf rm2 rr2
            dsimp only at a
            cases e5 : ulM n m2 with
            | none => rw [e5] at a; exact a.elim
            | some m3 =>
              rw [e5] at a
              obtain ⟨x1, x2, x3, x4⟩ := ul_step (D1 := D) (pf.get q1) hu hd le2 rm2 e5
              exact ⟨x1, a v _ _ a' x3 pf x4 (lk_rep x2 hu _ _ rr2)⟩
        · cases e2
      · exact a.elim
    · exact a.elim

theorem tup_in (r : RM G D adr m H) {q : Addr} {xs : List V} (h : H q = some (.tup xs)) : ∃ D'', Le D D'' ∧ RM G D'' adr m H ∧ D'' q = some (.tup xs) := by
  cases hd : D q with
  | some o =>
    have := r.le q o hd
    rw [h] at this
    cases this
    exact ⟨D, Le.refl _, r, hd⟩
  | none =>
    have hl : Le D (upd D q (.tup xs)) := Le.new hd
    refine ⟨upd D q (.tup xs), hl, ⟨fun b u e => ?_, r.nd, r.len, fun k b o q1 q2 q3 => ?_, r.ex, fun k b o q1 q2 => (r.at_ k b o q1 q2).mono hl (Pf.refl _)⟩, upd_same⟩
    · by_cases z : b = q
      · subst z
        rw [upd_same] at e
        exact h.trans e
      · rw [upd_ne z] at e
        exact r.le b u e
    · have hne : b ≠ q := by
        rintro rfl
        have ro := r.at_ k b o q1 q2
        cases o with
        | dead => exact q3
        | lck _ => exact q3
        | lct _ => exact q3
        | lst ds => obtain ⟨vs, e, _⟩ := ro; rw [h] at e; cases e
        | dic ds => obtain ⟨vs, e, _⟩ := ro; rw [h] at e; cases e
        | dit ds => obtain ⟨vs, e, _⟩ := ro; rw [h] at e; cases e
        | ins C ds => obtain ⟨dx, vs, e, _⟩ := ro; rw [h] at e; cases e
      rw [upd_ne hne]
      exact r.fr k b o q1 q2 q3
/-- the keys of a locked dict -/
def iKeyM (e : E) : A := fun l m => (e l m).bind fun d m1 => match d with
  | .loc n => match m1[n]? with
    | some (.lck kds) => .ok (kds.map fun kd => keyV kd.1) m1
    | some (.lct kds) => .ok (kds.map fun kd => .tup (kd.1.map keyV)) m1
    | _ => .bad
  | _ => .bad
theorem mi_keys {tg e : Expr} {me : E} (he : PE X e (tM G W me)) : PI X tg e (tIt G W (iKeyM me)) :=
  PI_imp (pi_keys he) fun σ H R ⟨D, adr, l, m, rm, rs, a⟩ => stepI (rel := relE G) rm rs a fun v H1 D1 a1 d m1 e1 f1 rm1 rs1 r b => by
    cases d with
    | loc n =>
      dsimp only at b
      split at b
      · rename_i ds m2 e2
        split at e2
        · rename_i kds e3
          cases e2
          obtain ⟨p, rfl, q1, kvs, ob, h1, h2⟩ := rm1.of_loc r e3
          refine ⟨p, ob, rfl, .inl ⟨kvs, rm1.le _ _ h1, ?_⟩⟩
          have hl : kvs.length = (kds.map fun kd => keyV kd.1).length := by
            have := congrArg List.length h2.1
            simpa using this
          refine b _ H1 D1 a1 (fun H => H p = some (.frz ob (.dK kvs))) (fun i H x H' => H' = H ∧ ∃ k v, kvs[i]? = some (k, v) ∧ x = kV k) (Le.refl _) (Pf.refl _) rm1 (hl ▸ walk_keys) ⟨fun D' adr' m' H' e f rm' => rm'.le _ _ (e _ _ h1), fun i H x H' D' adr' m' hi y e f rm' => ?_⟩
          obtain ⟨y1, k, v, y2, y3⟩ := y
          refine ⟨y1, keyV k, D', ?_, Le.refl _, rm', by rw [y3]; exact rep_key _ _ _ k⟩
          have hk : (kvs.map (·.1))[i]? = some k := by simp [y2]
          rw [h2.1] at hk
          have : (kds.map fun kd => keyV kd.1) = (kds.map (·.1)).map keyV := by simp
          rw [this, List.getElem?_map, hk] <;> rfl
        · rename_i kds e3
          cases e2
          obtain ⟨p, rfl, q1, kvs, ob, h1, h2⟩ := rm1.of_loc r e3
          refine ⟨p, ob, rfl, .inr ⟨kvs, rm1.le _ _ h1, ?_⟩⟩
          have hl : kvs.length = (kds.map fun kd => Dv.tup (kd.1.map keyV)).length := by
            have := congrArg List.length h2.1
            simpa using this
          refine b _ H1 D1 a1 (fun H => H p = some (.frz ob (.dT kvs))) (fun i H x H' => H' = H ∧ ∃ (k : List Key) (v : V) (q : Addr), kvs[i]? = some (k, v) ∧ x = .ref q ∧ H q = some (.tup (k.map kV))) (Le.refl _) (Pf.refl _) rm1 (hl ▸ walk_keysT) ⟨fun D' adr' m' H' e f rm' => rm'.le _ _ (e _ _ h1), fun i H x H' D' adr' m' hi y e f rm' => ?_⟩
          obtain ⟨y1, k, v, q, y2, y3, y4⟩ := y
          have hk : (kvs.map (·.1))[i]? = some k := by simp [y2]
          rw [h2.1] at hk
          have hx : (kds.map fun kd => Dv.tup (kd.1.map keyV)) = (kds.map (·.1)).map fun k => Dv.tup (k.map keyV) := by simp
          obtain ⟨D'', g1, g2, g3⟩ := tup_in rm' y4
          refine ⟨y1, .tup (k.map keyV), D'', by rw [hx, List.getElem?_map, hk] <;> rfl, g1, g2, by rw [y3]; exact .tup g3 (reps_keys _ _ _ _)⟩
        · cases e2
      · rename_i e2
        split at e2 <;> cases e2
      · exact b.elim
    | _ => exact b.elim
theorem room65 {k : Nat} {A : Around} (hr : Room k A) : A.units + 65 < cLine := by have := hr.un; omega
/-- for x in d: d a name that holds a dict -/
def sForK (i : Nat) (tg : Tg) (body : S) : S := sLock i (sFor (iKeyM (eVar i)) tg body)
end
end Sn
/-! Sn15 -/
set_option Elab.async false
set_option linter.all false
set_option maxRecDepth 100000
set_option autoImplicit false
set_option maxHeartbeats 1000000
/-! Sn15: texts made in a suite, list(range(n)), a dict of one entry with a key worked out, sorted by key where nothing is -/
namespace Sn
open PySem PySem.Spec PyProof.Rows L2
section
variable {G : Cg} {X : Cx} {W : WX} {σ : L2.St} {H : Hp} {F F' : L2.St → Prop}

/-! ### a suite's texts -/
theorem mul01 (z : Str) (c : Bool) : Txt.mul z (if c then 1 else 0) = if c then z else "" := by
  cases c with
  | true =>
    cases z
    simp [Txt.mul]
  | false => rfl
theorem k_mulT {a b : Expr} {z w : Str} {c : Bool} {pos : Pos} (hl : z.length ≤ 1000) (hw : (if c then z else "") = w) (ha : PEk X F a (.str z)) (hb : PEk X F b (.int (if c then 1 else 0))) : PEk X F (.BinOp a .Mult b pos) (.str w) :=
  k_op (r := rRepS) (fun H Q q => ⟨z, _, rfl, rfl, by cases c <;> decide, by cases c <;> decide, hl, by rw [mul01, hw]; exact q⟩) op_repS ha hb
theorem k_addT {a b : Expr} {z w u : Str} {pos : Pos} (hl : z.length + w.length ≤ 16777216) (hu : z ++ w = u) (ha : PEk X F a (.str z)) (hb : PEk X F b (.str w)) : PEk X F (.BinOp a .Add b pos) (.str u) :=
  k_op (r := rAddS) (fun H Q q => ⟨z, w, rfl, rfl, by rw [← big_eq]; exact hl, by rw [hu]; exact q⟩) op_add_str ha hb
/-- e's slot and a text's slot -/
def F2 (i : Nat) (a : Addr) (j : Nat) (w : Str) : L2.St → Prop := fun σ => σ[i]? = some (some (.ref a)) ∧ σ[j]? = some (some (.str w))
theorem ks_setW {i j : Nat} {a : Addr} {x : Str} {e : Expr} {w u : Str} {v : V} {pos pos' : Pos} {rest : List Stmt} (hij : j < i) (hF : ∀ σ, F σ → σ[i]? = some (some (.ref a))) (h : ∀ t : TE, PE X e t → PS X (.Assign [.Name x pos'] e pos) (tAsg t (gName j))) (he : PEk X F e (.str w)) (hr : PSk X (F2 i a j w) rest v) : PSk X F (.Assign [.Name x pos'] e pos :: rest) v :=
  ks_set (h _ he) (PSs_imp hr fun D σ H q => ⟨by
    obtain ⟨σ0, h1, rfl⟩ := q.1
    have h2 := hF σ0 h1
    have hl : i < σ0.length := (List.getElem?_eq_some_iff.mp h2).1
    exact ⟨by rw [List.getElem?_set_ne (by omega)]; exact h2, List.getElem?_set_self (by omega)⟩, q.2⟩)

/-! ### list(range(n)) -/
def eRgL (e : E) : E := fun l m => (e l m).bind fun d m1 => match d with
  | .int j => if 0 ≤ j ∧ j ≤ 16777216 then mkLst (rng 0 j.toNat) m1 else .bad
  | _ => .bad
theorem reps_rg (K : Cg) (D : Hp) (adr : List Addr) (j : Int) : Reps K D adr (rgV 0 j) (rng 0 j.toNat) := by
  unfold rgV rng
  rw [Int.sub_zero]
  generalize j.toNat = n
  exact reps_of_all _ _ _ fun i _ => .int _
theorem me_rgL {a : Expr} {me : E} {p p2 pos pos2 : Pos} (hc : X.calm = true) (hg : Gl X "list") (hm : X.mg "list" = none) (hg2 : Gl X "range") (hm2 : X.mg "range" = none) (he : PE X a (tM G W me)) (na : starEach [a] X.env = (false, eval a X.env) :: starEach [] X.env := by rfl)
    (nb : starEach [.Call (.Name "range" p2) [a] [] pos2] X.env = (false, eval (.Call (.Name "range" p2) [a] [] pos2) X.env) :: starEach [] X.env := by rfl) : PE X (.Call (.Name "list" p) [.Call (.Name "range" p2) [a] [] pos2] [] pos) (tM G W (eRgL me)) :=
  PE_imp (pe_listRg hc hg hm (prg_1 hg2 hm2 he na) nb) fun σ H Q ⟨D, adr, l, m, rm, rs, a⟩ => by
    show tM G W me σ H (fun x H1 => ∃ n, x = .int n ∧ RgOk 0 n ∧ ∀ q, H1 q = none → Q (.ref q) (upd H1 q (.lst (rgV 0 n))))
    refine step (rel := relE G) rm rs a fun v H1 D1 a1 d m1 e1 f1 rm1 rs1 r b => ?_
    cases d with
    | int j =>
      dsimp only at b
      split at b
      · rename_i h
        exact ⟨j, r.int_inv, RgOk.of_le (by decide) h.2 (by decide) h.1, (mkLst_ok rm1 (reps_rg _ _ _ j) b).2⟩
      · exact b.elim
    | _ => exact b.elim

/-! ### {k: v} -/
def eDispV (k e : E) : E := fun l m => (k l (m ++ [.dic []])).bind fun kd m1 => (e l m1).bind fun d m2 => match keyD kd, m2[m.length]? with
  | some key, some (.dic []) => .ok (.loc m.length) (m2.set m.length (.dic [(key, d)]))
  | _, _ => .bad
theorem me_dispV {k v : Expr} {pos : Pos} {mk me : E} (hk : PE X k (tM G W mk)) (hv : PE X v (tM G W me)) (h : ∀ {trs : List (TE × TE)}, PPs X pos [some k] [v] trs → PE X (.Dict [some k] [v] pos) (tDisp trs)) : PE X (.Dict [some k] [v] pos) (tM G W (eDispV mk me)) := by
  refine PE_imp (h (pps_cons hk hv pps_nil)) fun σ H Q ⟨D, adr, l, m, rm, rs, a⟩ => ?_
  show ∀ p, H p = none → _
  intro p hp
  have rm1 : RM G D (adr ++ [p]) (m ++ [.dic []]) (upd H p (.dK [])) := rm.newM hp ⟨[], upd_same, rfl, .nil⟩
  have hlen := rm.len
  show tM G W mk σ (upd H p (.dK [])) _
  refine step (rel := relE G) rm1 (rs.mono (Le.refl _) Pf.snoc) (a.mono (Le.refl _) Pf.snoc) fun v1 H1 D1 a1 kd m1 e1 f1 rm2 rs2 r1 b => ?_
  refine step (rel := relE G) rm2 rs2 b fun v2 H2 D2 a2 d m2 e2 f2 rm3 rs3 r2 b2 => ?_
  split at b2
  · rename_i key hkey h2
    have hp1 : a2[m.length]? = some p := f2.get (f1.get (by rw [← hlen]; simp))
    obtain ⟨kvs, q1, q2⟩ := rm3.at_ _ _ _ hp1 h2
    have hk0 : kvs = [] := List.eq_nil_of_length_eq_zero (by have := q2.length; simpa using this)
    subst hk0
    have hkv : v1 = kV key := keyD_v r1 hkey
    refine ⟨q1, [(key, v2)], by rw [hkv] <;> rfl, by show 1 ≤ 15; decide, ?_⟩
    have e3 : mergeK [] [(key, v2)] = [(key, v2)] := rfl
    rw [e3]
    exact b2.ok (rm3.setM (o := .dic [(key, d)]) hp1 h2 trivial ⟨[(key, v2)], upd_same, rfl, .one r2⟩) (.loc hp1)
  · exact b2.elim

/-! ### sorted(xs, key=f), xs empty -/
def rSortK0 (K : PySem.W.Frag) : List V → List V → Hp → VK → Prop := fun vs zs H Q => ∃ a f, vs = [.ref a] ∧ zs = [.ref f] ∧ SqL K H a [] ∧ ∀ p, H p = none → Q (.ref p) (upd H p (.lst []))
theorem crk_sort0 : CallRK X (.builtin "sorted") ["key"] (rSortK0 X.K) := by
  intro pins s σ H xs zs us ws Q I r1 r2 q
  obtain ⟨a, f, rfl, rfl, hs, q⟩ := q
  cases r1 with
  | cons h1 t1 =>
    cases t1
    cases r2 with
    | cons h2 t2 =>
      cases t2
      cases (show _ = Value.ref a from h1)
      cases (show _ = Value.ref f from h2)
      obtain ⟨its, rv, hl, hz⟩ := I.list hs
      cases rv
      show wpAny _ _ (call (.builtin "sorted") [.ref a] [(Str.ofString "key", .ref f)]) _ _ _
      refine PySem.W.sorted_key_data (β := Unit) (R := fun _ _ => True) (bs := []) (vs := []) (f := .ref f) (b := false) (k := fun _ => .none) hl.isList .nil (fun d hd => by cases hd) (.inr fun d hd => by cases hd) (Nat.zero_le _) (fun x hx => by cases hx) (ksk_s1 _ _) (fun x => ksk_l1 _ _) (fun x => ksk_t1 _ _) (fun v x _ hx => by cases hx) fun out c h' tk keep fr ho hlen _ => ?_
      have h0 : out = [] := List.eq_nil_of_length_eq_zero hlen
      subst h0
      exact ⟨.ref _, upd H (s.heap.objs.size + 1) (.lst []), I.laid (t' := tk) keep (Nat.le_succ _) ⟨Nat.zero_le _, [], c, .nil, ho⟩, rfl, q _ (I.hok.fresh (Nat.le_succ _))⟩
def sortK0 (e : E) (f : E) : E := fun l m => (e l m).bind fun d m1 => (f l m1).bind fun g m2 => match sq m2 d, g with
  | some [], .fn _ => mkLst [] m2
  | _, _ => .bad
theorem me_sortK0 {e kf : Expr} {me mf : E} {p pos kpos : Pos} (hk : X.K = G.K) (hg : Gl X "sorted") (hm : X.mg "sorted" = none) (he : PE X e (tM G W me)) (hf : PE X kf (tM G W mf))
    (h : ∀ {t tk : TA}, PA X [e] t → PK X [⟨some "key", kf, kpos⟩] tk → PE X (.Call (.Name "sorted" p) [e] [⟨some "key", kf, kpos⟩] pos) (tCKw (rSortK0 X.K) t tk)) (h1 : starEach [e] X.env = (false, eval e X.env) :: starEach [] X.env := by rfl) : PE X (.Call (.Name "sorted" p) [e] [⟨some "key", kf, kpos⟩] pos) (tM G W (sortK0 me mf)) := by
  refine PE_imp (h (pa_cons he pa_nil h1) (pk_cons hf pk_nil)) fun σ H Q ⟨D, adr, l, m, rm, rs, a⟩ => ?_
  show tM G W me σ H (fun x H1 => tM G W mf σ H1 fun y H2 => rSortK0 X.K [x] [y] H2 Q)
  refine step (rel := relE G) rm rs a fun v1 H1 D1 a1 d m1 e1 f1 rm1 rs1 r1 b => ?_
  refine step (rel := relE G) rm1 rs1 b fun v2 H2 D2 a2 g m2 e2 f2 rm2 rs2 r2 b2 => ?_
  split at b2
  · rename_i n hq
    obtain ⟨p, vs, e3, h5, h6⟩ := rm2.sq (r1.mono e2 f2) hq
    cases h6
    cases r2
    exact ⟨p, _, by rw [e3], rfl, by rw [hk]; exact h5, (mkLst_ok rm2 (W := W) (σ := σ) .nil b2).2⟩
  · exact b2.elim
end
end Sn
/-! Sn16 -/
set_option Elab.async false
set_option linter.all false
set_option maxRecDepth 100000
set_option autoImplicit false
set_option maxHeartbeats 3200000
/-! Sn16: sorted(set(xs)), xs a list of texts -/
namespace SnT
open PySem PySem.Spec PyProof.Rows L2 PySem.Froz
section
variable {P : Program} {w : World} {A : Around} {E : Value → Shared → Prop} {s : Shared} {h h' : Heap} {a : Addr} {l : List Str}

/-- the set of texts at a, its table in order -/
def TxR (P : Program) (w : World) (h : Heap) (a : Addr) (l : List Str) : Prop :=
  ∃ D : SD, h.get? a = some (sObj "set" D) ∧ TxOk P w D l ∧ l.Nodup ∧ Ris D.2.2.place.toList ∧ (w.params.followText "set-order" = true ∨ D.2.2.led = true)
theorem TxR.at (R : TxR P w h a l) (k : ∀ o, h.get? a = some o → h'.get? a = some o) : TxR P w h' a l := by
  obtain ⟨D, e, r⟩ := R
  exact ⟨D, k _ e, r⟩
theorem addTx_ris (v : Int) (x : Value) (D : SD) (r : Ris D.2.2.place.toList) : Ris (addTx v x D).2.2.place.toList ∧ (addTx v x D).2.2.led = D.2.2.led := by
  obtain ⟨es, ep, t⟩ := D
  have h1 := layNew_ris t es v x r
  have h2 := layNew_led t es v x
  unfold addTx tailTx
  dsimp only
  have h3 : Ris (if (layNew t es v x).2.1.plain = true then { (layNew t es v x).2.1 with plain := false } else (layNew t es v x).2.1).place.toList := by split <;> exact h1
  have h4 : (if (layNew t es v x).2.1.plain = true then { (layNew t es v x).2.1 with plain := false } else (layNew t es v x).2.1).led = t.led := by split <;> exact h2
  generalize (if (layNew t es v x).2.1.plain = true then { (layNew t es v x).2.1 with plain := false } else (layNew t es v x).2.1) = t2 at *
  split
  · exact ⟨relayAll_ris t2 _ _, (relayAll_led t2 _ _).trans h4⟩
  · exact ⟨h3, h4⟩
theorem tx_add {k : Str} {u : Tok} {Q : Bool → Shared → Prop} (R : TxR P w s.heap a l) (hb : l.length + 1 < scanBound)
    (hQ : ∀ h' b, Heap.SameBut a s.heap h' → TxR P w h' a (if k ∈ l then l else k :: l) → Q b { s with heap := h' }) : wpAny (model P w) A (setAddHashed a (.str k u) (hashStr w k)) Q E s := by
  obtain ⟨D, ho, F, nd, r, hl⟩ := R
  by_cases hk : k ∈ l
  · obtain ⟨es, ep, t⟩ := D
    have hkey : (strKind P w).is k (.str k u) = true := is_str k u
    have hsz : es.size = l.length := F.sz
    have hb0 : es.size < scanBound := by omega
    have hel : ElemsOf (strKind P w) es.toList := F.el
    obtain ⟨e, he, hek⟩ := (F.mem k).mp hk
    unfold setAddHashed setAddHashedIn
    refine wpAny_holding (wpAny_bind (wpAny_setState_of ho rfl F.fit ?_))
    dsimp only
    rw [byScan_of (knd := strKind P w) rfl hb0 hel]
    simp only [↓reduceIte]
    unfold setAddByScan
    refine wpAny_bind ?_
    refine wpAny_bind (wpAny_rule ?_)
    refine wpAny_bind (wpAny_setScan_of (knd := strKind P w) (k := k) hkey ho rfl F.fit F.el ?_)
    cases hfi : List.findIdx? (fun e => (strKind P w).is k e.2) es.toList with
    | none =>
      have c := List.findIdx?_eq_none_iff.mp hfi e he
      rw [hek] at c
      cases c
    | some j =>
      dsimp only
      refine wpAny_pure (wpAny_pure (hQ s.heap false (Heap.SameBut.refl a s.heap) ?_))
      rw [if_pos hk]
      exact ⟨_, ho, F, nd, r, hl⟩
  · refine add_x ho F hk hb (hQ _ true (Heap.SameBut.update s.heap a _) ?_)
    rw [if_neg hk]
    obtain ⟨r2, l2⟩ := addTx_ris (hashStr w k) (.str k u) D r
    exact ⟨_, get_upd _ ho rfl, add_ok u F, List.nodup_cons.mpr ⟨hk, nd⟩, r2, hl.imp id fun z => l2.trans z⟩
end
section
variable {prog : Program} {w : World} {A : Around} {R : Result → Shared → Prop} {I : Addr} {fp wr : List Addr} {G : Array GenState → Array GenState → Prop} {n : Nat} {P : Nat → Value → Prop} {St : Nat → Shared → Prop}
theorem tx_run (W : WalksS prog w A.in1 I fp wr G n P St) (S : Addr) (hSf : S ∉ fp) (xs : List Str) (hsz : xs.length = n) (hn : n + 1 < scanBound) (hval : ∀ i v, P i v → ∃ t, v = .str (xs.getD i Str.empty) t) :
    ∀ (k i : Nat) (s : Shared) (l : List Str), n - i = k → i ≤ n → St i s → TxR prog w s.heap S l → l.length ≤ i → (∀ z, z ∈ l ↔ z ∈ xs.take i) →
      (∀ s' l', Moved (S :: wr) G s s' → TxR prog w s'.heap S l' → (∀ z, z ∈ l' ↔ z ∈ xs) → l'.length ≤ n → R (.ok (.ret .none)) s') →
      codeAny (model prog w) A (.builtin "set.update.loop" ⟨[.ref S, .ref I], []⟩) R s := by
  have hSw : S ∉ wr := fun h => hSf (W.sub _ h)
  have hsub : ∀ b ∈ wr, b ∈ S :: wr := fun b hb => List.mem_cons_of_mem _ hb
  intro k
  induction k with
  | zero =>
    intro i s l hk hi hst hS hl hm hR
    have hin : i = n := by omega
    subst hin
    refine codeAny_builtin PyProof.Rows.F.entry_set_update_loop ?_
    rw [Around.under_plainId PyProof.Rows.F.plain_set_update_loop _]
    show wpAny _ A.in1 (pyNext (.ref I) >>= _) _ _ s
    refine wpAny_bind (W.done s _ _ hst fun s' hmv => ?_)
    show wpAny _ A.in1 (ret Value.none) _ _ s'
    refine wpAny_pure (hR s' l (hmv.mono hsub) (hS.at fun o e => hmv.heap S _ hSw e) (fun z => ?_) hl)
    rw [hm z, List.take_of_length_le (by omega)]
  | succ k ih =>
    intro i s l hk hi hst hS hl hm hR
    have hlt : i < n := by omega
    refine codeAny_builtin PyProof.Rows.F.entry_set_update_loop ?_
    rw [Around.under_plainId PyProof.Rows.F.plain_set_update_loop _]
    show wpAny _ A.in1 (pyNext (.ref I) >>= _) _ _ s
    refine wpAny_bind (W.item i s _ _ hlt hst fun v s' hP hst' hmv => ?_)
    obtain ⟨t, rfl⟩ := hval i v hP
    have hS' := hS.at (h' := s'.heap) fun o e => hmv.heap S _ hSw e
    show wpAny _ A.in1 (holding [Value.str (xs.getD i Str.empty) t] (setAdd S (.str (xs.getD i Str.empty) t)) >>= _) _ _ s'
    refine wpAny_bind (wpAny_holding ?_)
    unfold setAdd
    refine wpAny_holding ?_
    refine wpAny_bind ((PySem.strKind prog w).pyHash (k := xs.getD i Str.empty) (strKind_is _ _ _ _) ?_)
    refine tx_add (s := { s' with toks := s'.toks + 1 }) hS' (by omega) fun h' b hsb hS2 => ?_
    have hx : xs.getD i Str.empty = xs[i] := by simp [show i < xs.length by omega]
    have hm2 : ∀ z, z ∈ (if xs.getD i Str.empty ∈ l then l else xs.getD i Str.empty :: l) ↔ z ∈ xs.take (i + 1) := fun z => by
      rw [hx, ← List.take_append_getElem (show i < xs.length by omega), List.mem_append, List.mem_singleton, ← hm z]
      split
      · rename_i hin
        exact ⟨.inl, fun h => h.elim id fun e => e ▸ hin⟩
      · rw [List.mem_cons]
        exact ⟨fun h => h.symm, fun h => h.symm⟩
    have hl2 : (if xs.getD i Str.empty ∈ l then l else xs.getD i Str.empty :: l).length ≤ i + 1 := by
      split
      · omega
      · rw [List.length_cons]; omega
    refine wpAny_pure ⟨plainId_quiet PyProof.Rows.F.plain_set_update_loop _, ih (i + 1) _ _ (by omega) hlt (W.frame _ s' _ _ hst' (Nat.le_succ _) fun b hb o e => ?_) hS2 hl2 hm2 fun s'' l' hm'' hS'' hz hl' => ?_⟩
    · rw [hsb.2 b (fun h : b = S => hSf (by rw [← h]; exact hb))]; exact e
    · refine hR s'' l' (Moved.trans W.gtrans ((hmv.mono hsub).then_heap (Nat.le_succ _) fun b o hb e => ?_) hm'') hS'' hz hl'
      rw [hsb.2 b (fun h : b = S => hb (by rw [h]; exact List.mem_cons_self))]; exact e
end
section
variable {prog : Program} {w : World} {A : Around} {E : Value → Shared → Prop} {s : Shared}
theorem new_set_led (a : Value) {Q₁ : Value → Shared → Prop} (h : Q₁ (.ref s.heap.objs.size) { s with heap := s.heap.push { cls := .type "set", dict := none, data := .set #[] 0 (.fresh 0 0 (!w.params.followText "set-order")) } }) :
    codeAny (model prog w) A (.call (.builtin "set.__new__") ⟨[.type "set", a], []⟩) (wants Q₁ E) s := by
  refine codeAny_of_tree ?_
  show wpAny _ A.in1 (do checkBuiltinCall "set.__new__" ⟨[.type "set", a], []⟩; again (.builtin "set.__new__" ⟨[.type "set", a], []⟩)) _ _ s
  refine wpAny_bind (wpAny_of_eq (F.newCall_set_1 a) (wpAny_pure ⟨plainId_quiet F.plain_set_new _, codeAny_builtin F.entry_set_new ?_⟩))
  rw [Around.under_plainId F.plain_set_new _]
  unfold Builtin.«set.__new__» Builtin.Frozenset.newClass
  have hsub := sub_set_self
  obtain ⟨hp, g, d, tk, os⟩ := s
  dsimp only
  wp_walk
  refine wpAny_askSetting (wpAny_pure ?_)
  dsimp only
  simp only [newObj]
  refine wpAny_bind (wpAny_alloc (wpAny_pure ?_))
  exact wpAny_pure h
/-- set(xs) -/
theorem tx_set {l : Addr} {items : Array Value} {xs : List Str} {Q : Value → Shared → Prop} (hh : A.handled = none) (hl : s.heap.IsList l items) (hi : PyProof.Rows.StrsAre items.toList xs) (hn : xs.length + 1 < scanBound)
    (h : ∀ (h' : Heap) (tk : Nat) (l' : List Str), TxR prog w h' s.heap.objs.size l' → (∀ z, z ∈ l' ↔ z ∈ xs) → l'.length ≤ xs.length →
      (∀ b o, b < s.heap.objs.size → s.heap.get? b = some o → h'.get? b = some o) → Q (.ref s.heap.objs.size) { s with heap := h', toks := tk }) :
    wpAny (model prog w) A (call (.type "set") [.ref l]) Q E s := by
  have hled : w.params.followText "set-order" = true ∨ (!w.params.followText "set-order") = true := by
    cases w.params.followText "set-order"
    · exact .inr rfl
    · exact .inl rfl
  obtain ⟨c, tl, hmro⟩ := PySem.F.called_set.mro
  have hmade := PySem.F.called_set.made
  have hsub := PySem.F.called_set.sub
  refine wpAny_call (codeAny_of_tree ?_)
  show wpAny _ _ (callAny (.type "set") _) _ _ _
  refine wpAny_pure ⟨Code.quiet_builtin _ (by decide +kernel), codeAny_builtin PySem.F.entry_type_call ?_⟩
  rw [Around.under_plain (weight_type_call_type "set" [.ref l] []) rfl]
  have h1 := PySem.F.called_set.notType
  have h2 := PySem.F.called_set.canCreate
  have hct := PySem.F.typeCall_set_1 (.ref l)
  repeat (any_goals (first | assumption | wp_step))
  refine codeAny_mono (new_set_led (.ref l) (E := E) (Q₁ := fun obj s₁ => ∃ led : Bool, (w.params.followText "set-order" = true ∨ led = true) ∧ obj = .ref s.heap.objs.size ∧ s₁ = { s with heap := s.heap.push { cls := .type "set", dict := none, data := .set #[] 0 (.fresh 0 0 led) } }) ⟨_, hled, rfl, rfl⟩) fun r s₁ hr => ?_
  cases r with
  | error e => exact hr
  | ok fl =>
    cases fl with
    | ret obj =>
      obtain ⟨led, hl2, rfl, rfl⟩ := hr
      have hS : (s.heap.push { cls := .type "set", dict := none, data := .set #[] 0 (.fresh 0 0 led) }).get? s.heap.objs.size = some { cls := .type "set", dict := none, data := .set #[] 0 (.fresh 0 0 led) } := Heap.get?_push_size _ rfl
      have hT : Shared.TypeIs { s with heap := s.heap.push { cls := .type "set", dict := none, data := .set #[] 0 (.fresh 0 0 led) } } (.ref s.heap.objs.size) "set" := ⟨_, hS, rfl⟩
      have hli := PySem.F.called_set.init.lookup
      have hbi := PySem.F.called_set.init.bind (.ref s.heap.objs.size)
      have hR0 : TxR prog w (s.heap.push { cls := .type "set", dict := none, data := .set #[] 0 (.fresh 0 0 led) }) s.heap.objs.size [] := ⟨(#[], 0, .fresh 0 0 led), hS, TxOk.nil (by rfl), List.nodup_nil, List.Pairwise.nil, hl2⟩
      repeat (any_goals (first | assumption | wp_step))
      refine codeAny_mono (codeAny_call_builtin (R := wants (fun r s₂ => r = .none ∧ ∃ h' tk l', s₂ = { s with heap := h', toks := tk } ∧ TxR prog w h' s.heap.objs.size l' ∧ (∀ z, z ∈ l' ↔ z ∈ xs) ∧ l'.length ≤ xs.length ∧
          (∀ b o, b < s.heap.objs.size → s.heap.get? b = some o → h'.get? b = some o)) E) PySem.F.called_set.init.plain PySem.F.entry_set_init (check_set_init_1 hT ?_)) fun r₂ s₂ hr₂ => ?_
      · obtain ⟨ol, hol, hcl, nl, hdl⟩ := hl
        obtain ⟨ocls, odict, odata, oslots⟩ := ol
        simp only at hcl hdl
        subst hcl; subst hdl
        have hol' : (s.heap.push { cls := .type "set", dict := none, data := .set #[] 0 (.fresh 0 0 led) }).get? l = some { cls := .type "list", dict := odict, data := .seq items nl, slots := oslots } := Heap.get?_push_of_some _ hol
        have hsls := PySem.F.sub_list_set
        have hslf := PySem.F.sub_list_frozenset
        have hne : (Value.type "list" == Value.type "dict") = false := by decide
        have hl1 : (s.heap.push { cls := .type "set", dict := none, data := .set #[] 0 (.fresh 0 0 led) }).IsList l items := ⟨_, hol', rfl, nl, rfl⟩
        unfold Builtin.«set.__init__» noKeywords Builtin.Frozenset.updateFrom
        generalize hPI : pyIter = PI
        wp_walk
        subst hPI
        refine wpAny_pyIter_list (s := { s with heap := s.heap.push { cls := .type "set", dict := none, data := .set #[] 0 (.fresh 0 0 led) } }) hl1 ?_
        refine wpAny_bind (wpAny_runValue ?_)
        have hlS : l < s.heap.objs.size := Heap.lt_size hol
        have hh3 : A.in1.in1.in1.handled = none := by simp [hh]
        have hneI : l ≠ (s.heap.push { cls := .type "set", dict := none, data := .set #[] 0 (.fresh 0 0 led) }).objs.size := by
          rw [Heap.size_push]; exact Nat.ne_of_lt (Nat.lt_succ_of_lt hlS)
        have hSf : s.heap.objs.size ∉ [(s.heap.push { cls := .type "set", dict := none, data := .set #[] 0 (.fresh 0 0 led) }).objs.size, l] := by
          rw [Heap.size_push]; simp only [List.mem_cons, List.mem_singleton, List.not_mem_nil, or_false, not_or]
          exact ⟨Nat.ne_of_lt (Nat.lt_succ_self _), Nat.ne_of_gt hlS⟩
        have hsz : xs.length = items.size := by rw [← StrsAre.len_eq hi, Array.length_toList]
        have hval : ∀ (i : Nat) (v : Value), items[i]? = some v → ∃ t, v = .str (xs.getD i Str.empty) t := fun i v hv => SS.strs_at hi i v (by rw [Array.getElem?_toList]; exact hv)
        refine tx_run ((Walks.list hh3 _ l hneI items).toS) s.heap.objs.size hSf xs hsz (by omega) hval (items.size - 0) 0 _ [] (by omega) (Nat.zero_le _) ⟨⟨_, Heap.get?_push_size _ rfl, rfl, rfl⟩, (hl1.push _)⟩ (hR0.at fun o e => Heap.get?_push_of_some _ e) (Nat.le_refl _) (fun z => by simp) ?_
        intro s' l' hm hS' hz hlen
        obtain ⟨h', g', d', tk', os'⟩ := s'
        have eg : g' = s.gens := hm.gens
        have ed : d' = s.drawn := hm.drawn
        have eo : os' = s.os := hm.os
        subst eg; subst ed; subst eo
        show wpAny _ _ _ _ _ _
        refine wpAny_pure ?_
        show wpAny _ _ (ret Value.none) _ _ _
        refine wpAny_pure ⟨rfl, h', tk', l', rfl, hS', hz, by omega, fun b o hb e => ?_⟩
        have hb1 : b ≠ s.heap.objs.size := Nat.ne_of_lt hb
        have hb2 : b ≠ (s.heap.push { cls := .type "set", dict := none, data := .set #[] 0 (.fresh 0 0 led) }).objs.size := by
          rw [Heap.size_push]; exact Nat.ne_of_lt (Nat.lt_succ_of_lt hb)
        exact hm.heap b o (by simp only [List.mem_cons, List.mem_singleton, List.not_mem_nil, or_false, not_or]; exact ⟨hb1, hb2⟩) (Heap.get?_push_of_some _ (Heap.get?_push_of_some _ e))
      · cases r₂ with
        | error e => exact hr₂
        | ok fl₂ =>
          cases fl₂ with
          | ret r =>
            obtain ⟨rfl, h', tk, l', rfl, hS', hz, hlen, hk'⟩ := hr₂
            repeat (any_goals (first | assumption | wp_step))
            exact h _ _ _ hS' hz hlen hk'
          | _ => exact hr₂.elim
    | _ => exact hr.elim
end
end SnT
/-! Sn17 -/
set_option Elab.async false
set_option linter.all false
set_option maxRecDepth 100000
set_option autoImplicit false
set_option maxHeartbeats 1000000
/-! Sn17: sorted(set(xs)) of texts, in the mirror -/
namespace Sn
open PySem PySem.Spec PyProof.Rows L2 SnT PySem.Froz
/-! ### the members, each once -/
theorem perm_of_sub {α : Type} [DecidableEq α] : ∀ (l zs : List α), l.Nodup → (∀ z ∈ l, z ∈ zs) → zs.length = l.length → zs.Perm l
  | [], zs, _, _, h => by rw [List.eq_nil_of_length_eq_zero h]
  | x :: r, zs, nd, sub, h => by
    obtain ⟨n1, n2⟩ := List.nodup_cons.mp nd
    have hx := sub x (.head _)
    have p1 := List.perm_cons_erase hx
    have hl : (zs.erase x).length = r.length := by
      rw [List.length_erase_of_mem hx, h, List.length_cons]; omega
    have ih := perm_of_sub r (zs.erase x) n2 (fun z hz => (List.mem_erase_of_ne (by intro e; subst e; exact n1 hz)).mpr (sub z (.tail _ hz))) hl
    exact p1.trans (ih.cons x)
def dd : List Str → List Str
  | [] => []
  | x :: r => if x ∈ r then dd r else x :: dd r
theorem mem_dd (z : Str) : ∀ l : List Str, z ∈ dd l ↔ z ∈ l
  | [] => Iff.rfl
  | x :: r => by
    unfold dd
    split
    · rename_i h
      rw [mem_dd z r, List.mem_cons]
      exact ⟨.inr, fun h' => h'.elim (fun e => e ▸ h) id⟩
    · rw [List.mem_cons, List.mem_cons, mem_dd z r]
theorem dd_nodup : ∀ l : List Str, (dd l).Nodup
  | [] => List.nodup_nil
  | x :: r => by
    unfold dd
    split
    · exact dd_nodup r
    · rename_i h
      exact List.nodup_cons.mpr ⟨fun z => h ((mem_dd x r).mp z), dd_nodup r⟩
theorem dd_length : ∀ l : List Str, (dd l).length ≤ l.length
  | [] => Nat.le_refl _
  | x :: r => by
    have := dd_length r
    unfold dd
    split <;> simp <;> omega
/-- the texts, each once, in order -/
def sortU (l : List Str) : List Str := (dd l).mergeSort sle
theorem mem_sortU (z : Str) (l : List Str) : z ∈ sortU l ↔ z ∈ l := by unfold sortU; rw [List.mem_mergeSort, mem_dd]
theorem sortU_srt (l : List Str) : (sortU l).Pairwise slt := sort_pairwise (dd_nodup l)
theorem srt_unique : ∀ {xs ys : List Str}, xs.Pairwise slt → ys.Pairwise slt → (∀ z, z ∈ xs ↔ z ∈ ys) → xs = ys := fun {xs ys} h1 h2 h => by
  have e := srt_ext (α := Unit) (xs := xs.map fun z => (z, ())) (ys := ys.map fun z => (z, ())) (List.pairwise_map.mpr h1) (List.pairwise_map.mpr h2) fun z => by
    have k : ∀ l : List Str, valG (l.map fun z => (z, ())) z = if z ∈ l then some () else none := fun l => by
      induction l with
      | nil => rfl
      | cons a r ih =>
        rw [List.map_cons, valG_cons, ih]
        by_cases e : a = z
        · simp [e]
        · have e' : ¬ z = a := fun q => e q.symm
          simp [e, e']
    rw [k, k]
    by_cases q : z ∈ xs
    · rw [if_pos q, if_pos ((h z).mp q)]
    · rw [if_neg q, if_neg fun q2 => q ((h z).mpr q2)]
  have e2 := congrArg (List.map (·.1)) e
  have k2 : ∀ l : List Str, (l.map fun z => (z, ())).map (·.1) = l := fun l => by rw [List.map_map]; exact List.map_id l
  rw [k2, k2] at e2
  exact e2

section
variable {P : Program} {w : World} {A : Around} {E : Value → Shared → Prop} {s : Shared} {a : Addr} {l : List Str}
def strOfV : Value → Str
  | .str z _ => z
  | _ => Str.empty
theorem tx_sorted {Q : Value → Shared → Prop} (R : TxR P w s.heap a l) (hh : A.handled = none) (hb : l.length < scanBound) (hu : A.units + 64 < cLine)
    (hQ : ∀ s' p (out : Array Value) (c : Nat) (ys : List Str), (∀ b o, s.heap.get? b = some o → s'.heap.get? b = some o) → s'.gens = s.gens → s'.os = s.os → s.heap.objs.size ≤ p →
      s'.heap.get? p = some (seqObj "list" out c) → Vals (ys.map V.str) out.toList → ys.Pairwise slt → (∀ z, z ∈ ys ↔ z ∈ l) → ys.length = l.length → Q (.ref p) s') :
    wpAny (model P w) A (call (.builtin "sorted") [.ref a]) Q E s := by
  obtain ⟨D, ho, F, nd, r, hl⟩ := R
  obtain ⟨es, ep, t⟩ := D
  have hsz : es.size = l.length := F.sz
  have hb0 : es.size < scanBound := by omega
  have hel : ElemsOf (strKind P w) es.toList := F.el
  refine Calls.call_function_entry kind_sorted plain_sorted entry_sorted (args_sorted1 _) ?_
  unfold Builtin.«sorted»
  refine wpAny_bind (m := checkCount "sorted" 1 1 _) (wpAny_pure ?_)
  refine wpAny_bind (collect_set (A := A.in1) (es := es) (ep := ep) (t := t) hh ⟨_, ho, rfl, rfl⟩ F.fit hb0 r hl fun s1 vs k1 hz g1 o1 pm => ?_)
  have hvl : vs.length = l.length := by rw [pm.length_eq, List.length_map, Array.length_toList]; exact hsz
  have hstr : ∀ v ∈ vs, ∃ tk, v = .str (strOfV v) tk := fun v hv => by
    obtain ⟨e, he, q⟩ := List.mem_map.mp (pm.mem_iff.mp hv)
    obtain ⟨⟨k, hk, _⟩, _⟩ := hel e he
    rw [← q]
    generalize e.2 = x at hk
    have hk : Value.isStrOf k x = true := hk
    cases x with
    | str z tk => exact ⟨tk, rfl⟩
    | _ => cases hk
  have hmem : ∀ z ∈ l, z ∈ vs.map strOfV := fun z hz => by
    obtain ⟨e, he, q⟩ := (F.mem z).mp hz
    refine List.mem_map.mpr ⟨e.2, pm.mem_iff.mpr (List.mem_map.mpr ⟨e, he, rfl⟩), ?_⟩
    have q : Value.isStrOf z e.2 = true := q
    generalize e.2 = x at q
    cases x with
    | str y tk =>
      have : (y == z) = true := q
      exact eq_of_beq this
    | _ => cases q
  have pl : (vs.map strOfV).Perm l := perm_of_sub _ _ nd hmem (by rw [List.length_map]; exact hvl)
  have each : ∀ us : List Value, (∀ v ∈ us, ∃ tk, v = .str (strOfV v) tk) → PySem.W.EachIs (fun v (z : Str) => ∃ tk, v = .str z tk) us (us.map strOfV) := fun us => by
    induction us with
    | nil => exact fun _ => .nil
    | cons v r ih => exact fun h => .cons (h v (.head _)) (ih fun u hu => h u (.tail _ hu))
  have reads : ∀ (h : Heap) (b : Addr) (us : List Value), (∀ v ∈ us, ∃ tk, v = .str (strOfV v) tk) → PySem.W.EachIs (fun v (z : Str) => ∃ as, Reads h v (.str z) as ∧ b ∉ as) us (us.map strOfV) := fun h b us => by
    induction us with
    | nil => exact fun _ => .nil
    | cons v r ih => exact fun hh => .cons (by
        obtain ⟨tk, e⟩ := hh v (.head _)
        have : Reads h v (.str (strOfV v)) [] := by
          generalize strOfV v = z at e
          rw [e]
          exact .str z tk
        exact ⟨[], this, by simp⟩) (ih fun u hu => hh u (.tail _ hu))
  have hL : vs.length ≤ sizeLine := by rw [hvl, ← hsz]; exact fits_of_scanBound hb0
  refine wpAny_bind (wpAny_newList ?_ hL)
  have hoL : (s1.heap.push (seqObj "list" vs.toArray 0)).get? s1.heap.objs.size = some (seqObj "list" vs.toArray 0) := Heap.get?_push_size _ rfl
  refine wpAny_bind (wpAny_holding (PySem.W.list_sort_data (enc := PyData.str) (bs := vs.map strOfV) hoL (each vs hstr) (reads _ _ vs hstr) (PySem.W.AllAlike.of fun _ _ => by simp [PySem.W.alike]) (PySem.W.Sortable.others fun b => ⟨by simp, fun xs => by simp⟩) (by rw [List.length_map]; exact hL) (fun b hb => by show A.units + 1 + 1 + 0 < cLine; omega) fun out hol hE => ?_))
  obtain ⟨c, hc⟩ := sortedHeap_at (vs := vs) (out := out.toArray) hoL
  rw [sort_str] at hE
  have pn : ((vs.map strOfV).mergeSort sle).Perm l := (List.mergeSort_perm _ _).trans pl
  have hv : ∀ {us : List Value} {zs : List Str}, PySem.W.EachIs (fun v (z : Str) => ∃ tk, v = .str z tk) us zs → Vals (zs.map V.str) us := fun {us zs} h => by
    induction h with
    | nil => exact .nil
    | cons q _ ih => exact .cons q ih
  refine wpAny_pure ⟨_, rfl, hQ { s1 with heap := sortedHeap (s1.heap.push (seqObj "list" vs.toArray 0)) s1.heap.objs.size vs out.toArray } s1.heap.objs.size out.toArray c ((vs.map strOfV).mergeSort sle) (fun b u e => ?_) g1 o1 hz hc (hv hE) (sort_pairwise (pl.nodup_iff.mpr nd)) (fun k => pn.mem_iff) pn.length_eq⟩
  have q := k1 b u e
  have hlt := Heap.lt_size q
  show (sortedHeap (s1.heap.push (seqObj "list" vs.toArray 0)) s1.heap.objs.size vs out.toArray).get? b = some u
  rw [sortedHeap_old (Nat.ne_of_lt hlt) (by rw [size_push']; exact Nat.lt_succ_of_lt hlt)]
  exact Heap.get?_push_of_some _ q
end

/-! ### over the layer -/
def TxO (P : Program) (w : World) (a : Addr) (l : List Str) : HO := .ext fun h => TxR P w h a l
def rSetTx (P : Program) (w : World) (K : PySem.W.Frag) : List V → Hp → VK → Prop := fun vs H Q => ∃ (a : Addr) (xs : List Str), vs = [.ref a] ∧ SqL K H a (xs.map V.str) ∧ xs.length + 1 < scanBound ∧
  ∀ (l : List Str) p, (∀ z, z ∈ l ↔ z ∈ xs) → l.length ≤ xs.length → H p = none → Q (.ref p) (upd H p (TxO P w p l))
def rSortTx (P : Program) (w : World) : List V → Hp → VK → Prop := fun vs H Q => ∃ (a : Addr) (l : List Str), vs = [.ref a] ∧ H a = some (TxO P w a l) ∧ l.length < scanBound ∧
  ∀ (ys : List Str) p, ys.Pairwise slt → (∀ z, z ∈ ys ↔ z ∈ l) → ys.length = l.length → H p = none → Q (.ref p) (upd H p (.lst (ys.map V.str)))
section
variable {G : Cg} {X : Cx} {W : WX} {σ : L2.St} {H : Hp}
theorem cr_setTx (hc : X.calm = true) : CallR X (.type "set") (rSetTx X.prog X.w X.K) := by
  intro pins s σ H vs us Q I r h
  obtain ⟨a, xs, rfl, hs, hn, q⟩ := h
  obtain ⟨its, rv, hl, hz⟩ := I.list hs
  rw [Vals.ref1 r]
  refine tx_set (I.ok.hd hc) hl.isList (L2.strsAre_of (by simpa using rv)) hn fun h' tk l' R hm hlen keep => ?_
  have keep' : ∀ b o, s.heap.get? b = some o → h'.get? b = some o := fun b o e => keep b o (Heap.lt_size e) e
  have ⟨D, hD, _⟩ := R
  exact ⟨.ref _, upd H s.heap.objs.size (TxO X.prog X.w s.heap.objs.size l'), I.laid (t' := tk) keep' (Nat.le_refl _) ⟨R, ⟨_, hD⟩, fun h1 h2 p k => TxR.at p k⟩, rfl, q l' _ hm hlen (I.hok.fresh (Nat.le_refl _))⟩
theorem cr_sortTx (hc : X.calm = true) (hu : X.A.units + 64 < cLine) : CallR X (.builtin "sorted") (rSortTx X.prog X.w) := by
  intro pins s σ H vs us Q I r h
  obtain ⟨a, l, rfl, ha, hb, q⟩ := h
  have R : TxR X.prog X.w s.heap a l := (I.hok a _ ha).1
  rw [Vals.ref1 r]
  refine tx_sorted R (I.ok.hd hc) hb hu fun s' p out c ys k g o hp hg hv hs hm hl => ?_
  have hlen : (ys.map V.str).length ≤ sizeLine := by rw [List.length_map, hl]; exact fits_of_scanBound hb
  have hn : H p = none := I.hok.fresh hp
  have J : Inv X pins σ (upd H p (.lst (ys.map V.str))) { s with heap := s'.heap, gens := s'.gens, drawn := s'.drawn, toks := s'.toks } :=
    I.call (ch := []) (Un.laid k hp hn) (I.hok.laid k hp ⟨hlen, out.toList, c, hv, hg⟩) (by rw [g]; exact I.bare) (fun _ z => nomatch z)
  have e : s' = { s with heap := s'.heap, gens := s'.gens, drawn := s'.drawn, toks := s'.toks } := by
    obtain ⟨x1, x2, x3, x4, x5⟩ := s'
    have o : x5 = s.os := o
    subst o
    rfl
  rw [e]
  exact ⟨.ref p, upd H p (.lst (ys.map V.str)), J, rfl, q ys p hs hm hl hn⟩
theorem b_set : bootBuiltins "set" = some (.type "set") := by decide +kernel
/-- sorted(set(xs)) -/
def eSortSet (e : E) : E := fun l m => (e l m).bind fun d m1 => match (sq m1 d).bind txts with
  | some xs => if xs.length ≤ 4000 then .ok (.lst ((sortU xs).map Dv.str)) m1 else .bad
  | none => .bad
theorem me_sortSet {e : Expr} {me : E} {p p2 pos pos2 : Pos} (hk : X.K = G.K) (hc : X.calm = true) (hu : X.A.units + 64 < cLine) (hg : Gl X "sorted") (hm : X.mg "sorted" = none) (hg2 : Gl X "set") (hm2 : X.mg "set" = none) (he : PE X e (tM G W me))
    (h1 : starEach [e] X.env = (false, eval e X.env) :: starEach [] X.env := by rfl) (h2 : starEach [.Call (.Name "set" p2) [e] [] pos2] X.env = (false, eval (.Call (.Name "set" p2) [e] [] pos2) X.env) :: starEach [] X.env := by rfl) :
    PE X (.Call (.Name "sorted" p) [.Call (.Name "set" p2) [e] [] pos2] [] pos) (tM G W (eSortSet me)) :=
  PE_imp (pe_callB (cr_sortTx hc hu) hg hm b_sorted (pa_cons (pe_callTy (cr_setTx hc) hg2 hm2 b_set (pa_cons he pa_nil h1) (by decide) (by decide) h1 rfl) pa_nil h2) (by decide) (by decide) h2 rfl) fun σ H Q ⟨D, adr, l, m, rm, rs, a⟩ => by
    show tM G W me σ H (fun x H1 => rSetTx X.prog X.w X.K [x] H1 (fun y H2 => rSortTx X.prog X.w [y] H2 Q))
    refine step (rel := relE G) rm rs a fun v H1 D1 a1 d m1 e1 f1 rm1 rs1 r b => ?_
    split at b
    · rename_i xs hx
      split at b
      · rename_i hl
        obtain ⟨ds, q1, q2⟩ := Option.bind_eq_some_iff.mp hx
        obtain ⟨p, vs, rfl, h5, h6⟩ := rm1.sq r q1
        rw [txts_v h6 q2] at h5
        refine ⟨p, xs, rfl, by rw [hk]; exact h5, by unfold scanBound; omega, fun l' q hm' hl' hq => ?_⟩
        have rm2 := rm1.newD (o := TxO X.prog X.w q l') hq
        have hd1 := rm1.dfree hq
        refine ⟨q, l', rfl, upd_same, by unfold scanBound; omega, fun ys p2 hs hm2 hl2 hp2 => ?_⟩
        have e : ys = sortU xs := srt_unique hs (sortU_srt xs) fun z => by rw [hm2 z, hm' z, mem_sortU]
        rw [← e] at b
        have rm3 := rm2.newD (o := .lst (ys.map V.str)) hp2
        exact b _ _ _ _ ((Le.new hd1).trans (Le.new (rm2.dfree hp2))) (Pf.refl _) rm3 (.lst upd_same (reps_strs _ _ _ _))
      · exact b.elim
    · exact b.elim
@[simp] theorem eSortSet_r (e : E) (l : Lc) (m : Mem) : eSortSet e l m = (e l m).bind fun d m1 => match (sq m1 d).bind txts with
  | some xs => if xs.length ≤ 4000 then .ok (.lst ((sortU xs).map Dv.str)) m1 else .bad
  | none => .bad := rr rfl
end
end Sn
/-! Sn18 -/
set_option Elab.async false
set_option linter.all false
set_option maxRecDepth 100000
set_option autoImplicit false
set_option maxHeartbeats 1000000
/-! Sn18: max(xs) of whole numbers -/
namespace Sn
open PySem PySem.Spec PyProof.Rows L2
def intsD : List Dv → Option (List Int)
  | [] => some []
  | .int i :: r => (intsD r).map (i :: ·)
  | _ => none
theorem intsD_map : ∀ xs : List Int, intsD (xs.map Dv.int) = some xs
  | [] => rfl
  | x :: r => by
    show (intsD (r.map Dv.int)).map (x :: ·) = _
    rw [intsD_map r] <;> rfl
theorem intsD_v {G : Cg} {D : Hp} {adr : List Addr} : ∀ {ds : List Dv} {vs : List V} {ns : List Int}, Reps G D adr vs ds → intsD ds = some ns → vs = ns.map V.int
  | [], _, _, r, e => by cases r; cases e; rfl
  | d :: ds, _, ns, r, e => by
    cases r with
    | cons q s =>
      cases d with
      | int i =>
        obtain ⟨ms, h1, rfl⟩ := Option.map_eq_some_iff.mp e
        rw [q.int_inv, intsD_v s h1] <;> rfl
      | _ => cases e
/-- the greatest -/
def maxI : List Int → Int
  | [] => 0
  | [x] => x
  | x :: r => max x (maxI r)
theorem le_maxI_of : ∀ {xs : List Int} {y : Int}, y ∈ xs → y ≤ maxI xs
  | [x], y, h => by rw [List.mem_singleton.mp h]; exact Int.le_refl _
  | x :: z :: r, y, h => by
    have ih := fun (h : y ∈ z :: r) => le_maxI_of h
    show y ≤ max x (maxI (z :: r))
    rcases List.mem_cons.mp h with rfl | h
    · exact Int.le_max_left _ _
    · exact Int.le_trans (ih h) (Int.le_max_right _ _)
theorem maxI_mem : ∀ {xs : List Int}, xs ≠ [] → maxI xs ∈ xs
  | [x], _ => List.mem_singleton.mpr rfl
  | x :: z :: r, _ => by
    have ih := maxI_mem (xs := z :: r) (by simp)
    show max x (maxI (z :: r)) ∈ x :: z :: r
    rcases Int.le_total x (maxI (z :: r)) with h | h
    · rw [Int.max_eq_right h]; exact .tail _ ih
    · rw [Int.max_eq_left h]; exact .head _
def maxLD (ds : List Dv) (m : Mem) : Res Dv := match ds with
  | [x] => match (sq m x).bind intsD with
    | some [] => .bad
    | some ns => .ok (.int (maxI ns)) m
    | none => .bad
  | _ => .bad
theorem maxLD_s {G : Cg} : CaS G (rMax G.K) maxLD := fun D adr m H xs ds rm r σ W Q a => by
  unfold maxLD at a
  split at a
  · split at a
    · exact a.elim
    · rename_i ns hne hx
      obtain ⟨v, rfl, q⟩ := r.one_inv
      obtain ⟨es, q1, q2⟩ := Option.bind_eq_some_iff.mp hx
      obtain ⟨p, vs, rfl, h5, h6⟩ := rm.sq q q1
      rw [intsD_v h6 q2] at h5
      have hn : ns ≠ [] := hne
      refine ⟨p, ns, rfl, h5, List.length_pos_iff.mpr hn, fun M hM hle => ?_⟩
      have e : M = maxI ns := Int.le_antisymm (le_maxI_of hM) (hle _ (maxI_mem hn))
      rw [e]
      exact a.ok rm (.int _)
    · exact a.elim
  · exact a.elim
@[simp] theorem maxLD_r (x : Dv) (m : Mem) : maxLD [x] m = (match (sq m x).bind intsD with
    | some [] => .bad
    | some ns => .ok (.int (maxI ns)) m
    | none => .bad) := rr rfl
end Sn
/-! Sn19 -/
set_option Elab.async false
set_option linter.all false
set_option maxRecDepth 100000
set_option autoImplicit false
set_option maxHeartbeats 1000000
/-! Sn19: a list with a place walked: at each turn it has to be what it was -/
namespace Sn
open PySem PySem.Spec PyProof.Rows L2
section
variable {G : Cg} {X : Cx} {W : WX} {σ : L2.St} {H : Hp}
open Classical in
noncomputable def forCM (n : Nat) (ds0 : List Dv) (tg : Tg) (body : S) : List Dv → S
  | [], l, m => if m[n]? = some (.lst ds0) then .nx l m else .bad
  | x :: r, l, m => if m[n]? = some (.lst ds0) then (match tg x l with
    | some l1 => match body l1 m with
      | .nx l2 m2 => forCM n ds0 tg body r l2 m2
      | .ct l2 m2 => forCM n ds0 tg body r l2 m2
      | .bk l2 m2 => .nx l2 m2
      | .rt d m2 => .rt d m2
      | .exc c l2 m2 => .exc c l2 m2
      | .bad => .bad
    | none => .bad) else .bad
noncomputable def sForL (e : E) (tg : Tg) (body : S) : S := fun l m => (e l m).out l fun d m1 => match d with
  | .loc n => match m1[n]? with
    | some (.lst ds) => forCM n ds tg body ds l m1
    | _ => .bad
  | _ => .bad
theorem ms_forL {tge iter : Expr} {body : List Stmt} {me : E} {g : TG} {tg : Tg} {mb : S} {pos : Pos} (hk : X.K = G.K) (hp : PassesOwn (model X.prog X.w) X.A X.env X.xe) (hc : X.calm = true) (he : PE X iter (tM G W me)) (hg : PG X tge g) (ht : TgS G g tg) (hb : PSs X body (tS G W mb))
    (hs : ∀ x, foldedSetIterable iter X.env x = pure x := by intro _; rfl) : PS X (.For tge iter body [] pos) (tS G W (sForL me tg mb)) :=
  PS_imp (ps_for hp hc (pi_list he) hg hb hs) fun De σ H ⟨D, adr, l, m, rm, rs, a⟩ => by
    refine stepS (rel := relE G) rm rs a fun v H1 D1 a1 d m1 e1 f1 rm1 rs1 r h => ?_
    cases d with
    | loc n =>
      have h : AftS G W De D1 a1 (match m1[n]? with
        | some (.lst ds) => forCM n ds tg mb ds l m1
        | _ => .bad) := h
      split at h
      · rename_i ds hn
        obtain ⟨p, rfl, q1, vs, q2, q3⟩ := rm1.of_loc r hn
        refine ⟨p, rfl, ⟨vs, SqL.of q2⟩, ?_⟩
        refine ⟨fun i k σ' H' => k = ds.length - i ∧ i ≤ ds.length ∧ ∃ D' a' l' m', Le D1 D' ∧ Pf a1 a' ∧ RM G D' a' m' H' ∧ RS G D' a' l' σ' ∧ AftS G W De D' a' (forCM n ds tg mb (ds.drop i) l' m'), ⟨ds.length, by simp, Nat.zero_le _, D1, a1, l, m1, Le.refl _, Pf.refl _, rm1, rs1, h⟩, ?_⟩
        rintro i k σ' H' ⟨rfl, hi, D', a', l', m', x1, x2, x3, x4, x5⟩
        have hchk : m'[n]? = some (.lst ds) := by
          by_cases z : m'[n]? = some (.lst ds)
          · exact z
          · exfalso
            cases hd : ds.drop i with
            | nil => rw [hd] at x5; unfold forCM at x5; rw [if_neg z] at x5; exact x5
            | cons y ys => rw [hd] at x5; unfold forCM at x5; rw [if_neg z] at x5; exact x5
        obtain ⟨ws, w1, w2⟩ := x3.at_ n p _ (x2.get q1) hchk
        by_cases hlt : i < ds.length
        · right
          have hdrop : ds.drop i = ds[i] :: ds.drop (i + 1) := List.drop_eq_getElem_cons hlt
          rw [hdrop] at x5
          unfold forCM at x5
          rw [if_pos hchk] at x5
          obtain ⟨v, v1, v2⟩ := w2.get (i := i) (d := ds[i]) (by simp [hlt])
          refine ⟨⟨ws, v, SqL.of w1, v1⟩, fun σ2 H2 => ∃ D2 a2 l2 m2, Le D1 D2 ∧ Pf a1 a2 ∧ RM G D2 a2 m2 H2 ∧ RS G D2 a2 l2 σ2 ∧ AftS G W De D2 a2 (forCM n ds tg mb (ds.drop (i + 1)) l2 m2), fun σ2 H2 q => ⟨ds.length - (i + 1), by omega, rfl, hlt, q⟩, ?_⟩
          rintro x H2 ⟨rfl, hx⟩
          have hxv := hx ws (SqL.of w1)
          rw [v1] at hxv
          cases hxv
          cases e2 : tg ds[i] l' with
          | none => rw [e2] at x5; exact x5.elim
          | some l1 =>
            rw [e2] at x5
            refine ht D' a' m' H2 v ds[i] l' l1 σ' _ x3 x4 v2 e2 fun σ2 rs2 => ⟨D', a', l1, m', x3, rs2, ?_⟩
            dsimp only at x5
            revert x5
            cases mb l1 m' with
            | nx l2 m2 => exact fun x6 s' H3 D3 a3 y1 y2 y3 y4 => ⟨D3, a3, l2, m2, x1.trans y1, x2.trans y2, y3, y4, x6.mono y1 y2⟩
            | ct l2 m2 => exact fun x6 s' H3 D3 a3 y1 y2 y3 y4 => ⟨D3, a3, l2, m2, x1.trans y1, x2.trans y2, y3, y4, x6.mono y1 y2⟩
            | bk l2 m2 => exact fun x6 => x6
            | rt d2 m2 => exact fun x6 => x6
            | exc c l2 m2 => exact fun x6 => x6
            | bad => exact fun x6 => x6
        · left
          have hd : ds.drop i = [] := List.drop_eq_nil_of_le (by omega)
          rw [hd] at x5
          unfold forCM at x5
          rw [if_pos hchk] at x5
          exact ⟨⟨ws, SqL.of w1, by rw [w2.length]; omega⟩, x5 σ' H' D' a' (Le.refl _) (Pf.refl _) x3 x4⟩
      · exact h.elim
    | _ => exact h.elim
/-- where the body leaves the list as it is -/
theorem forCM_inv {n : Nat} {ds0 : List Dv} {tg : Tg} {body : S} : ∀ {ds : List Dv} (Inv : Nat → Lc → Mem → Prop) (keep : ∀ i l m, Inv i l m → m[n]? = some (.lst ds0)) (step : ∀ i (h : i < ds.length) l m, Inv i l m → ∃ l1 l2 m2, tg ds[i] l = some l1 ∧ (body l1 m = .nx l2 m2 ∨ body l1 m = .ct l2 m2) ∧ Inv (i + 1) l2 m2)
    (l : Lc) (m : Mem), Inv 0 l m → ∃ l2 m2, forCM n ds0 tg body ds l m = .nx l2 m2 ∧ Inv ds.length l2 m2 := by
  intro ds
  induction ds with
  | nil =>
    intro Inv keep _ l m h
    refine ⟨l, m, ?_, h⟩
    unfold forCM
    rw [if_pos (keep _ _ _ h)]
  | cons x ds ih =>
    intro Inv keep step l m h
    obtain ⟨l1, l2, m2, e1, e2, h2⟩ := step 0 (by simp) l m h
    have e1 : tg x l = some l1 := e1
    obtain ⟨l3, m3, e3, h3⟩ := ih (fun i => Inv (i + 1)) (fun i => keep (i + 1)) (fun i hi => step (i + 1) (by simp; omega)) l2 m2 h2
    refine ⟨l3, m3, ?_, h3⟩
    unfold forCM
    rw [if_pos (keep _ _ _ h), e1]
    dsimp only
    rcases e2 with e2 | e2 <;> rw [e2] <;> exact e3
@[simp] theorem sForL_r (e : E) (tg : Tg) (body : S) (l : Lc) (m : Mem) : sForL e tg body l m = (e l m).out l fun d m1 => match d with
  | .loc n => match m1[n]? with
    | some (.lst ds) => forCM n ds tg body ds l m1
    | _ => .bad
  | _ => .bad := rr rfl
end
end Sn
/-! M_k08 -/
set_option Elab.async false
set_option linter.all false
set_option maxRecDepth 100000
set_option autoImplicit false
namespace Law
open PySem PySem.Spec PyProof.Rows L2 Sn
/-- Pile.__init__ -/
abbrev nm_Pile_init : List Str := ["self"]
noncomputable def bd_Pile_init : S :=
  (sSeq (sFldM 0 0 (eVar 0) eNewK)
    (sSeq (sFldM 0 1 (eVar 0) eNewK)
    (sFldM 0 2 (eVar 0) (eC (.int 0)))))
noncomputable def m_Pile_init : Fn := mkFn 1 1 bd_Pile_init
/-- Pile.fresh -/
abbrev nm_Pile_fresh : List Str := ["self", "content"]
noncomputable def bd_Pile_fresh : S :=
  (sSeq (sFldM 0 2 (eVar 0) (eBin addD (eFld 0 2 (eVar 0)) (eC (.int 1))))
    (sSeq (sDPutM (eFld 0 0 (eVar 0)) (eFld 0 2 (eVar 0)) (eVar 1))
    (sSeq (sDPutM (eFld 0 1 (eVar 0)) (eFld 0 2 (eVar 0)) (eC (.int 0)))
    (sRet (eFld 0 2 (eVar 0))))))
noncomputable def m_Pile_fresh : Fn := mkFn 2 2 bd_Pile_fresh
/-- Pile.leaf -/
abbrev nm_Pile_leaf : List Str := ["self", "number"]
noncomputable def bd_Pile_leaf : S :=
  (sRet (eMeth 0 2 m_Pile_fresh (eVar 0) (aCons (eMk mkTup (aCons (eC (.str "leaf")) (aCons (eVar 1) aNil))) aNil)))
noncomputable def m_Pile_leaf : Fn := mkFn 2 2 bd_Pile_leaf
/-- Pile.need -/
abbrev nm_Pile_need : List Str := ["self", "box"]
noncomputable def bd_Pile_need : S :=
  (sSeq (sIf (tOrM (tNotM (tV (eUn (isiD .int) (eVar 1)))) (tOrM (tV (eUn (isiD .bool) (eVar 1))) (tV (eDNotIn (eVar 1) (eFld 0 0 (eVar 0))))))
    (sRaise 7)
    sNil)
    (sRet (eVar 1)))
noncomputable def m_Pile_need : Fn := mkFn 2 2 bd_Pile_need
/-- Pile.hold -/
abbrev nm_Pile_hold : List Str := ["self", "box", "one"]
noncomputable def bd_Pile_hold : S :=
  (sSeq (sSet 2 (eMeth 0 2 m_Pile_need (eVar 0) (aCons (eVar 1) aNil)))
    (sDPutM (eFld 0 1 (eVar 0)) (eVar 2) (eBin addD (eDGet (eFld 0 1 (eVar 0)) (eVar 2)) (eC (.int 1)))))
noncomputable def m_Pile_hold : Fn := mkFn 2 3 bd_Pile_hold
/-- Pile.branch -/
abbrev nm_Pile_branch : List Str := ["self", "rows", "name", "box"]
noncomputable def lf_Pile_branch_1 : S :=
  (sExpr (eMeth 0 2 m_Pile_need (eVar 0) (aCons (eVar 3) aNil)))
noncomputable def lf_Pile_branch_2 : S :=
  (sExpr (eMeth 0 2 m_Pile_hold (eVar 0) (aCons (eVar 3) aNil)))
noncomputable def bd_Pile_branch : S :=
  (sSeq (sFor (iSeq (eVar 1)) (tg2 2 3)
    lf_Pile_branch_1)
    (sSeq (sFor (iSeq (eVar 1)) (tg2 2 3)
    lf_Pile_branch_2)
    (sRet (eMeth 0 2 m_Pile_fresh (eVar 0) (aCons (eMk mkTup (aCons (eC (.str "branch")) (aCons (eMk listD (aCons (eVar 1) aNil)) aNil))) aNil)))))
noncomputable def m_Pile_branch : Fn := mkFn 2 4 bd_Pile_branch
noncomputable def lf_Pile_branchL_1 : S :=
  (sExpr (eMeth 0 2 m_Pile_need (eVar 0) (aCons (eVar 3) aNil)))
noncomputable def lf_Pile_branchL_2 : S :=
  (sExpr (eMeth 0 2 m_Pile_hold (eVar 0) (aCons (eVar 3) aNil)))
noncomputable def bd_Pile_branchL : S :=
  (sSeq (sForL (eVar 1) (tg2 2 3)
    lf_Pile_branchL_1)
    (sSeq (sForL (eVar 1) (tg2 2 3)
    lf_Pile_branchL_2)
    (sRet (eMeth 0 2 m_Pile_fresh (eVar 0) (aCons (eMk mkTup (aCons (eC (.str "branch")) (aCons (eMk listD (aCons (eVar 1) aNil)) aNil))) aNil)))))
noncomputable def m_Pile_branchL : Fn := mkFn 2 4 bd_Pile_branchL
/-- _law_whole -/
abbrev nm_l_whole : List Str := ["_law_seen"]
noncomputable def bd_l_whole : S :=
  (sRet (eAnd (eUn (isiD .int) (eVar 0)) (eNot (eUn (isiD .bool) (eVar 0)))))
noncomputable def m_l_whole : Fn := mkFn 1 1 bd_l_whole
/-- _law_count -/
abbrev nm_l_count : List Str := ["_law_seen", "_law_due"]
noncomputable def bd_l_count : S :=
  (sRet (eAnd (eCall 1 m_l_whole (aCons (eVar 0) aNil)) (eBin eqD (eVar 0) (eVar 1))))
noncomputable def m_l_count : Fn := mkFn 2 2 bd_l_count
/-- Pile.kept -/
abbrev nm_Pile_kept : List Str := ["self"]
noncomputable def bd_Pile_kept : S :=
  (sRet (eMk sortKiD (aCons (eFld 0 0 (eVar 0)) aNil)))
noncomputable def m_Pile_kept : Fn := mkFn 1 1 bd_Pile_kept
/-- Pile.let_go -/
abbrev nm_Pile_let_go : List Str := ["self", "box", "waiting", "gone", "one", "left", "inside", "name", "inner"]
noncomputable def lf_Pile_let_go_1 : S :=
  (sExpr (eApp (eVar 2) (eVar 8)))
noncomputable def lw_Pile_let_go_2 : S :=
  (sSeq (sSet 4 (ePop (eVar 2)))
    (sSeq (sSet 5 (eMk maxD (aCons (eC (.int 0)) (aCons (eBin subD (eDGet2 (eFld 0 1 (eVar 0)) (eVar 4) (eC (.int 1))) (eC (.int 1))) aNil))))
    (sIf (tV (eBin gtD (eVar 5) (eC (.int 0))))
    (sDPutM (eFld 0 1 (eVar 0)) (eVar 4) (eVar 5))
    (sIf (tV (eDIn (eVar 4) (eFld 0 0 (eVar 0))))
    (sSeq (sSet 6 (eDPop (eFld 0 0 (eVar 0)) (eVar 4)))
    (sSeq (sExpr (eDPop (eFld 0 1 (eVar 0)) (eVar 4)))
    (sSeq (sSet 3 (eBin addD (eVar 3) (eC (.int 1))))
    (sIf (tV (eBin eqD (eBin ixD (eVar 6) (eC (.int 0))) (eC (.str "branch"))))
    (sFor (iSeq (eBin ixD (eVar 6) (eC (.int 1)))) (tg2 7 8)
    lf_Pile_let_go_1)
    sNil))))
    sNil))))
noncomputable def bd_Pile_let_go : S :=
  (sSeq (sSet 2 (eMk newLst (aCons (eMeth 0 2 m_Pile_need (eVar 0) (aCons (eVar 1) aNil)) aNil)))
    (sSeq (sSet 3 (eC (.int 0)))
    (sSeq (sWhile fuelN (tTruth (eVar 2))
    lw_Pile_let_go_2)
    (sRet (eVar 3)))))
noncomputable def m_Pile_let_go : Fn := mkFn 2 9 bd_Pile_let_go
/-- Pile.holders -/
abbrev nm_Pile_holders : List Str := ["self", "box"]
noncomputable def bd_Pile_holders : S :=
  (sRet (eDGet (eFld 0 1 (eVar 0)) (eMeth 0 2 m_Pile_need (eVar 0) (aCons (eVar 1) aNil))))
noncomputable def m_Pile_holders : Fn := mkFn 2 2 bd_Pile_holders
/-- _law_chain -/
abbrev nm_l_chain : List Str := ["_law_many", "_law_named", "_law_pile", "_law_box", "_law_k", "_law_at"]
noncomputable def le_l_chain_1 : E :=
  (eMk mkTup (aCons (eBin ixD (eC (.str "abcdefghijklm")) (eVar 5)) (aCons (eVar 3) aNil)))
noncomputable def lf_l_chain_2 : S :=
  (sSet 3 (eMeth 0 2 m_Pile_branch (eVar 2) (aCons (eLc (iR1 (aCons (eVar 1) aNil)) 5 tYesM le_l_chain_1) aNil)))
noncomputable def le_l_chain_3 : E :=
  (eBin addD (eVar 4) (eC (.int 1)))
noncomputable def bd_l_chain : S :=
  (sSeq (sSet 2 (eMake0 0 m_Pile_init))
    (sSeq (sSet 3 (eMeth 0 2 m_Pile_leaf (eVar 2) (aCons (eC (.int 7)) aNil)))
    (sSeq (sFor (iR1 (aCons (eVar 0) aNil)) (tgN 4)
    lf_l_chain_2)
    (sSeq (sIf (tOrM (tV (eBin neD (eMeth 0 1 m_Pile_kept (eVar 2) aNil) (eLc (iR1 (aCons (eBin addD (eVar 0) (eC (.int 1))) aNil)) 4 tYesM le_l_chain_3))) (tNotM (tV (eCall 2 m_l_count (aCons (eMeth 0 2 m_Pile_holders (eVar 2) (aCons (eC (.int 1)) aNil)) (aCons (eBin mulD (eVar 1) (eMk intD (aCons (eBin gtD (eVar 0) (eC (.int 0))) aNil))) aNil))))))
    (sRet (eC (.bl false)))
    sNil)
    (sRet (eAnd (eCall 2 m_l_count (aCons (eMeth 0 2 m_Pile_let_go (eVar 2) (aCons (eVar 3) aNil)) (aCons (eBin addD (eVar 0) (eC (.int 1))) aNil))) (eAnd (eBin eqD (eMeth 0 1 m_Pile_kept (eVar 2) aNil) (eMk mkLst aNil)) (eCall 2 m_l_count (aCons (eFld 0 2 (eVar 2)) (aCons (eBin addD (eVar 0) (eC (.int 1))) aNil))))))))))
noncomputable def m_l_chain : Fn := mkFn 2 6 bd_l_chain
/-- Pile.content -/
abbrev nm_Pile_content : List Str := ["self", "box", "inside"]
noncomputable def bd_Pile_content : S :=
  (sSeq (sSet 2 (eDGet (eFld 0 0 (eVar 0)) (eMeth 0 2 m_Pile_need (eVar 0) (aCons (eVar 1) aNil))))
    (sSeq (sIf (tV (eBin eqD (eBin ixD (eVar 2) (eC (.int 0))) (eC (.str "leaf"))))
    (sRet (eVar 2))
    sNil)
    (sRet (eMk mkTup (aCons (eC (.str "branch")) (aCons (eMk listD (aCons (eBin ixD (eVar 2) (eC (.int 1))) aNil)) aNil))))))
noncomputable def m_Pile_content : Fn := mkFn 2 3 bd_Pile_content
noncomputable def bd_Pile_contentN : S :=
  (sSeq (sSet 2 (eDGet (eFld 0 0 (eVar 0)) (eMeth 0 2 m_Pile_need (eVar 0) (aCons (eVar 1) aNil))))
    (sSeq (sIf (tV (eBin eqD (eBin ixD (eVar 2) (eC (.int 0))) (eC (.str "leaf"))))
    (sRet (eVar 2))
    sNil)
    (sRet (eMk mkTup (aCons (eC (.str "branch")) (aCons (eMk listN (aCons (eBin ixD (eVar 2) (eC (.int 1))) aNil)) aNil))))))
noncomputable def m_Pile_contentN : Fn := mkFn 2 3 bd_Pile_contentN
/-- _law_refused -/
abbrev nm_l_refused : List Str := ["_law_pile", "_law_box", "_law_good", "_law_cell"]
noncomputable def bd_l_refused : S :=
  (sSeq (sTry [(7, some (.bl true))]
    (sIf (tV (eBin eqD (eBin modD (eVar 3) (eC (.int 6))) (eC (.int 0))))
    (sExpr (eMeth 0 2 m_Pile_content (eVar 0) (aCons (eVar 1) aNil)))
    (sIf (tV (eBin eqD (eBin modD (eVar 3) (eC (.int 6))) (eC (.int 1))))
    (sExpr (eMeth 0 2 m_Pile_let_go (eVar 0) (aCons (eVar 1) aNil)))
    (sIf (tV (eBin eqD (eBin modD (eVar 3) (eC (.int 6))) (eC (.int 2))))
    (sExpr (eMeth 0 2 m_Pile_hold (eVar 0) (aCons (eVar 1) aNil)))
    (sIf (tV (eBin eqD (eBin modD (eVar 3) (eC (.int 6))) (eC (.int 3))))
    (sExpr (eMeth 0 2 m_Pile_holders (eVar 0) (aCons (eVar 1) aNil)))
    (sExpr (eMeth 0 2 m_Pile_branch (eVar 0) (aCons (eMk mkLst (aCons (eMk mkTup (aCons (eC (.str "a")) (aCons (eVar 2) aNil))) (aCons (eMk mkTup (aCons (eC (.str "b")) (aCons (eVar 1) aNil))) (aCons (eMk mkTup (aCons (eC (.str "c")) (aCons (eVar 2) aNil))) aNil)))) aNil))))))))
    (sRet (eC (.bl false))))
noncomputable def m_l_refused : Fn := mkFn 4 4 bd_l_refused
/-- _law_rows_by -/
abbrev nm_l_rows_by : List Str := ["_law_cell", "_law_there", "_law_many", "_law_some", "_law_names", "_law_k"]
noncomputable def le_l_rows_by_1 : E :=
  (eBin addD (eBin ixD (eC (.str "nopqrstuvwxyz")) (eBin modD (eBin addD (eBin fdivD (eVar 0) (eC (.int 7))) (eBin mulD (eC (.int 5)) (eVar 5))) (eC (.int 13)))) (eBin mulD (eBin ixD (eC (.str "abcd")) (eBin modD (eVar 5) (eC (.int 4)))) (eBin fdivD (eVar 5) (eC (.int 13)))))
noncomputable def le_l_rows_by_2 : E :=
  (eMk mkTup (aCons (eBin ixD (eVar 4) (eVar 5)) (aCons (eBin ixD (eVar 1) (eBin modD (eBin addD (eBin fdivD (eVar 0) (eC (.int 11))) (eBin mulD (eC (.int 3)) (eVar 5))) (eMk lenD (aCons (eVar 1) aNil)))) aNil)))
noncomputable def bd_l_rows_by : S :=
  (sSeq (sSet 2 (eBin modD (eVar 0) (eC (.int 6))))
    (sSeq (sIf (tV (eBin eqD (eBin modD (eBin fdivD (eVar 0) (eC (.int 6))) (eC (.int 8))) (eC (.int 7))))
    (sSet 2 (eBin modD (eBin fdivD (eVar 0) (eC (.int 48))) (eC (.int 41))))
    sNil)
    (sSeq (sSet 3 (eLc (iR1 (aCons (eVar 2) aNil)) 5 tYesM le_l_rows_by_1))
    (sSeq (sSet 4 (eSortSet (eVar 3)))
    (sRet (eLc (iR1 (aCons (eMk lenD (aCons (eVar 4) aNil)) aNil)) 5 tYesM le_l_rows_by_2))))))
noncomputable def m_l_rows_by : Fn := mkFn 2 6 bd_l_rows_by
/-- _law_alike -/
abbrev nm_l_alike : List Str := ["_law_seen", "_law_due", "_law_k", "_law_pair"]
noncomputable def lf_l_alike_1 : S :=
  (sSeq (sSet 3 (eBin ixD (eBin ixD (eVar 0) (eC (.int 1))) (eVar 2)))
    (sIf (tOrM (tNotM (tV (eUn (isiD .tuple) (eVar 3)))) (tOrM (tV (eBin neD (eVar 3) (eBin ixD (eBin ixD (eVar 1) (eC (.int 1))) (eVar 2)))) (tNotM (tV (eCall 1 m_l_whole (aCons (eBin ixD (eVar 3) (eC (.int 1))) aNil))))))
    (sRet (eC (.bl false)))
    sNil))
noncomputable def bd_l_alike : S :=
  (sSeq (sIf (tOrM (tNotM (tV (eUn (isiD .tuple) (eVar 0)))) (tOrM (tV (eBin neD (eMk lenD (aCons (eVar 0) aNil)) (eC (.int 2)))) (tOrM (tNotM (tV (eUn (isiD .str) (eBin ixD (eVar 0) (eC (.int 0)))))) (tV (eBin neD (eBin ixD (eVar 0) (eC (.int 0))) (eBin ixD (eVar 1) (eC (.int 0))))))))
    (sRet (eC (.bl false)))
    sNil)
    (sSeq (sIf (tV (eBin eqD (eBin ixD (eVar 1) (eC (.int 0))) (eC (.str "leaf"))))
    (sRet (eCall 2 m_l_count (aCons (eBin ixD (eVar 0) (eC (.int 1))) (aCons (eBin ixD (eVar 1) (eC (.int 1))) aNil))))
    sNil)
    (sSeq (sIf (tOrM (tNotM (tV (eUn (isiD .list) (eBin ixD (eVar 0) (eC (.int 1)))))) (tV (eBin neD (eMk lenD (aCons (eBin ixD (eVar 0) (eC (.int 1))) aNil)) (eMk lenD (aCons (eBin ixD (eVar 1) (eC (.int 1))) aNil)))))
    (sRet (eC (.bl false)))
    sNil)
    (sSeq (sFor (iR1 (aCons (eMk lenD (aCons (eBin ixD (eVar 1) (eC (.int 1))) aNil)) aNil)) (tgN 2)
    lf_l_alike_1)
    (sRet (eC (.bl true)))))))
noncomputable def m_l_alike : Fn := mkFn 2 4 bd_l_alike
/-- _law_gone -/
abbrev nm_l_gone : List Str := ["_law_inside", "_law_counts", "_law_box", "_law_waiting", "_law_gone_here", "_law_one", "_law_left", "_law_pair"]
noncomputable def le_l_gone_1 : E :=
  (eBin ixD (eVar 7) (eC (.int 1)))
noncomputable def lw_l_gone_2 : S :=
  (sSeq (sSet 5 (ePop (eVar 3)))
    (sSeq (sIf (tV (eDIn (eVar 5) (eVar 1)))
    (sDPutM (eVar 1) (eVar 5) (eMk maxD (aCons (eC (.int 0)) (aCons (eBin subD (eDGet (eVar 1) (eVar 5)) (eC (.int 1))) aNil))))
    sNil)
    (sIf (tAndM (tV (eDIn (eVar 5) (eVar 1))) (tV (eBin eqD (eDGet (eVar 1) (eVar 5)) (eC (.int 0)))))
    (sSeq (sSet 4 (eBin addD (eVar 4) (eC (.int 1))))
    (sSeq (sExpr (eDPop (eVar 1) (eVar 5)))
    (sSeq (sSet 6 (eDPop (eVar 0) (eVar 5)))
    (sIf (tV (eBin eqD (eBin ixD (eVar 6) (eC (.int 0))) (eC (.str "branch"))))
    (sSet 3 (eBin addN (eVar 3) (eLc (iSeq (eBin ixD (eVar 6) (eC (.int 1)))) 7 tYesM le_l_gone_1)))
    sNil))))
    sNil)))
noncomputable def bd_l_gone : S :=
  (sSeq (sSet 3 (eMk newLst (aCons (eVar 2) aNil)))
    (sSeq (sSet 4 (eC (.int 0)))
    (sSeq (sWhile fuelN (tV (eBin neD (eVar 3) (eMk mkLst aNil)))
    lw_l_gone_2)
    (sRet (eVar 4)))))
noncomputable def m_l_gone : Fn := mkFn 3 8 bd_l_gone
/-- _law_step -/
abbrev nm_l_step : List Str := ["_law_pile", "_law_inside", "_law_counts", "_law_made", "_law_cell", "_law_there", "_law_way", "_law_some", "_law_box", "_law_missing", "_law_number", "_law_rows", "_law_handed", "_law_seen", "_law_pair"]
noncomputable def lf_l_step_1 : S :=
  (sDPutM (eVar 2) (eBin ixD (eVar 14) (eC (.int 1))) (eBin addD (eDGet (eVar 2) (eBin ixD (eVar 14) (eC (.int 1)))) (eC (.int 1))))
noncomputable def le_l_step_2 : E :=
  (eVar 8)
noncomputable def lt_l_step_3 : T :=
  (tV (eDNotIn (eVar 8) (eVar 1)))
noncomputable def bd_l_step : S :=
  (sSeq (sSet 5 (eMk sortKiD (aCons (eVar 1) aNil)))
    (sSeq (sSet 6 (eBin modD (eVar 4) (eC (.int 6))))
    (sSeq (sSet 7 (eBin fdivD (eVar 4) (eC (.int 6))))
    (sSeq (sIf (tOrM (tV (eBin eqD (eVar 6) (eC (.int 0)))) (tV (eBin eqD (eVar 5) (eMk mkLst aNil))))
    (sSeq (sSet 10 (eBin addD (eBin subD (eBin modD (eVar 7) (eBin subD (eBin mulD (eC (.int 2)) (eBin powD (eC (.int 10)) (eC (.int 30)))) (eC (.int 1)))) (eBin powD (eC (.int 10)) (eC (.int 30)))) (eC (.int 1))))
    (sSeq (sDPutM (eVar 1) (eBin addD (eVar 3) (eC (.int 1))) (eMk mkTup (aCons (eC (.str "leaf")) (aCons (eVar 10) aNil))))
    (sSeq (sDPutM (eVar 2) (eBin addD (eVar 3) (eC (.int 1))) (eC (.int 0)))
    (sRet (eCall 2 m_l_count (aCons (eMeth 0 2 m_Pile_leaf (eVar 0) (aCons (eVar 10) aNil)) (aCons (eBin addD (eVar 3) (eC (.int 1))) aNil)))))))
    sNil)
    (sSeq (sIf (tV (eBin ltD (eVar 6) (eC (.int 3))))
    (sSeq (sSet 11 (eCall 2 m_l_rows_by (aCons (eVar 7) (aCons (eVar 5) aNil))))
    (sSeq (sSet 12 (eMk listN (aCons (eVar 11) aNil)))
    (sSeq (sSet 13 (eMeth 0 2 m_Pile_branchL (eVar 0) (aCons (eVar 12) aNil)))
    (sSeq (sIf (tV (eBin neD (eVar 12) (eVar 11)))
    (sRet (eC (.bl false)))
    sNil)
    (sSeq (sExpr (eApp (eVar 12) (eMk mkTup (aCons (eC (.str "zzz")) (aCons (eBin ixD (eVar 5) (eC (.int 0))) aNil)))))
    (sSeq (sFor (iSeq (eVar 11)) (tgN 14)
    lf_l_step_1)
    (sSeq (sDPutM (eVar 1) (eBin addD (eVar 3) (eC (.int 1))) (eMk mkTup (aCons (eC (.str "branch")) (aCons (eVar 11) aNil))))
    (sSeq (sDPutM (eVar 2) (eBin addD (eVar 3) (eC (.int 1))) (eC (.int 0)))
    (sRet (eCall 2 m_l_count (aCons (eVar 13) (aCons (eBin addD (eVar 3) (eC (.int 1))) aNil))))))))))))
    sNil)
    (sSeq (sSet 8 (eBin ixD (eVar 5) (eBin modD (eVar 7) (eMk lenD (aCons (eVar 5) aNil)))))
    (sSeq (sIf (tV (eBin eqD (eVar 6) (eC (.int 3))))
    (sSeq (sDPutM (eVar 2) (eVar 8) (eBin addD (eDGet (eVar 2) (eVar 8)) (eC (.int 1))))
    (sRet (eAnd (eBin isD (eMeth 0 2 m_Pile_hold (eVar 0) (aCons (eVar 8) aNil)) (eC .non)) (eCall 2 m_l_alike (aCons (eMeth 0 2 m_Pile_content (eVar 0) (aCons (eVar 8) aNil)) (aCons (eDGet (eVar 1) (eVar 8)) aNil))))))
    sNil)
    (sSeq (sIf (tV (eBin eqD (eVar 6) (eC (.int 4))))
    (sRet (eCall 2 m_l_count (aCons (eMeth 0 2 m_Pile_let_go (eVar 0) (aCons (eVar 8) aNil)) (aCons (eCall 3 m_l_gone (aCons (eVar 1) (aCons (eVar 2) (aCons (eVar 8) aNil)))) aNil))))
    sNil)
    (sSeq (sSet 9 (eLc (iR2 (aCons (eC (.int 1)) (aCons (eBin addD (eVar 3) (eC (.int 2))) aNil))) 8 lt_l_step_3 le_l_step_2))
    (sRet (eCall 4 m_l_refused (aCons (eVar 0) (aCons (eBin ixD (eVar 9) (eBin modD (eVar 7) (eMk lenD (aCons (eVar 9) aNil)))) (aCons (eVar 8) (aCons (eBin fdivD (eVar 7) (eC (.int 64))) aNil)))))))))))))))
noncomputable def m_l_step : Fn := mkFn 5 15 bd_l_step
/-- _law_as_due -/
abbrev nm_l_as_due : List Str := ["_law_pile", "_law_inside", "_law_counts", "_law_made", "_law_kept", "_law_box"]
noncomputable def le_l_as_due_1 : E :=
  (eAnd (eCall 1 m_l_whole (aCons (eVar 5) aNil)) (eCall 2 m_l_count (aCons (eMeth 0 2 m_Pile_holders (eVar 0) (aCons (eVar 5) aNil)) (aCons (eDGet (eVar 2) (eVar 5)) aNil))))
noncomputable def bd_l_as_due : S :=
  (sSeq (sSet 4 (eMeth 0 1 m_Pile_kept (eVar 0) aNil))
    (sSeq (sIf (tOrM (tNotM (tV (eUn (isiD .list) (eVar 4)))) (tOrM (tV (eBin neD (eVar 4) (eMk sortKiD (aCons (eVar 1) aNil)))) (tNotM (tV (eCall 2 m_l_count (aCons (eFld 0 2 (eVar 0)) (aCons (eVar 3) aNil)))))))
    (sRet (eC (.bl false)))
    sNil)
    (sRet (eMk allD (aCons (eLc (iSeq (eVar 4)) 5 tYesM le_l_as_due_1) aNil)))))
noncomputable def m_l_as_due : Fn := mkFn 4 6 bd_l_as_due
/-- law -/
abbrev nm_law : List Str := ["_law_script", "_law_pile", "_law_inside", "_law_counts", "_law_made", "_law_cell", "_law_box", "_law_told"]
noncomputable def lf_law_1 : S :=
  (sSeq (sSet 7 (eMeth 0 2 m_Pile_contentN (eVar 1) (aCons (eVar 6) aNil)))
    (sSeq (sIf (tNotM (tV (eCall 2 m_l_alike (aCons (eVar 7) (aCons (eDGet (eVar 2) (eVar 6)) aNil)))))
    (sRet (eC (.bl false)))
    sNil)
    (sIf (tV (eBin eqD (eBin ixD (eDGet (eVar 2) (eVar 6)) (eC (.int 0))) (eC (.str "branch"))))
    (sExpr (eApp (eBin ixD (eVar 7) (eC (.int 1))) (eMk mkTup (aCons (eC (.str "more")) (aCons (eC (.int 1)) aNil)))))
    sNil)))
noncomputable def lf_law_2 : S :=
  (sSeq (sIf (tNotM (tV (eCall 5 m_l_step (aCons (eVar 1) (aCons (eVar 2) (aCons (eVar 3) (aCons (eVar 4) (aCons (eVar 5) aNil))))))))
    (sRet (eC (.bl false)))
    sNil)
    (sSeq (sSet 4 (eMk maxLD (aCons (eBin addD (eMk mkLst (aCons (eVar 4) aNil)) (eMk listKD (aCons (eVar 2) aNil))) aNil)))
    (sSeq (sIf (tNotM (tV (eCall 4 m_l_as_due (aCons (eVar 1) (aCons (eVar 2) (aCons (eVar 3) (aCons (eVar 4) aNil)))))))
    (sRet (eC (.bl false)))
    sNil)
    (sFor (iSeq (eSl (eMk sortKiD (aCons (eVar 2) aNil)) (oSome (eUn negD (eC (.int 1)))) oNone)) (tgN 6)
    lf_law_1))))
noncomputable def le_law_3 : E :=
  (eCall 2 m_l_alike (aCons (eMeth 0 2 m_Pile_content (eVar 1) (aCons (eVar 6) aNil)) (aCons (eDGet (eVar 2) (eVar 6)) aNil)))
noncomputable def bd_law : S :=
  (sSeq (sIf (tAndM (tV (eBin neD (eVar 0) (eMk mkLst aNil))) (tNotM (tV (eCall 2 m_l_chain (aCons (eBin modD (eBin fdivD (eBin ixD (eVar 0) (eC (.int 0))) (eC (.int 7))) (eC (.int 61))) (aCons (eBin addD (eC (.int 1)) (eBin modD (eBin fdivD (eBin ixD (eVar 0) (eC (.int 0))) (eC (.int 427))) (eC (.int 3)))) aNil))))))
    (sRet (eC (.bl false)))
    sNil)
    (sSeq (sSet 1 (eMake0 0 m_Pile_init))
    (sSeq (sSet 2 eNewK)
    (sSeq (sSet 3 eNewK)
    (sSeq (sSet 4 (eC (.int 0)))
    (sSeq (sFor (iSeq (eSl (eVar 0) oNone (oSome (eC (.int 40))))) (tgN 5)
    lf_law_2)
    (sRet (eMk allD (aCons (eLc (iSeq (eMk sortKiD (aCons (eVar 2) aNil))) 6 tYesM le_law_3) aNil)))))))))
noncomputable def m_law : Fn := mkFn 1 8 bd_law
end Law
/-! K_k08 -/
set_option Elab.async false
set_option linter.all false
set_option maxRecDepth 100000
set_option autoImplicit false
set_option maxHeartbeats 4000000
namespace Law
open PySem PySem.Spec PyProof.Rows L2 Sn
def topS (i : Nat) : Stmt := PySem.Challenge.pw_snaptree_k08_whole_pile.main.body.getD i (.Pass ⟨0, 0, 0, 0⟩)
abbrev s_Pile_init : Stmt := inClass (topS 4) 0
abbrev s_Pile_fresh : Stmt := inClass (topS 4) 2
abbrev s_Pile_leaf : Stmt := inClass (topS 4) 3
abbrev s_Pile_need : Stmt := inClass (topS 4) 1
abbrev s_Pile_hold : Stmt := inClass (topS 4) 6
abbrev s_Pile_branch : Stmt := inClass (topS 4) 4
abbrev s_l_whole : Stmt := topS 6
abbrev s_l_count : Stmt := topS 7
abbrev s_Pile_kept : Stmt := inClass (topS 4) 8
abbrev s_Pile_let_go : Stmt := inClass (topS 4) 9
abbrev s_Pile_holders : Stmt := inClass (topS 4) 7
abbrev s_l_chain : Stmt := topS 14
abbrev s_Pile_content : Stmt := inClass (topS 4) 5
abbrev s_l_refused : Stmt := topS 11
abbrev s_l_rows_by : Stmt := topS 8
abbrev s_l_alike : Stmt := topS 9
abbrev s_l_gone : Stmt := topS 10
abbrev s_l_step : Stmt := topS 13
abbrev s_l_as_due : Stmt := topS 12
abbrev s_law : Stmt := topS 15
structure Ad where
  a_Pile_init : Addr
  d_Pile_init : FuncData
  a_Pile_fresh : Addr
  d_Pile_fresh : FuncData
  a_Pile_leaf : Addr
  d_Pile_leaf : FuncData
  a_Pile_need : Addr
  d_Pile_need : FuncData
  a_Pile_hold : Addr
  d_Pile_hold : FuncData
  a_Pile_branch : Addr
  d_Pile_branch : FuncData
  a_l_whole : Addr
  d_l_whole : FuncData
  a_l_count : Addr
  d_l_count : FuncData
  a_Pile_kept : Addr
  d_Pile_kept : FuncData
  a_Pile_let_go : Addr
  d_Pile_let_go : FuncData
  a_Pile_holders : Addr
  d_Pile_holders : FuncData
  a_l_chain : Addr
  d_l_chain : FuncData
  a_Pile_content : Addr
  d_Pile_content : FuncData
  a_l_refused : Addr
  d_l_refused : FuncData
  a_l_rows_by : Addr
  d_l_rows_by : FuncData
  a_l_alike : Addr
  d_l_alike : FuncData
  a_l_gone : Addr
  d_l_gone : FuncData
  a_l_step : Addr
  d_l_step : FuncData
  a_l_as_due : Addr
  d_l_as_due : FuncData
  a_law : Addr
  d_law : FuncData
  c_Pile : Addr
  x_NoBox : Addr
def namesC (n : Nat) : List Str := match n with
  | 0 => ["boxes", "counts", "made"]
  | 1 => ["pile", "live", "shots", "taken"]
  | _ => []
abbrev gg (K : PySem.W.Frag) (ad : Ad) : Cg where
  K := K
  cls := fun n => match n with
    | 0 => ad.c_Pile
    | _ => 0
  names := namesC
  xa := fun n => match n with
    | 7 => ad.x_NoBox
    | _ => 0
  fns := fun n => match n with
    | _ => 0
structure Txt (K : PySem.W.Frag) (mg : Str → Option Value) (ad : Ad) : Prop where
  F_Pile_init : Fun K "__init__" "Pile.__init__" s_Pile_init ad.a_Pile_init ad.d_Pile_init
  b_Pile_init : Binds K ad.d_Pile_init ["self"] []
  F_Pile_fresh : Fun K "fresh" "Pile.fresh" s_Pile_fresh ad.a_Pile_fresh ad.d_Pile_fresh
  b_Pile_fresh : Binds K ad.d_Pile_fresh ["self", "content"] []
  me_Pile_fresh : Meth K ((gg K ad).cls 0) "fresh" ad.a_Pile_fresh
  F_Pile_leaf : Fun K "leaf" "Pile.leaf" s_Pile_leaf ad.a_Pile_leaf ad.d_Pile_leaf
  b_Pile_leaf : Binds K ad.d_Pile_leaf ["self", "number"] []
  me_Pile_leaf : Meth K ((gg K ad).cls 0) "leaf" ad.a_Pile_leaf
  F_Pile_need : Fun K "need" "Pile.need" s_Pile_need ad.a_Pile_need ad.d_Pile_need
  b_Pile_need : Binds K ad.d_Pile_need ["self", "box"] []
  me_Pile_need : Meth K ((gg K ad).cls 0) "need" ad.a_Pile_need
  F_Pile_hold : Fun K "hold" "Pile.hold" s_Pile_hold ad.a_Pile_hold ad.d_Pile_hold
  b_Pile_hold : Binds K ad.d_Pile_hold ["self", "box"] []
  me_Pile_hold : Meth K ((gg K ad).cls 0) "hold" ad.a_Pile_hold
  F_Pile_branch : Fun K "branch" "Pile.branch" s_Pile_branch ad.a_Pile_branch ad.d_Pile_branch
  b_Pile_branch : Binds K ad.d_Pile_branch ["self", "rows"] []
  me_Pile_branch : Meth K ((gg K ad).cls 0) "branch" ad.a_Pile_branch
  F_l_whole : Fun K "_law_whole" "_law_whole" s_l_whole ad.a_l_whole ad.d_l_whole
  b_l_whole : Binds K ad.d_l_whole ["_law_seen"] []
  m_l_whole : mg "_law_whole" = some (.ref ad.a_l_whole)
  F_l_count : Fun K "_law_count" "_law_count" s_l_count ad.a_l_count ad.d_l_count
  b_l_count : Binds K ad.d_l_count ["_law_seen", "_law_due"] []
  m_l_count : mg "_law_count" = some (.ref ad.a_l_count)
  F_Pile_kept : Fun K "kept" "Pile.kept" s_Pile_kept ad.a_Pile_kept ad.d_Pile_kept
  b_Pile_kept : Binds K ad.d_Pile_kept ["self"] []
  me_Pile_kept : Meth K ((gg K ad).cls 0) "kept" ad.a_Pile_kept
  F_Pile_let_go : Fun K "let_go" "Pile.let_go" s_Pile_let_go ad.a_Pile_let_go ad.d_Pile_let_go
  b_Pile_let_go : Binds K ad.d_Pile_let_go ["self", "box"] []
  me_Pile_let_go : Meth K ((gg K ad).cls 0) "let_go" ad.a_Pile_let_go
  F_Pile_holders : Fun K "holders" "Pile.holders" s_Pile_holders ad.a_Pile_holders ad.d_Pile_holders
  b_Pile_holders : Binds K ad.d_Pile_holders ["self", "box"] []
  me_Pile_holders : Meth K ((gg K ad).cls 0) "holders" ad.a_Pile_holders
  F_l_chain : Fun K "_law_chain" "_law_chain" s_l_chain ad.a_l_chain ad.d_l_chain
  b_l_chain : Binds K ad.d_l_chain ["_law_many", "_law_named"] []
  m_l_chain : mg "_law_chain" = some (.ref ad.a_l_chain)
  F_Pile_content : Fun K "content" "Pile.content" s_Pile_content ad.a_Pile_content ad.d_Pile_content
  b_Pile_content : Binds K ad.d_Pile_content ["self", "box"] []
  me_Pile_content : Meth K ((gg K ad).cls 0) "content" ad.a_Pile_content
  F_l_refused : Fun K "_law_refused" "_law_refused" s_l_refused ad.a_l_refused ad.d_l_refused
  b_l_refused : Binds K ad.d_l_refused ["_law_pile", "_law_box", "_law_good", "_law_cell"] []
  m_l_refused : mg "_law_refused" = some (.ref ad.a_l_refused)
  F_l_rows_by : Fun K "_law_rows_by" "_law_rows_by" s_l_rows_by ad.a_l_rows_by ad.d_l_rows_by
  b_l_rows_by : Binds K ad.d_l_rows_by ["_law_cell", "_law_there"] []
  m_l_rows_by : mg "_law_rows_by" = some (.ref ad.a_l_rows_by)
  F_l_alike : Fun K "_law_alike" "_law_alike" s_l_alike ad.a_l_alike ad.d_l_alike
  b_l_alike : Binds K ad.d_l_alike ["_law_seen", "_law_due"] []
  m_l_alike : mg "_law_alike" = some (.ref ad.a_l_alike)
  F_l_gone : Fun K "_law_gone" "_law_gone" s_l_gone ad.a_l_gone ad.d_l_gone
  b_l_gone : Binds K ad.d_l_gone ["_law_inside", "_law_counts", "_law_box"] []
  m_l_gone : mg "_law_gone" = some (.ref ad.a_l_gone)
  F_l_step : Fun K "_law_step" "_law_step" s_l_step ad.a_l_step ad.d_l_step
  b_l_step : Binds K ad.d_l_step ["_law_pile", "_law_inside", "_law_counts", "_law_made", "_law_cell"] []
  m_l_step : mg "_law_step" = some (.ref ad.a_l_step)
  F_l_as_due : Fun K "_law_as_due" "_law_as_due" s_l_as_due ad.a_l_as_due ad.d_l_as_due
  b_l_as_due : Binds K ad.d_l_as_due ["_law_pile", "_law_inside", "_law_counts", "_law_made"] []
  m_l_as_due : mg "_law_as_due" = some (.ref ad.a_l_as_due)
  F_law : Fun K "law" "law" s_law ad.a_law ad.d_law
  b_law : Binds K ad.d_law ["_law_script"] []
  m_law : mg "law" = some (.ref ad.a_law)
  m_Pile : mg "Pile" = some (.ref ((gg K ad).cls 0))
  cl_Pile : Cls K ((gg K ad).cls 0)
  mk_Pile : Mk K ((gg K ad).cls 0) ad.a_Pile_init
  na_boxes : NoAttr K ((gg K ad).cls 0) "boxes"
  na_counts : NoAttr K ((gg K ad).cls 0) "counts"
  na_made : NoAttr K ((gg K ad).cls 0) "made"
  n_all : mg "all" = none
  n_bool : mg "bool" = none
  n_int : mg "int" = none
  n_isinstance : mg "isinstance" = none
  n_len : mg "len" = none
  n_list : mg "list" = none
  n_max : mg "max" = none
  n_range : mg "range" = none
  n_set : mg "set" = none
  n_sorted : mg "sorted" = none
  n_str : mg "str" = none
  n_tuple : mg "tuple" = none
  m_NoBox : mg "NoBox" = some (.ref ad.x_NoBox)
  x_NoBox : PySem.W.excIn K ad.x_NoBox [.type "ValueError", .type "Exception", .type "BaseException", .type "object"] "ValueError.__new__" = true
  k_NoBox : PySem.W.keepIn K (.ref ad.x_NoBox) = true
  bs_NoBox : PySem.W.subIn K (.ref ad.x_NoBox) (.type "BaseException") = some true
  ty_NoBox : PySem.W.typeIn K (.ref ad.x_NoBox) = some (.type "type")
  ic_NoBox : PySem.W.isClsIn K ad.x_NoBox = true
  hd_NoBox : PySem.W.hasDictIn K ad.x_NoBox = true
  su_NoBox_NoBox : PySem.W.subIn K (.ref ad.x_NoBox) (.ref ad.x_NoBox) = some true
theorem nd_0 : (namesC 0).Nodup := by decide +kernel
theorem ln_0 : (namesC 0).length < 1000 := by decide +kernel
theorem nd_1 : (namesC 1).Nodup := by decide +kernel
theorem ln_1 : (namesC 1).length < 1000 := by decide +kernel
theorem no_need : ("need" : Str) ∉ namesC 0 := by decide +kernel
theorem no_fresh : ("fresh" : Str) ∉ namesC 0 := by decide +kernel
theorem no_leaf : ("leaf" : Str) ∉ namesC 0 := by decide +kernel
theorem no_branch : ("branch" : Str) ∉ namesC 0 := by decide +kernel
theorem no_content : ("content" : Str) ∉ namesC 0 := by decide +kernel
theorem no_hold : ("hold" : Str) ∉ namesC 0 := by decide +kernel
theorem no_holders : ("holders" : Str) ∉ namesC 0 := by decide +kernel
theorem no_kept : ("kept" : Str) ∉ namesC 0 := by decide +kernel
theorem no_let_go : ("let_go" : Str) ∉ namesC 0 := by decide +kernel
theorem no_top : ("top" : Str) ∉ namesC 1 := by decide +kernel
theorem no_turned : ("turned" : Str) ∉ namesC 1 := by decide +kernel
theorem no_put : ("put" : Str) ∉ namesC 1 := by decide +kernel
theorem no_cut : ("cut" : Str) ∉ namesC 1 := by decide +kernel
theorem no_snap : ("snap" : Str) ∉ namesC 1 := by decide +kernel
theorem no_drop : ("drop" : Str) ∉ namesC 1 := by decide +kernel
theorem no_back : ("back" : Str) ∉ namesC 1 := by decide +kernel
theorem no_shot_numbers : ("shot_numbers" : Str) ∉ namesC 1 := by decide +kernel
theorem no_kind : ("kind" : Str) ∉ namesC 1 := by decide +kernel
theorem no_value : ("value" : Str) ∉ namesC 1 := by decide +kernel
theorem no_names : ("names" : Str) ∉ namesC 1 := by decide +kernel
theorem no_changes : ("changes" : Str) ∉ namesC 1 := by decide +kernel
section
variable {P : Program} {w : World} {K : PySem.W.Frag} {mg : Str → Option Value} {base : Heap} {ad : Ad}
theorem sc_Pile_init : FnScope nm_Pile_init ["self"] (defScope s_Pile_init) := ⟨rfl, rfl, rfl, by decide +kernel, rfl, by decide +kernel, by decide +kernel⟩
theorem ok_Pile_init (T : Txt K mg ad) : FnOk P w K mg base (L2N.CX P w) 1 ad.a_Pile_init ad.d_Pile_init ["self"] (spM (gg K ad) 1 m_Pile_init) := by
  refine fn_ok (G := gg K ad) (body := bd_Pile_init) T.F_Pile_init sc_Pile_init rfl rfl rfl (fun cdv A outer s H E hr => ?_)
  have nd := sc_Pile_init.nd
  have hu := hu_of hr
  have hu64 := hr.units
  have tk : L2N.Takes (cx P w K mg base nm_Pile_init "Pile.__init__" s_Pile_init ad.a_Pile_init cdv A outer s H E) (We E) := L2N.takes_of rfl rfl rfl rfl
  have pas : PassesOwn (model P w) (cx P w K mg base nm_Pile_init "Pile.__init__" s_Pile_init ad.a_Pile_init cdv A outer s H E).A (cx P w K mg base nm_Pile_init "Pile.__init__" s_Pile_init ad.a_Pile_init cdv A outer s H E).env (cx P w K mg base nm_Pile_init "Pile.__init__" s_Pile_init ad.a_Pile_init cdv A outer s H E).xe := passes_of rfl
  unfold bd_Pile_init
  exact (mss_cons (ms_fld (C := 0) (i := 0) T.cl_Pile T.na_boxes nd_0 rfl ln_0 (me_var (pv 0)) me_newK rfl)
    (mss_cons (ms_fld (C := 0) (i := 1) T.cl_Pile T.na_counts nd_0 rfl ln_0 (me_var (pv 0)) me_newK rfl)
    (mss_one (ms_fld (C := 0) (i := 2) T.cl_Pile T.na_made nd_0 rfl ln_0 (me_var (pv 0)) me_int rfl))))
theorem sc_Pile_fresh : FnScope nm_Pile_fresh ["self", "content"] (defScope s_Pile_fresh) := ⟨rfl, rfl, rfl, by decide +kernel, rfl, by decide +kernel, by decide +kernel⟩
theorem ok_Pile_fresh (T : Txt K mg ad) : FnOk P w K mg base (L2N.CX P w) 1 ad.a_Pile_fresh ad.d_Pile_fresh ["self", "content"] (spM (gg K ad) 2 m_Pile_fresh) := by
  refine fn_ok (G := gg K ad) (body := bd_Pile_fresh) T.F_Pile_fresh sc_Pile_fresh rfl rfl rfl (fun cdv A outer s H E hr => ?_)
  have nd := sc_Pile_fresh.nd
  have hu := hu_of hr
  have hu64 := hr.units
  have tk : L2N.Takes (cx P w K mg base nm_Pile_fresh "Pile.fresh" s_Pile_fresh ad.a_Pile_fresh cdv A outer s H E) (We E) := L2N.takes_of rfl rfl rfl rfl
  have pas : PassesOwn (model P w) (cx P w K mg base nm_Pile_fresh "Pile.fresh" s_Pile_fresh ad.a_Pile_fresh cdv A outer s H E).A (cx P w K mg base nm_Pile_fresh "Pile.fresh" s_Pile_fresh ad.a_Pile_fresh cdv A outer s H E).env (cx P w K mg base nm_Pile_fresh "Pile.fresh" s_Pile_fresh ad.a_Pile_fresh cdv A outer s H E).xe := passes_of rfl
  unfold bd_Pile_fresh
  exact (mss_cons (ms_fld (C := 0) (i := 2) T.cl_Pile T.na_made nd_0 rfl ln_0 (me_var (pv 0)) (me_bin addD_s op_addX (me_fld (C := 0) (i := 2) T.cl_Pile T.na_made nd_0 rfl (me_var (pv 0))) me_int) rfl)
    (mss_cons (ms_dput hu (me_fld (C := 0) (i := 0) T.cl_Pile T.na_boxes nd_0 rfl (me_var (pv 0))) (me_fld (C := 0) (i := 2) T.cl_Pile T.na_made nd_0 rfl (me_var (pv 0))) (me_var (pv 1)) rfl)
    (mss_cons (ms_dput hu (me_fld (C := 0) (i := 1) T.cl_Pile T.na_counts nd_0 rfl (me_var (pv 0))) (me_fld (C := 0) (i := 2) T.cl_Pile T.na_made nd_0 rfl (me_var (pv 0))) me_int rfl)
    (mss_one (ms_ret (me_fld (C := 0) (i := 2) T.cl_Pile T.na_made nd_0 rfl (me_var (pv 0))))))))
theorem sc_Pile_leaf : FnScope nm_Pile_leaf ["self", "number"] (defScope s_Pile_leaf) := ⟨rfl, rfl, rfl, by decide +kernel, rfl, by decide +kernel, by decide +kernel⟩
theorem ok_Pile_leaf (T : Txt K mg ad) : FnOk P w K mg base (L2N.CX P w) 2 ad.a_Pile_leaf ad.d_Pile_leaf ["self", "number"] (spM (gg K ad) 2 m_Pile_leaf) := by
  refine fn_ok (G := gg K ad) (body := bd_Pile_leaf) T.F_Pile_leaf sc_Pile_leaf rfl rfl rfl (fun cdv A outer s H E hr => ?_)
  have nd := sc_Pile_leaf.nd
  have hu := hu_of hr
  have hu64 := hr.units
  have tk : L2N.Takes (cx P w K mg base nm_Pile_leaf "Pile.leaf" s_Pile_leaf ad.a_Pile_leaf cdv A outer s H E) (We E) := L2N.takes_of rfl rfl rfl rfl
  have pas : PassesOwn (model P w) (cx P w K mg base nm_Pile_leaf "Pile.leaf" s_Pile_leaf ad.a_Pile_leaf cdv A outer s H E).A (cx P w K mg base nm_Pile_leaf "Pile.leaf" s_Pile_leaf ad.a_Pile_leaf cdv A outer s H E).env (cx P w K mg base nm_Pile_leaf "Pile.leaf" s_Pile_leaf ad.a_Pile_leaf cdv A outer s H E).xe := passes_of rfl
  unfold bd_Pile_leaf
  exact (mss_one (ms_ret (me_meth (C := 0) (ok_Pile_fresh T) tk (hr.mono (by decide)) T.b_Pile_fresh T.cl_Pile T.me_Pile_fresh no_fresh (me_var (pv 0)) (ma_cons (me_tup (ma_cons me_str (ma_cons (me_var (pv 1)) ma_nil))) ma_nil))))
theorem sc_Pile_need : FnScope nm_Pile_need ["self", "box"] (defScope s_Pile_need) := ⟨rfl, rfl, rfl, by decide +kernel, rfl, by decide +kernel, by decide +kernel⟩
theorem ok_Pile_need (T : Txt K mg ad) : FnOk P w K mg base (L2N.CX P w) 1 ad.a_Pile_need ad.d_Pile_need ["self", "box"] (spM (gg K ad) 2 m_Pile_need) := by
  refine fn_ok (G := gg K ad) (body := bd_Pile_need) T.F_Pile_need sc_Pile_need rfl rfl rfl (fun cdv A outer s H E hr => ?_)
  have nd := sc_Pile_need.nd
  have hu := hu_of hr
  have hu64 := hr.units
  have tk : L2N.Takes (cx P w K mg base nm_Pile_need "Pile.need" s_Pile_need ad.a_Pile_need cdv A outer s H E) (We E) := L2N.takes_of rfl rfl rfl rfl
  have pas : PassesOwn (model P w) (cx P w K mg base nm_Pile_need "Pile.need" s_Pile_need ad.a_Pile_need cdv A outer s H E).A (cx P w K mg base nm_Pile_need "Pile.need" s_Pile_need ad.a_Pile_need cdv A outer s H E).env (cx P w K mg base nm_Pile_need "Pile.need" s_Pile_need ad.a_Pile_need cdv A outer s H E).xe := passes_of rfl
  unfold bd_Pile_need
  exact (mss_cons (ms_if (PW.pt (mw_or (mt_not (mt_val (me_isi (T := .int) rfl rfl T.n_isinstance (me_var (pv 1)) (pe_bltn rfl T.n_int b_int rfl)))) (mw_or (mt_val (me_isi (T := .bool) rfl rfl T.n_isinstance (me_var (pv 1)) (pe_bltn rfl T.n_bool b_bool rfl))) (mw_or1 (mt_dnin hu (me_var (pv 1)) (me_fld (C := 0) (i := 0) T.cl_Pile T.na_boxes nd_0 rfl (me_var (pv 0))))))))
    (mss_one (ms_raise (c := 7) rfl tk (L2N.pmk_own PySem.F.excBase_ValueError T.x_NoBox T.m_NoBox T.k_NoBox (raises_own T.bs_NoBox T.ty_NoBox) rfl)))
    mss_nil)
    (mss_one (ms_ret (me_var (pv 1)))))
theorem sc_Pile_hold : FnScope nm_Pile_hold ["self", "box"] (defScope s_Pile_hold) := ⟨rfl, rfl, rfl, by decide +kernel, rfl, by decide +kernel, by decide +kernel⟩
theorem ok_Pile_hold (T : Txt K mg ad) : FnOk P w K mg base (L2N.CX P w) 2 ad.a_Pile_hold ad.d_Pile_hold ["self", "box"] (spM (gg K ad) 2 m_Pile_hold) := by
  refine fn_ok (G := gg K ad) (body := bd_Pile_hold) T.F_Pile_hold sc_Pile_hold rfl rfl rfl (fun cdv A outer s H E hr => ?_)
  have nd := sc_Pile_hold.nd
  have hu := hu_of hr
  have hu64 := hr.units
  have tk : L2N.Takes (cx P w K mg base nm_Pile_hold "Pile.hold" s_Pile_hold ad.a_Pile_hold cdv A outer s H E) (We E) := L2N.takes_of rfl rfl rfl rfl
  have pas : PassesOwn (model P w) (cx P w K mg base nm_Pile_hold "Pile.hold" s_Pile_hold ad.a_Pile_hold cdv A outer s H E).A (cx P w K mg base nm_Pile_hold "Pile.hold" s_Pile_hold ad.a_Pile_hold cdv A outer s H E).env (cx P w K mg base nm_Pile_hold "Pile.hold" s_Pile_hold ad.a_Pile_hold cdv A outer s H E).xe := passes_of rfl
  unfold bd_Pile_hold
  exact (mss_cons (ms_set (i := 2) (ps_set nd rfl (Or.inl rfl) (me_meth (C := 0) (ok_Pile_need T) tk (hr.mono (by decide)) T.b_Pile_need T.cl_Pile T.me_Pile_need no_need (me_var (pv 0)) (ma_cons (me_var (pv 1)) ma_nil))))
    (mss_one (ms_dput hu (me_fld (C := 0) (i := 1) T.cl_Pile T.na_counts nd_0 rfl (me_var (pv 0))) (me_var (pv 2)) (me_bin addD_s op_addX (me_dget hu (me_fld (C := 0) (i := 1) T.cl_Pile T.na_counts nd_0 rfl (me_var (pv 0))) (me_var (pv 2)) (fun _ _ => rfl)) me_int) rfl)))
theorem sc_Pile_branch : FnScope nm_Pile_branch ["self", "rows"] (defScope s_Pile_branch) := ⟨rfl, rfl, rfl, by decide +kernel, rfl, by decide +kernel, by decide +kernel⟩
theorem ok_Pile_branch (T : Txt K mg ad) : FnOk P w K mg base (L2N.CX P w) 3 ad.a_Pile_branch ad.d_Pile_branch ["self", "rows"] (spM (gg K ad) 2 m_Pile_branch) := by
  refine fn_ok (G := gg K ad) (body := bd_Pile_branch) T.F_Pile_branch sc_Pile_branch rfl rfl rfl (fun cdv A outer s H E hr => ?_)
  have nd := sc_Pile_branch.nd
  have hu := hu_of hr
  have hu64 := hr.units
  have tk : L2N.Takes (cx P w K mg base nm_Pile_branch "Pile.branch" s_Pile_branch ad.a_Pile_branch cdv A outer s H E) (We E) := L2N.takes_of rfl rfl rfl rfl
  have pas : PassesOwn (model P w) (cx P w K mg base nm_Pile_branch "Pile.branch" s_Pile_branch ad.a_Pile_branch cdv A outer s H E).A (cx P w K mg base nm_Pile_branch "Pile.branch" s_Pile_branch ad.a_Pile_branch cdv A outer s H E).env (cx P w K mg base nm_Pile_branch "Pile.branch" s_Pile_branch ad.a_Pile_branch cdv A outer s H E).xe := passes_of rfl
  unfold bd_Pile_branch
  unfold lf_Pile_branch_2
  unfold lf_Pile_branch_1
  exact (mss_cons (ms_for pas rfl (mi_seq rfl (me_var (pv 1))) (mg_2 (i := 2) (j := 3) rfl rfl (pg_name nd rfl (Or.inl rfl)) (pg_name nd rfl (Or.inl rfl))) (tg2_s 2 3)
    (mss_one (ms_expr (me_meth (C := 0) (ok_Pile_need T) tk (hr.mono (by decide)) T.b_Pile_need T.cl_Pile T.me_Pile_need no_need (me_var (pv 0)) (ma_cons (me_var (pv 3)) ma_nil)))))
    (mss_cons (ms_for pas rfl (mi_seq rfl (me_var (pv 1))) (mg_2 (i := 2) (j := 3) rfl rfl (pg_name nd rfl (Or.inl rfl)) (pg_name nd rfl (Or.inl rfl))) (tg2_s 2 3)
    (mss_one (ms_expr (me_meth (C := 0) (ok_Pile_hold T) tk (hr.mono (by decide)) T.b_Pile_hold T.cl_Pile T.me_Pile_hold no_hold (me_var (pv 0)) (ma_cons (me_var (pv 3)) ma_nil)))))
    (mss_one (ms_ret (me_meth (C := 0) (ok_Pile_fresh T) tk (hr.mono (by decide)) T.b_Pile_fresh T.cl_Pile T.me_Pile_fresh no_fresh (me_var (pv 0)) (ma_cons (me_tup (ma_cons me_str (ma_cons (me_callTy listD_s call_list_of rfl T.n_list b_list (ma_cons (me_var (pv 1)) ma_nil)) ma_nil))) ma_nil))))))
theorem ok_Pile_branchL (T : Txt K mg ad) : FnOk P w K mg base (L2N.CX P w) 3 ad.a_Pile_branch ad.d_Pile_branch ["self", "rows"] (spM (gg K ad) 2 m_Pile_branchL) := by
  refine fn_ok (G := gg K ad) (body := bd_Pile_branchL) T.F_Pile_branch sc_Pile_branch rfl rfl rfl (fun cdv A outer s H E hr => ?_)
  have nd := sc_Pile_branch.nd
  have hu := hu_of hr
  have hu64 := hr.units
  have tk : L2N.Takes (cx P w K mg base nm_Pile_branch "Pile.branch" s_Pile_branch ad.a_Pile_branch cdv A outer s H E) (We E) := L2N.takes_of rfl rfl rfl rfl
  have pas : PassesOwn (model P w) (cx P w K mg base nm_Pile_branch "Pile.branch" s_Pile_branch ad.a_Pile_branch cdv A outer s H E).A (cx P w K mg base nm_Pile_branch "Pile.branch" s_Pile_branch ad.a_Pile_branch cdv A outer s H E).env (cx P w K mg base nm_Pile_branch "Pile.branch" s_Pile_branch ad.a_Pile_branch cdv A outer s H E).xe := passes_of rfl
  unfold bd_Pile_branchL
  unfold lf_Pile_branchL_2
  unfold lf_Pile_branchL_1
  exact (mss_cons (ms_forL rfl pas rfl (me_var (pv 1)) (mg_2 (i := 2) (j := 3) rfl rfl (pg_name nd rfl (Or.inl rfl)) (pg_name nd rfl (Or.inl rfl))) (tg2_s 2 3)
    (mss_one (ms_expr (me_meth (C := 0) (ok_Pile_need T) tk (hr.mono (by decide)) T.b_Pile_need T.cl_Pile T.me_Pile_need no_need (me_var (pv 0)) (ma_cons (me_var (pv 3)) ma_nil)))))
    (mss_cons (ms_forL rfl pas rfl (me_var (pv 1)) (mg_2 (i := 2) (j := 3) rfl rfl (pg_name nd rfl (Or.inl rfl)) (pg_name nd rfl (Or.inl rfl))) (tg2_s 2 3)
    (mss_one (ms_expr (me_meth (C := 0) (ok_Pile_hold T) tk (hr.mono (by decide)) T.b_Pile_hold T.cl_Pile T.me_Pile_hold no_hold (me_var (pv 0)) (ma_cons (me_var (pv 3)) ma_nil)))))
    (mss_one (ms_ret (me_meth (C := 0) (ok_Pile_fresh T) tk (hr.mono (by decide)) T.b_Pile_fresh T.cl_Pile T.me_Pile_fresh no_fresh (me_var (pv 0)) (ma_cons (me_tup (ma_cons me_str (ma_cons (me_callTy listD_s call_list_of rfl T.n_list b_list (ma_cons (me_var (pv 1)) ma_nil)) ma_nil))) ma_nil))))))
theorem sc_l_whole : FnScope nm_l_whole ["_law_seen"] (defScope s_l_whole) := ⟨rfl, rfl, rfl, by decide +kernel, rfl, by decide +kernel, by decide +kernel⟩
theorem ok_l_whole (T : Txt K mg ad) : FnOk P w K mg base (L2N.CX P w) 1 ad.a_l_whole ad.d_l_whole ["_law_seen"] (spM (gg K ad) 1 m_l_whole) := by
  refine fn_ok (G := gg K ad) (body := bd_l_whole) T.F_l_whole sc_l_whole rfl rfl rfl (fun cdv A outer s H E hr => ?_)
  have nd := sc_l_whole.nd
  have hu := hu_of hr
  have hu64 := hr.units
  have tk : L2N.Takes (cx P w K mg base nm_l_whole "_law_whole" s_l_whole ad.a_l_whole cdv A outer s H E) (We E) := L2N.takes_of rfl rfl rfl rfl
  have pas : PassesOwn (model P w) (cx P w K mg base nm_l_whole "_law_whole" s_l_whole ad.a_l_whole cdv A outer s H E).A (cx P w K mg base nm_l_whole "_law_whole" s_l_whole ad.a_l_whole cdv A outer s H E).env (cx P w K mg base nm_l_whole "_law_whole" s_l_whole ad.a_l_whole cdv A outer s H E).xe := passes_of rfl
  unfold bd_l_whole
  exact (mss_one (ms_ret (me_and (me_isi (T := .int) rfl rfl T.n_isinstance (me_var (pv 0)) (pe_bltn rfl T.n_int b_int rfl)) (me_one (me_not (me_isi (T := .bool) rfl rfl T.n_isinstance (me_var (pv 0)) (pe_bltn rfl T.n_bool b_bool rfl)))))))
theorem sc_l_count : FnScope nm_l_count ["_law_seen", "_law_due"] (defScope s_l_count) := ⟨rfl, rfl, rfl, by decide +kernel, rfl, by decide +kernel, by decide +kernel⟩
theorem ok_l_count (T : Txt K mg ad) : FnOk P w K mg base (L2N.CX P w) 2 ad.a_l_count ad.d_l_count ["_law_seen", "_law_due"] (spM (gg K ad) 2 m_l_count) := by
  refine fn_ok (G := gg K ad) (body := bd_l_count) T.F_l_count sc_l_count rfl rfl rfl (fun cdv A outer s H E hr => ?_)
  have nd := sc_l_count.nd
  have hu := hu_of hr
  have hu64 := hr.units
  have tk : L2N.Takes (cx P w K mg base nm_l_count "_law_count" s_l_count ad.a_l_count cdv A outer s H E) (We E) := L2N.takes_of rfl rfl rfl rfl
  have pas : PassesOwn (model P w) (cx P w K mg base nm_l_count "_law_count" s_l_count ad.a_l_count cdv A outer s H E).A (cx P w K mg base nm_l_count "_law_count" s_l_count ad.a_l_count cdv A outer s H E).env (cx P w K mg base nm_l_count "_law_count" s_l_count ad.a_l_count cdv A outer s H E).xe := passes_of rfl
  unfold bd_l_count
  exact (mss_one (ms_ret (me_and (me_call (ok_l_whole T) tk (hr.mono (by decide)) rfl T.m_l_whole T.F_l_whole.kp T.b_l_whole (ma_cons (me_var (pv 0)) ma_nil)) (me_one (me_cmp eqD_s (op_eqX hu64) (me_var (pv 0)) (me_var (pv 1)) (nomark _))))))
theorem sc_Pile_kept : FnScope nm_Pile_kept ["self"] (defScope s_Pile_kept) := ⟨rfl, rfl, rfl, by decide +kernel, rfl, by decide +kernel, by decide +kernel⟩
theorem ok_Pile_kept (T : Txt K mg ad) : FnOk P w K mg base (L2N.CX P w) 1 ad.a_Pile_kept ad.d_Pile_kept ["self"] (spM (gg K ad) 1 m_Pile_kept) := by
  refine fn_ok (G := gg K ad) (body := bd_Pile_kept) T.F_Pile_kept sc_Pile_kept rfl rfl rfl (fun cdv A outer s H E hr => ?_)
  have nd := sc_Pile_kept.nd
  have hu := hu_of hr
  have hu64 := hr.units
  have tk : L2N.Takes (cx P w K mg base nm_Pile_kept "Pile.kept" s_Pile_kept ad.a_Pile_kept cdv A outer s H E) (We E) := L2N.takes_of rfl rfl rfl rfl
  have pas : PassesOwn (model P w) (cx P w K mg base nm_Pile_kept "Pile.kept" s_Pile_kept ad.a_Pile_kept cdv A outer s H E).A (cx P w K mg base nm_Pile_kept "Pile.kept" s_Pile_kept ad.a_Pile_kept cdv A outer s H E).env (cx P w K mg base nm_Pile_kept "Pile.kept" s_Pile_kept ad.a_Pile_kept cdv A outer s H E).xe := passes_of rfl
  unfold bd_Pile_kept
  exact (mss_one (ms_ret (me_callB sortKiD_s (call_sortKF flInt Sum.inl (fun _ => rfl) rfl hu64) rfl T.n_sorted b_sorted (ma_cons (me_fld (C := 0) (i := 0) T.cl_Pile T.na_boxes nd_0 rfl (me_var (pv 0))) ma_nil))))
theorem sc_Pile_let_go : FnScope nm_Pile_let_go ["self", "box"] (defScope s_Pile_let_go) := ⟨rfl, rfl, rfl, by decide +kernel, rfl, by decide +kernel, by decide +kernel⟩
theorem ok_Pile_let_go (T : Txt K mg ad) : FnOk P w K mg base (L2N.CX P w) 2 ad.a_Pile_let_go ad.d_Pile_let_go ["self", "box"] (spM (gg K ad) 2 m_Pile_let_go) := by
  refine fn_ok (G := gg K ad) (body := bd_Pile_let_go) T.F_Pile_let_go sc_Pile_let_go rfl rfl rfl (fun cdv A outer s H E hr => ?_)
  have nd := sc_Pile_let_go.nd
  have hu := hu_of hr
  have hu64 := hr.units
  have tk : L2N.Takes (cx P w K mg base nm_Pile_let_go "Pile.let_go" s_Pile_let_go ad.a_Pile_let_go cdv A outer s H E) (We E) := L2N.takes_of rfl rfl rfl rfl
  have pas : PassesOwn (model P w) (cx P w K mg base nm_Pile_let_go "Pile.let_go" s_Pile_let_go ad.a_Pile_let_go cdv A outer s H E).A (cx P w K mg base nm_Pile_let_go "Pile.let_go" s_Pile_let_go ad.a_Pile_let_go cdv A outer s H E).env (cx P w K mg base nm_Pile_let_go "Pile.let_go" s_Pile_let_go ad.a_Pile_let_go cdv A outer s H E).xe := passes_of rfl
  unfold bd_Pile_let_go
  unfold lw_Pile_let_go_2
  unfold lf_Pile_let_go_1
  exact (mss_cons (ms_set (i := 2) (ps_set nd rfl (Or.inl rfl) (me_lstN (ma_cons (me_meth (C := 0) (ok_Pile_need T) tk (hr.mono (by decide)) T.b_Pile_need T.cl_Pile T.me_Pile_need no_need (me_var (pv 0)) (ma_cons (me_var (pv 1)) ma_nil)) ma_nil))))
    (mss_cons (ms_set (i := 3) (ps_set nd rfl (Or.inl rfl) me_int))
    (mss_cons (ms_while (n := fuelN) pas (mt_truth rfl (me_var (pv 2)))
    (mss_cons (ms_set (i := 4) (ps_set nd rfl (Or.inl rfl) (me_pop rfl (pe_bm0 PySem.F.plainAttrs_list PySem.F.slot_list_pop PySem.F.type_list_pop mt_pop (me_var (pv 2))))))
    (mss_cons (ms_set (i := 5) (ps_set nd rfl (Or.inl rfl) (me_callB maxD_s (call_max2 rfl) rfl T.n_max b_max (ma_cons me_int (ma_cons (me_bin subD_s op_sub (me_dget2 hu (me_fld (C := 0) (i := 1) T.cl_Pile T.na_counts nd_0 rfl (me_var (pv 0))) (me_var (pv 4)) me_int ⟨rfl, rfl, rfl, rfl⟩) me_int) ma_nil)))))
    (mss_one (ms_if (mt_cmp gtD_s op_gt (me_var (pv 5)) me_int (nomark _))
    (mss_one (ms_dput hu (me_fld (C := 0) (i := 1) T.cl_Pile T.na_counts nd_0 rfl (me_var (pv 0))) (me_var (pv 4)) (me_var (pv 5)) rfl))
    (mss_one (ms_if (mt_din hu (me_var (pv 4)) (me_fld (C := 0) (i := 0) T.cl_Pile T.na_boxes nd_0 rfl (me_var (pv 0))))
    (mss_cons (ms_set (i := 6) (ps_set nd rfl (Or.inl rfl) (me_dpop (me_fld (C := 0) (i := 0) T.cl_Pile T.na_boxes nd_0 rfl (me_var (pv 0))) (me_var (pv 4)) ⟨rfl, rfl, rfl, rfl⟩)))
    (mss_cons (ms_expr (me_dpop (me_fld (C := 0) (i := 1) T.cl_Pile T.na_counts nd_0 rfl (me_var (pv 0))) (me_var (pv 4)) ⟨rfl, rfl, rfl, rfl⟩))
    (mss_cons (ms_set (i := 3) (ps_set nd rfl (Or.inl rfl) (me_bin addD_s op_addX (me_var (pv 3)) me_int)))
    (mss_one (ms_if (mt_cmp eqD_s (op_eqX hu64) (me_ix rfl (me_var (pv 6)) me_int (fun _ _ => rfl)) me_str (nomark _))
    (mss_one (ms_for pas rfl (mi_seq rfl (me_ix rfl (me_var (pv 6)) me_int (fun _ _ => rfl))) (mg_2 (i := 7) (j := 8) rfl rfl (pg_name nd rfl (Or.inl rfl)) (pg_name nd rfl (Or.inl rfl))) (tg2_s 7 8)
    (mss_one (ms_expr (me_app rfl (me_var (pv 2)) (me_var (pv 8)) rfl (fun h => pe_bm PySem.F.plainAttrs_list PySem.F.slot_list_append PySem.F.type_list_append mt_append (me_var (pv 2)) h))))))
    mss_nil)))))
    mss_nil)))))))
    (mss_one (ms_ret (me_var (pv 3)))))))
theorem sc_Pile_holders : FnScope nm_Pile_holders ["self", "box"] (defScope s_Pile_holders) := ⟨rfl, rfl, rfl, by decide +kernel, rfl, by decide +kernel, by decide +kernel⟩
theorem ok_Pile_holders (T : Txt K mg ad) : FnOk P w K mg base (L2N.CX P w) 2 ad.a_Pile_holders ad.d_Pile_holders ["self", "box"] (spM (gg K ad) 2 m_Pile_holders) := by
  refine fn_ok (G := gg K ad) (body := bd_Pile_holders) T.F_Pile_holders sc_Pile_holders rfl rfl rfl (fun cdv A outer s H E hr => ?_)
  have nd := sc_Pile_holders.nd
  have hu := hu_of hr
  have hu64 := hr.units
  have tk : L2N.Takes (cx P w K mg base nm_Pile_holders "Pile.holders" s_Pile_holders ad.a_Pile_holders cdv A outer s H E) (We E) := L2N.takes_of rfl rfl rfl rfl
  have pas : PassesOwn (model P w) (cx P w K mg base nm_Pile_holders "Pile.holders" s_Pile_holders ad.a_Pile_holders cdv A outer s H E).A (cx P w K mg base nm_Pile_holders "Pile.holders" s_Pile_holders ad.a_Pile_holders cdv A outer s H E).env (cx P w K mg base nm_Pile_holders "Pile.holders" s_Pile_holders ad.a_Pile_holders cdv A outer s H E).xe := passes_of rfl
  unfold bd_Pile_holders
  exact (mss_one (ms_ret (me_dget hu (me_fld (C := 0) (i := 1) T.cl_Pile T.na_counts nd_0 rfl (me_var (pv 0))) (me_meth (C := 0) (ok_Pile_need T) tk (hr.mono (by decide)) T.b_Pile_need T.cl_Pile T.me_Pile_need no_need (me_var (pv 0)) (ma_cons (me_var (pv 1)) ma_nil)) (fun _ _ => rfl))))
theorem sc_l_chain : FnScope nm_l_chain ["_law_many", "_law_named"] (defScope s_l_chain) := ⟨rfl, rfl, rfl, by decide +kernel, rfl, by decide +kernel, by decide +kernel⟩
theorem ok_l_chain (T : Txt K mg ad) : FnOk P w K mg base (L2N.CX P w) 4 ad.a_l_chain ad.d_l_chain ["_law_many", "_law_named"] (spM (gg K ad) 2 m_l_chain) := by
  refine fn_ok (G := gg K ad) (body := bd_l_chain) T.F_l_chain sc_l_chain rfl rfl rfl (fun cdv A outer s H E hr => ?_)
  have nd := sc_l_chain.nd
  have hu := hu_of hr
  have hu64 := hr.units
  have tk : L2N.Takes (cx P w K mg base nm_l_chain "_law_chain" s_l_chain ad.a_l_chain cdv A outer s H E) (We E) := L2N.takes_of rfl rfl rfl rfl
  have pas : PassesOwn (model P w) (cx P w K mg base nm_l_chain "_law_chain" s_l_chain ad.a_l_chain cdv A outer s H E).A (cx P w K mg base nm_l_chain "_law_chain" s_l_chain ad.a_l_chain cdv A outer s H E).env (cx P w K mg base nm_l_chain "_law_chain" s_l_chain ad.a_l_chain cdv A outer s H E).xe := passes_of rfl
  unfold bd_l_chain
  unfold le_l_chain_3
  unfold lf_l_chain_2
  unfold le_l_chain_1
  exact (mss_cons (ms_set (i := 2) (ps_set nd rfl (Or.inl rfl) (me_make0 (C := 0) T.mk_Pile (ok_Pile_init T) (hr.mono (by decide)) rfl T.m_Pile T.b_Pile_init)))
    (mss_cons (ms_set (i := 3) (ps_set nd rfl (Or.inr rfl) (me_meth (C := 0) (ok_Pile_leaf T) tk (hr.mono (by decide)) T.b_Pile_leaf T.cl_Pile T.me_Pile_leaf no_leaf (me_var (pv 2)) (ma_cons me_int ma_nil))))
    (mss_cons (ms_for pas rfl (mi_range1 rfl T.n_range (ma_cons (me_var (pv 0)) ma_nil)) (pg_name (i := 4) nd rfl (Or.inl rfl)) (tgN_s 4)
    (mss_one (ms_set (i := 3) (ps_set nd rfl (Or.inr rfl) (me_meth (C := 0) (ok_Pile_branch T) tk (hr.mono (by decide)) T.b_Pile_branch T.cl_Pile T.me_Pile_branch no_branch (me_var (pv 2)) (ma_cons (me_lc (j := 5) rfl nd (mi_range1 rfl T.n_range (ma_cons (me_var (pv 1)) ma_nil)) (blkOk_by (N := nm_l_chain) (sc := defScope s_l_chain) (own := [("_law_at", 5)]) (by decide +kernel)) (fun _ _ _ _ _ => pg_name (i := 5) nd rfl (Or.inl rfl)) (fun _ _ _ _ _ => mts_nil) (fun _ _ _ _ _ => (me_tup (ma_cons (me_ix rfl me_str (me_var (pv 5)) (fun _ _ => rfl)) (ma_cons (me_var (pv 3)) ma_nil))))) ma_nil))))))
    (mss_cons (ms_if (PW.pt (mw_or (mt_cmp neD_s (op_neX hu64) (me_meth0 (C := 0) (ok_Pile_kept T) tk (hr.mono (by decide)) T.b_Pile_kept T.cl_Pile T.me_Pile_kept no_kept (me_var (pv 2))) (me_lc (j := 4) rfl nd (mi_range1 rfl T.n_range (ma_cons (me_bin addD_s op_addX (me_var (pv 0)) me_int) ma_nil)) (blkOk_by (N := nm_l_chain) (sc := defScope s_l_chain) (own := [("_law_k", 4)]) (by decide +kernel)) (fun _ _ _ _ _ => pg_name (i := 4) nd rfl (Or.inl rfl)) (fun _ _ _ _ _ => mts_nil) (fun _ _ _ _ _ => (me_bin addD_s op_addX (me_var (pv 4)) me_int))) (nomark _)) (mw_or1 (mt_not (mt_val (me_call (ok_l_count T) tk (hr.mono (by decide)) rfl T.m_l_count T.F_l_count.kp T.b_l_count (ma_cons (me_meth (C := 0) (ok_Pile_holders T) tk (hr.mono (by decide)) T.b_Pile_holders T.cl_Pile T.me_Pile_holders no_holders (me_var (pv 2)) (ma_cons me_int ma_nil)) (ma_cons (me_bin mulD_s op_mulX' (me_var (pv 1)) (me_callTy intD_s call_int1 rfl T.n_int b_int (ma_cons (me_cmp gtD_s op_gt (me_var (pv 0)) me_int (nomark _)) ma_nil))) ma_nil))))))))
    (mss_one (ms_ret me_bl))
    mss_nil)
    (mss_one (ms_ret (me_and (me_call (ok_l_count T) tk (hr.mono (by decide)) rfl T.m_l_count T.F_l_count.kp T.b_l_count (ma_cons (me_meth (C := 0) (ok_Pile_let_go T) tk (hr.mono (by decide)) T.b_Pile_let_go T.cl_Pile T.me_Pile_let_go no_let_go (me_var (pv 2)) (ma_cons (me_var (pv 3)) ma_nil)) (ma_cons (me_bin addD_s op_addX (me_var (pv 0)) me_int) ma_nil))) (me_and (me_cmp eqD_s (op_eqX hu64) (me_meth0 (C := 0) (ok_Pile_kept T) tk (hr.mono (by decide)) T.b_Pile_kept T.cl_Pile T.me_Pile_kept no_kept (me_var (pv 2))) (me_lst ma_nil) (nomark _)) (me_one (me_call (ok_l_count T) tk (hr.mono (by decide)) rfl T.m_l_count T.F_l_count.kp T.b_l_count (ma_cons (me_fld (C := 0) (i := 2) T.cl_Pile T.na_made nd_0 rfl (me_var (pv 2))) (ma_cons (me_bin addD_s op_addX (me_var (pv 0)) me_int) ma_nil))))))))))))
theorem sc_Pile_content : FnScope nm_Pile_content ["self", "box"] (defScope s_Pile_content) := ⟨rfl, rfl, rfl, by decide +kernel, rfl, by decide +kernel, by decide +kernel⟩
theorem ok_Pile_content (T : Txt K mg ad) : FnOk P w K mg base (L2N.CX P w) 2 ad.a_Pile_content ad.d_Pile_content ["self", "box"] (spM (gg K ad) 2 m_Pile_content) := by
  refine fn_ok (G := gg K ad) (body := bd_Pile_content) T.F_Pile_content sc_Pile_content rfl rfl rfl (fun cdv A outer s H E hr => ?_)
  have nd := sc_Pile_content.nd
  have hu := hu_of hr
  have hu64 := hr.units
  have tk : L2N.Takes (cx P w K mg base nm_Pile_content "Pile.content" s_Pile_content ad.a_Pile_content cdv A outer s H E) (We E) := L2N.takes_of rfl rfl rfl rfl
  have pas : PassesOwn (model P w) (cx P w K mg base nm_Pile_content "Pile.content" s_Pile_content ad.a_Pile_content cdv A outer s H E).A (cx P w K mg base nm_Pile_content "Pile.content" s_Pile_content ad.a_Pile_content cdv A outer s H E).env (cx P w K mg base nm_Pile_content "Pile.content" s_Pile_content ad.a_Pile_content cdv A outer s H E).xe := passes_of rfl
  unfold bd_Pile_content
  exact (mss_cons (ms_set (i := 2) (ps_set nd rfl (Or.inl rfl) (me_dget hu (me_fld (C := 0) (i := 0) T.cl_Pile T.na_boxes nd_0 rfl (me_var (pv 0))) (me_meth (C := 0) (ok_Pile_need T) tk (hr.mono (by decide)) T.b_Pile_need T.cl_Pile T.me_Pile_need no_need (me_var (pv 0)) (ma_cons (me_var (pv 1)) ma_nil)) (fun _ _ => rfl))))
    (mss_cons (ms_if (mt_cmp eqD_s (op_eqX hu64) (me_ix rfl (me_var (pv 2)) me_int (fun _ _ => rfl)) me_str (nomark _))
    (mss_one (ms_ret (me_var (pv 2))))
    mss_nil)
    (mss_one (ms_ret (me_tup (ma_cons me_str (ma_cons (me_callTy listD_s call_list_of rfl T.n_list b_list (ma_cons (me_ix rfl (me_var (pv 2)) me_int (fun _ _ => rfl)) ma_nil)) ma_nil)))))))
theorem ok_Pile_contentN (T : Txt K mg ad) : FnOk P w K mg base (L2N.CX P w) 2 ad.a_Pile_content ad.d_Pile_content ["self", "box"] (spM (gg K ad) 2 m_Pile_contentN) := by
  refine fn_ok (G := gg K ad) (body := bd_Pile_contentN) T.F_Pile_content sc_Pile_content rfl rfl rfl (fun cdv A outer s H E hr => ?_)
  have nd := sc_Pile_content.nd
  have hu := hu_of hr
  have hu64 := hr.units
  have tk : L2N.Takes (cx P w K mg base nm_Pile_content "Pile.content" s_Pile_content ad.a_Pile_content cdv A outer s H E) (We E) := L2N.takes_of rfl rfl rfl rfl
  have pas : PassesOwn (model P w) (cx P w K mg base nm_Pile_content "Pile.content" s_Pile_content ad.a_Pile_content cdv A outer s H E).A (cx P w K mg base nm_Pile_content "Pile.content" s_Pile_content ad.a_Pile_content cdv A outer s H E).env (cx P w K mg base nm_Pile_content "Pile.content" s_Pile_content ad.a_Pile_content cdv A outer s H E).xe := passes_of rfl
  unfold bd_Pile_contentN
  exact (mss_cons (ms_set (i := 2) (ps_set nd rfl (Or.inl rfl) (me_dget hu (me_fld (C := 0) (i := 0) T.cl_Pile T.na_boxes nd_0 rfl (me_var (pv 0))) (me_meth (C := 0) (ok_Pile_need T) tk (hr.mono (by decide)) T.b_Pile_need T.cl_Pile T.me_Pile_need no_need (me_var (pv 0)) (ma_cons (me_var (pv 1)) ma_nil)) (fun _ _ => rfl))))
    (mss_cons (ms_if (mt_cmp eqD_s (op_eqX hu64) (me_ix rfl (me_var (pv 2)) me_int (fun _ _ => rfl)) me_str (nomark _))
    (mss_one (ms_ret (me_var (pv 2))))
    mss_nil)
    (mss_one (ms_ret (me_tup (ma_cons me_str (ma_cons (me_callTy listN_s call_list_of rfl T.n_list b_list (ma_cons (me_ix rfl (me_var (pv 2)) me_int (fun _ _ => rfl)) ma_nil)) ma_nil)))))))
theorem sc_l_refused : FnScope nm_l_refused ["_law_pile", "_law_box", "_law_good", "_law_cell"] (defScope s_l_refused) := ⟨rfl, rfl, rfl, by decide +kernel, rfl, by decide +kernel, by decide +kernel⟩
theorem ok_l_refused (T : Txt K mg ad) : FnOk P w K mg base (L2N.CX P w) 4 ad.a_l_refused ad.d_l_refused ["_law_pile", "_law_box", "_law_good", "_law_cell"] (spM (gg K ad) 4 m_l_refused) := by
  refine fn_ok (G := gg K ad) (body := bd_l_refused) T.F_l_refused sc_l_refused rfl rfl rfl (fun cdv A outer s H E hr => ?_)
  have nd := sc_l_refused.nd
  have hu := hu_of hr
  have hu64 := hr.units
  have tk : L2N.Takes (cx P w K mg base nm_l_refused "_law_refused" s_l_refused ad.a_l_refused cdv A outer s H E) (We E) := L2N.takes_of rfl rfl rfl rfl
  have pas : PassesOwn (model P w) (cx P w K mg base nm_l_refused "_law_refused" s_l_refused ad.a_l_refused cdv A outer s H E).A (cx P w K mg base nm_l_refused "_law_refused" s_l_refused ad.a_l_refused cdv A outer s H E).env (cx P w K mg base nm_l_refused "_law_refused" s_l_refused ad.a_l_refused cdv A outer s H E).xe := passes_of rfl
  unfold bd_l_refused
  exact (mss_cons (ms_try rfl rfl tk
    (fun W pn xe tk pas => (mss_one (ms_if (mt_cmp eqD_s (op_eqX hu64) (me_bin modD_s op_mod (me_var (pv 3)) me_int) me_int (nomark _))
    (mss_one (ms_expr (me_meth (C := 0) (ok_Pile_content T) tk (hr.mono (by decide)) T.b_Pile_content T.cl_Pile T.me_Pile_content no_content (me_var (pv 0)) (ma_cons (me_var (pv 1)) ma_nil))))
    (mss_one (ms_if (mt_cmp eqD_s (op_eqX hu64) (me_bin modD_s op_mod (me_var (pv 3)) me_int) me_int (nomark _))
    (mss_one (ms_expr (me_meth (C := 0) (ok_Pile_let_go T) tk (hr.mono (by decide)) T.b_Pile_let_go T.cl_Pile T.me_Pile_let_go no_let_go (me_var (pv 0)) (ma_cons (me_var (pv 1)) ma_nil))))
    (mss_one (ms_if (mt_cmp eqD_s (op_eqX hu64) (me_bin modD_s op_mod (me_var (pv 3)) me_int) me_int (nomark _))
    (mss_one (ms_expr (me_meth (C := 0) (ok_Pile_hold T) tk (hr.mono (by decide)) T.b_Pile_hold T.cl_Pile T.me_Pile_hold no_hold (me_var (pv 0)) (ma_cons (me_var (pv 1)) ma_nil))))
    (mss_one (ms_if (mt_cmp eqD_s (op_eqX hu64) (me_bin modD_s op_mod (me_var (pv 3)) me_int) me_int (nomark _))
    (mss_one (ms_expr (me_meth (C := 0) (ok_Pile_holders T) tk (hr.mono (by decide)) T.b_Pile_holders T.cl_Pile T.me_Pile_holders no_holders (me_var (pv 0)) (ma_cons (me_var (pv 1)) ma_nil))))
    (mss_one (ms_expr (me_meth (C := 0) (ok_Pile_branch T) tk (hr.mono (by decide)) T.b_Pile_branch T.cl_Pile T.me_Pile_branch no_branch (me_var (pv 0)) (ma_cons (me_lst (ma_cons (me_tup (ma_cons me_str (ma_cons (me_var (pv 2)) ma_nil))) (ma_cons (me_tup (ma_cons me_str (ma_cons (me_var (pv 1)) ma_nil))) (ma_cons (me_tup (ma_cons me_str (ma_cons (me_var (pv 2)) ma_nil))) ma_nil)))) ma_nil)))))))))))))
    (.cons ⟨rfl, by decide, .inl T.m_NoBox⟩ (fun a oe pn => (ks_ret (k_c pe_bl))) .nil)
    (.hit (c := 7) rfl (.hit (PySem.W.exm_ref T.bs_NoBox T.hd_NoBox T.ty_NoBox T.su_NoBox_NoBox)) .nil))
    (mss_one (ms_ret me_bl)))
theorem sc_l_rows_by : FnScope nm_l_rows_by ["_law_cell", "_law_there"] (defScope s_l_rows_by) := ⟨rfl, rfl, rfl, by decide +kernel, rfl, by decide +kernel, by decide +kernel⟩
theorem ok_l_rows_by (T : Txt K mg ad) : FnOk P w K mg base (L2N.CX P w) 1 ad.a_l_rows_by ad.d_l_rows_by ["_law_cell", "_law_there"] (spM (gg K ad) 2 m_l_rows_by) := by
  refine fn_ok (G := gg K ad) (body := bd_l_rows_by) T.F_l_rows_by sc_l_rows_by rfl rfl rfl (fun cdv A outer s H E hr => ?_)
  have nd := sc_l_rows_by.nd
  have hu := hu_of hr
  have hu64 := hr.units
  have tk : L2N.Takes (cx P w K mg base nm_l_rows_by "_law_rows_by" s_l_rows_by ad.a_l_rows_by cdv A outer s H E) (We E) := L2N.takes_of rfl rfl rfl rfl
  have pas : PassesOwn (model P w) (cx P w K mg base nm_l_rows_by "_law_rows_by" s_l_rows_by ad.a_l_rows_by cdv A outer s H E).A (cx P w K mg base nm_l_rows_by "_law_rows_by" s_l_rows_by ad.a_l_rows_by cdv A outer s H E).env (cx P w K mg base nm_l_rows_by "_law_rows_by" s_l_rows_by ad.a_l_rows_by cdv A outer s H E).xe := passes_of rfl
  unfold bd_l_rows_by
  unfold le_l_rows_by_2
  unfold le_l_rows_by_1
  exact (mss_cons (ms_set (i := 2) (ps_set nd rfl (Or.inl rfl) (me_bin modD_s op_mod (me_var (pv 0)) me_int)))
    (mss_cons (ms_if (mt_cmp eqD_s (op_eqX hu64) (me_bin modD_s op_mod (me_bin fdivD_s op_fdiv (me_var (pv 0)) me_int) me_int) me_int (nomark _))
    (mss_one (ms_set (i := 2) (ps_set nd rfl (Or.inl rfl) (me_bin modD_s op_mod (me_bin fdivD_s op_fdiv (me_var (pv 0)) me_int) me_int))))
    mss_nil)
    (mss_cons (ms_setLc (i := 3) (j := 5) rfl nd rfl rfl (sw_true rfl rfl rfl (by decide +kernel)) (mi_range1 rfl T.n_range (ma_cons (me_var (pv 2)) ma_nil)) (blkOk_by (N := nm_l_rows_by) (sc := defScope s_l_rows_by) (own := [("_law_k", 5)]) (by decide +kernel)) (fun _ _ _ _ _ => pg_name (i := 5) nd rfl (Or.inl rfl)) (fun _ _ _ _ _ => mts_nil) (fun _ _ _ _ _ => (me_bin addD_s op_addX (me_ix rfl me_str (me_bin modD_s op_mod (me_bin addD_s op_addX (me_bin fdivD_s op_fdiv (me_var (pv 0)) me_int) (me_bin mulD_s op_mulX' me_int (me_var (pv 5)))) me_int) (fun _ _ => rfl)) (me_bin mulD_s op_mulX' (me_ix rfl me_str (me_bin modD_s op_mod (me_var (pv 5)) me_int) (fun _ _ => rfl)) (me_bin fdivD_s op_fdiv (me_var (pv 5)) me_int)))))
    (mss_cons (ms_set (i := 4) (ps_set nd rfl (Or.inr rfl) (me_sortSet rfl rfl hu64 rfl T.n_sorted rfl T.n_set (me_var (pv 3)))))
    (mss_one (ms_ret (me_lc (j := 5) rfl nd (mi_range1 rfl T.n_range (ma_cons (me_callB lenD_s call_len rfl T.n_len b_len (ma_cons (me_var (pv 4)) ma_nil)) ma_nil)) (blkOk_by (N := nm_l_rows_by) (sc := defScope s_l_rows_by) (own := [("_law_k", 5)]) (by decide +kernel)) (fun _ _ _ _ _ => pg_name (i := 5) nd rfl (Or.inl rfl)) (fun _ _ _ _ _ => mts_nil) (fun _ _ _ _ _ => (me_tup (ma_cons (me_ix rfl (me_var (pv 4)) (me_var (pv 5)) (fun _ _ => rfl)) (ma_cons (me_ix rfl (me_var (pv 1)) (me_bin modD_s op_mod (me_bin addD_s op_addX (me_bin fdivD_s op_fdiv (me_var (pv 0)) me_int) (me_bin mulD_s op_mulX' me_int (me_var (pv 5)))) (me_callB lenD_s call_len rfl T.n_len b_len (ma_cons (me_var (pv 1)) ma_nil))) (fun _ _ => rfl)) ma_nil)))))))))))
theorem sc_l_alike : FnScope nm_l_alike ["_law_seen", "_law_due"] (defScope s_l_alike) := ⟨rfl, rfl, rfl, by decide +kernel, rfl, by decide +kernel, by decide +kernel⟩
theorem ok_l_alike (T : Txt K mg ad) : FnOk P w K mg base (L2N.CX P w) 3 ad.a_l_alike ad.d_l_alike ["_law_seen", "_law_due"] (spM (gg K ad) 2 m_l_alike) := by
  refine fn_ok (G := gg K ad) (body := bd_l_alike) T.F_l_alike sc_l_alike rfl rfl rfl (fun cdv A outer s H E hr => ?_)
  have nd := sc_l_alike.nd
  have hu := hu_of hr
  have hu64 := hr.units
  have tk : L2N.Takes (cx P w K mg base nm_l_alike "_law_alike" s_l_alike ad.a_l_alike cdv A outer s H E) (We E) := L2N.takes_of rfl rfl rfl rfl
  have pas : PassesOwn (model P w) (cx P w K mg base nm_l_alike "_law_alike" s_l_alike ad.a_l_alike cdv A outer s H E).A (cx P w K mg base nm_l_alike "_law_alike" s_l_alike ad.a_l_alike cdv A outer s H E).env (cx P w K mg base nm_l_alike "_law_alike" s_l_alike ad.a_l_alike cdv A outer s H E).xe := passes_of rfl
  unfold bd_l_alike
  unfold lf_l_alike_1
  exact (mss_cons (ms_if (PW.pt (mw_or (mt_not (mt_val (me_isi (T := .tuple) rfl rfl T.n_isinstance (me_var (pv 0)) (pe_bltn rfl T.n_tuple b_tuple rfl)))) (mw_or (mt_cmp neD_s (op_neX hu64) (me_callB lenD_s call_len rfl T.n_len b_len (ma_cons (me_var (pv 0)) ma_nil)) me_int (nomark _)) (mw_or (mt_not (mt_val (me_isi (T := .str) rfl rfl T.n_isinstance (me_ix rfl (me_var (pv 0)) me_int (fun _ _ => rfl)) (pe_bltn rfl T.n_str b_str rfl)))) (mw_or1 (mt_cmp neD_s (op_neX hu64) (me_ix rfl (me_var (pv 0)) me_int (fun _ _ => rfl)) (me_ix rfl (me_var (pv 1)) me_int (fun _ _ => rfl)) (nomark _)))))))
    (mss_one (ms_ret me_bl))
    mss_nil)
    (mss_cons (ms_if (mt_cmp eqD_s (op_eqX hu64) (me_ix rfl (me_var (pv 1)) me_int (fun _ _ => rfl)) me_str (nomark _))
    (mss_one (ms_ret (me_call (ok_l_count T) tk (hr.mono (by decide)) rfl T.m_l_count T.F_l_count.kp T.b_l_count (ma_cons (me_ix rfl (me_var (pv 0)) me_int (fun _ _ => rfl)) (ma_cons (me_ix rfl (me_var (pv 1)) me_int (fun _ _ => rfl)) ma_nil)))))
    mss_nil)
    (mss_cons (ms_if (PW.pt (mw_or (mt_not (mt_val (me_isi (T := .list) rfl rfl T.n_isinstance (me_ix rfl (me_var (pv 0)) me_int (fun _ _ => rfl)) (pe_bltn rfl T.n_list b_list rfl)))) (mw_or1 (mt_cmp neD_s (op_neX hu64) (me_callB lenD_s call_len rfl T.n_len b_len (ma_cons (me_ix rfl (me_var (pv 0)) me_int (fun _ _ => rfl)) ma_nil)) (me_callB lenD_s call_len rfl T.n_len b_len (ma_cons (me_ix rfl (me_var (pv 1)) me_int (fun _ _ => rfl)) ma_nil)) (nomark _)))))
    (mss_one (ms_ret me_bl))
    mss_nil)
    (mss_cons (ms_for pas rfl (mi_range1 rfl T.n_range (ma_cons (me_callB lenD_s call_len rfl T.n_len b_len (ma_cons (me_ix rfl (me_var (pv 1)) me_int (fun _ _ => rfl)) ma_nil)) ma_nil)) (pg_name (i := 2) nd rfl (Or.inl rfl)) (tgN_s 2)
    (mss_cons (ms_set (i := 3) (ps_set nd rfl (Or.inl rfl) (me_ix rfl (me_ix rfl (me_var (pv 0)) me_int (fun _ _ => rfl)) (me_var (pv 2)) (fun _ _ => rfl))))
    (mss_one (ms_if (PW.pt (mw_or (mt_not (mt_val (me_isi (T := .tuple) rfl rfl T.n_isinstance (me_var (pv 3)) (pe_bltn rfl T.n_tuple b_tuple rfl)))) (mw_or (mt_cmp neD_s (op_neX hu64) (me_var (pv 3)) (me_ix rfl (me_ix rfl (me_var (pv 1)) me_int (fun _ _ => rfl)) (me_var (pv 2)) (fun _ _ => rfl)) (nomark _)) (mw_or1 (mt_not (mt_val (me_call (ok_l_whole T) tk (hr.mono (by decide)) rfl T.m_l_whole T.F_l_whole.kp T.b_l_whole (ma_cons (me_ix rfl (me_var (pv 3)) me_int (fun _ _ => rfl)) ma_nil))))))))
    (mss_one (ms_ret me_bl))
    mss_nil))))
    (mss_one (ms_ret me_bl))))))
theorem sc_l_gone : FnScope nm_l_gone ["_law_inside", "_law_counts", "_law_box"] (defScope s_l_gone) := ⟨rfl, rfl, rfl, by decide +kernel, rfl, by decide +kernel, by decide +kernel⟩
theorem ok_l_gone (T : Txt K mg ad) : FnOk P w K mg base (L2N.CX P w) 1 ad.a_l_gone ad.d_l_gone ["_law_inside", "_law_counts", "_law_box"] (spM (gg K ad) 3 m_l_gone) := by
  refine fn_ok (G := gg K ad) (body := bd_l_gone) T.F_l_gone sc_l_gone rfl rfl rfl (fun cdv A outer s H E hr => ?_)
  have nd := sc_l_gone.nd
  have hu := hu_of hr
  have hu64 := hr.units
  have tk : L2N.Takes (cx P w K mg base nm_l_gone "_law_gone" s_l_gone ad.a_l_gone cdv A outer s H E) (We E) := L2N.takes_of rfl rfl rfl rfl
  have pas : PassesOwn (model P w) (cx P w K mg base nm_l_gone "_law_gone" s_l_gone ad.a_l_gone cdv A outer s H E).A (cx P w K mg base nm_l_gone "_law_gone" s_l_gone ad.a_l_gone cdv A outer s H E).env (cx P w K mg base nm_l_gone "_law_gone" s_l_gone ad.a_l_gone cdv A outer s H E).xe := passes_of rfl
  unfold bd_l_gone
  unfold lw_l_gone_2
  unfold le_l_gone_1
  exact (mss_cons (ms_set (i := 3) (ps_set nd rfl (Or.inl rfl) (me_lstN (ma_cons (me_var (pv 2)) ma_nil))))
    (mss_cons (ms_set (i := 4) (ps_set nd rfl (Or.inl rfl) me_int))
    (mss_cons (ms_while (n := fuelN) pas (mt_cmp neD_s (op_neX hu64) (me_var (pv 3)) (me_lst ma_nil) (nomark _))
    (mss_cons (ms_set (i := 5) (ps_set nd rfl (Or.inl rfl) (me_pop rfl (pe_bm0 PySem.F.plainAttrs_list PySem.F.slot_list_pop PySem.F.type_list_pop mt_pop (me_var (pv 3))))))
    (mss_cons (ms_if (mt_din hu (me_var (pv 5)) (me_var (pv 1)))
    (mss_one (ms_dput hu (me_var (pv 1)) (me_var (pv 5)) (me_callB maxD_s (call_max2 rfl) rfl T.n_max b_max (ma_cons me_int (ma_cons (me_bin subD_s op_sub (me_dget hu (me_var (pv 1)) (me_var (pv 5)) (fun _ _ => rfl)) me_int) ma_nil))) rfl))
    mss_nil)
    (mss_one (ms_if (PW.pt (mw_and (mt_din hu (me_var (pv 5)) (me_var (pv 1))) (mw_and1 (mt_cmp eqD_s (op_eqX hu64) (me_dget hu (me_var (pv 1)) (me_var (pv 5)) (fun _ _ => rfl)) me_int (nomark _)))))
    (mss_cons (ms_set (i := 4) (ps_set nd rfl (Or.inl rfl) (me_bin addD_s op_addX (me_var (pv 4)) me_int)))
    (mss_cons (ms_expr (me_dpop (me_var (pv 1)) (me_var (pv 5)) ⟨rfl, rfl, rfl, rfl⟩))
    (mss_cons (ms_set (i := 6) (ps_set nd rfl (Or.inl rfl) (me_dpop (me_var (pv 0)) (me_var (pv 5)) ⟨rfl, rfl, rfl, rfl⟩)))
    (mss_one (ms_if (mt_cmp eqD_s (op_eqX hu64) (me_ix rfl (me_var (pv 6)) me_int (fun _ _ => rfl)) me_str (nomark _))
    (mss_one (ms_set (i := 3) (ps_set nd rfl (Or.inl rfl) (me_bin addN_s op_addX (me_var (pv 3)) (me_lc (j := 7) rfl nd (mi_seq rfl (me_ix rfl (me_var (pv 6)) me_int (fun _ _ => rfl))) (blkOk_by (N := nm_l_gone) (sc := defScope s_l_gone) (own := [("_law_pair", 7)]) (by decide +kernel)) (fun _ _ _ _ _ => pg_name (i := 7) nd rfl (Or.inl rfl)) (fun _ _ _ _ _ => mts_nil) (fun _ _ _ _ _ => (me_ix rfl (me_var (pv 7)) me_int (fun _ _ => rfl))))))))
    mss_nil)))))
    mss_nil)))))
    (mss_one (ms_ret (me_var (pv 4)))))))
theorem sc_l_step : FnScope nm_l_step ["_law_pile", "_law_inside", "_law_counts", "_law_made", "_law_cell"] (defScope s_l_step) := ⟨rfl, rfl, rfl, by decide +kernel, rfl, by decide +kernel, by decide +kernel⟩
theorem ok_l_step (T : Txt K mg ad) : FnOk P w K mg base (L2N.CX P w) 5 ad.a_l_step ad.d_l_step ["_law_pile", "_law_inside", "_law_counts", "_law_made", "_law_cell"] (spM (gg K ad) 5 m_l_step) := by
  refine fn_ok (G := gg K ad) (body := bd_l_step) T.F_l_step sc_l_step rfl rfl rfl (fun cdv A outer s H E hr => ?_)
  have nd := sc_l_step.nd
  have hu := hu_of hr
  have hu64 := hr.units
  have tk : L2N.Takes (cx P w K mg base nm_l_step "_law_step" s_l_step ad.a_l_step cdv A outer s H E) (We E) := L2N.takes_of rfl rfl rfl rfl
  have pas : PassesOwn (model P w) (cx P w K mg base nm_l_step "_law_step" s_l_step ad.a_l_step cdv A outer s H E).A (cx P w K mg base nm_l_step "_law_step" s_l_step ad.a_l_step cdv A outer s H E).env (cx P w K mg base nm_l_step "_law_step" s_l_step ad.a_l_step cdv A outer s H E).xe := passes_of rfl
  unfold bd_l_step
  unfold lt_l_step_3
  unfold le_l_step_2
  unfold lf_l_step_1
  exact (mss_cons (ms_set (i := 5) (ps_set nd rfl (Or.inl rfl) (me_callB sortKiD_s (call_sortKF flInt Sum.inl (fun _ => rfl) rfl hu64) rfl T.n_sorted b_sorted (ma_cons (me_var (pv 1)) ma_nil))))
    (mss_cons (ms_set (i := 6) (ps_set nd rfl (Or.inl rfl) (me_bin modD_s op_mod (me_var (pv 4)) me_int)))
    (mss_cons (ms_set (i := 7) (ps_set nd rfl (Or.inl rfl) (me_bin fdivD_s op_fdiv (me_var (pv 4)) me_int)))
    (mss_cons (ms_if (PW.pt (mw_or (mt_cmp eqD_s (op_eqX hu64) (me_var (pv 6)) me_int (nomark _)) (mw_or1 (mt_cmp eqD_s (op_eqX hu64) (me_var (pv 5)) (me_lst ma_nil) (nomark _)))))
    (mss_cons (ms_set (i := 10) (ps_set nd rfl (Or.inl rfl) (me_bin addD_s op_addX (me_bin subD_s op_sub (me_bin modD_s op_mod (me_var (pv 7)) (me_bin subD_s op_sub (me_bin mulD_s op_mulX' me_int (me_bin powD_s op_pow me_int me_int)) me_int)) (me_bin powD_s op_pow me_int me_int)) me_int)))
    (mss_cons (ms_dput hu (me_var (pv 1)) (me_bin addD_s op_addX (me_var (pv 3)) me_int) (me_tup (ma_cons me_str (ma_cons (me_var (pv 10)) ma_nil))) rfl)
    (mss_cons (ms_dput hu (me_var (pv 2)) (me_bin addD_s op_addX (me_var (pv 3)) me_int) me_int rfl)
    (mss_one (ms_ret (me_call (ok_l_count T) tk (hr.mono (by decide)) rfl T.m_l_count T.F_l_count.kp T.b_l_count (ma_cons (me_meth (C := 0) (ok_Pile_leaf T) tk (hr.mono (by decide)) T.b_Pile_leaf T.cl_Pile T.me_Pile_leaf no_leaf (me_var (pv 0)) (ma_cons (me_var (pv 10)) ma_nil)) (ma_cons (me_bin addD_s op_addX (me_var (pv 3)) me_int) ma_nil))))))))
    mss_nil)
    (mss_cons (ms_if (mt_cmp ltD_s op_lt (me_var (pv 6)) me_int (nomark _))
    (mss_cons (ms_set (i := 11) (ps_set nd rfl (Or.inl rfl) (me_call (ok_l_rows_by T) tk (hr.mono (by decide)) rfl T.m_l_rows_by T.F_l_rows_by.kp T.b_l_rows_by (ma_cons (me_var (pv 7)) (ma_cons (me_var (pv 5)) ma_nil)))))
    (mss_cons (ms_set (i := 12) (ps_set nd rfl (Or.inl rfl) (me_callTy listN_s call_list_of rfl T.n_list b_list (ma_cons (me_var (pv 11)) ma_nil))))
    (mss_cons (ms_set (i := 13) (ps_set nd rfl (Or.inl rfl) (me_meth (C := 0) (ok_Pile_branchL T) tk (hr.mono (by decide)) T.b_Pile_branch T.cl_Pile T.me_Pile_branch no_branch (me_var (pv 0)) (ma_cons (me_var (pv 12)) ma_nil))))
    (mss_cons (ms_if (mt_cmp neD_s (op_neX hu64) (me_var (pv 12)) (me_var (pv 11)) (nomark _))
    (mss_one (ms_ret me_bl))
    mss_nil)
    (mss_cons (ms_expr (me_app rfl (me_var (pv 12)) (me_tup (ma_cons me_str (ma_cons (me_ix rfl (me_var (pv 5)) me_int (fun _ _ => rfl)) ma_nil))) rfl (fun h => pe_bm PySem.F.plainAttrs_list PySem.F.slot_list_append PySem.F.type_list_append mt_append (me_var (pv 12)) h)))
    (mss_cons (ms_for pas rfl (mi_seq rfl (me_var (pv 11))) (pg_name (i := 14) nd rfl (Or.inl rfl)) (tgN_s 14)
    (mss_one (ms_dput hu (me_var (pv 2)) (me_ix rfl (me_var (pv 14)) me_int (fun _ _ => rfl)) (me_bin addD_s op_addX (me_dget hu (me_var (pv 2)) (me_ix rfl (me_var (pv 14)) me_int (fun _ _ => rfl)) (fun _ _ => rfl)) me_int) rfl)))
    (mss_cons (ms_dput hu (me_var (pv 1)) (me_bin addD_s op_addX (me_var (pv 3)) me_int) (me_tup (ma_cons me_str (ma_cons (me_var (pv 11)) ma_nil))) rfl)
    (mss_cons (ms_dput hu (me_var (pv 2)) (me_bin addD_s op_addX (me_var (pv 3)) me_int) me_int rfl)
    (mss_one (ms_ret (me_call (ok_l_count T) tk (hr.mono (by decide)) rfl T.m_l_count T.F_l_count.kp T.b_l_count (ma_cons (me_var (pv 13)) (ma_cons (me_bin addD_s op_addX (me_var (pv 3)) me_int) ma_nil)))))))))))))
    mss_nil)
    (mss_cons (ms_set (i := 8) (ps_set nd rfl (Or.inl rfl) (me_ix rfl (me_var (pv 5)) (me_bin modD_s op_mod (me_var (pv 7)) (me_callB lenD_s call_len rfl T.n_len b_len (ma_cons (me_var (pv 5)) ma_nil))) (fun _ _ => rfl))))
    (mss_cons (ms_if (mt_cmp eqD_s (op_eqX hu64) (me_var (pv 6)) me_int (nomark _))
    (mss_cons (ms_dput hu (me_var (pv 2)) (me_var (pv 8)) (me_bin addD_s op_addX (me_dget hu (me_var (pv 2)) (me_var (pv 8)) (fun _ _ => rfl)) me_int) rfl)
    (mss_one (ms_ret (me_and (me_cmp isD_s op_isN (me_meth (C := 0) (ok_Pile_hold T) tk (hr.mono (by decide)) T.b_Pile_hold T.cl_Pile T.me_Pile_hold no_hold (me_var (pv 0)) (ma_cons (me_var (pv 8)) ma_nil)) me_non (nomark _)) (me_one (me_call (ok_l_alike T) tk (hr.mono (by decide)) rfl T.m_l_alike T.F_l_alike.kp T.b_l_alike (ma_cons (me_meth (C := 0) (ok_Pile_content T) tk (hr.mono (by decide)) T.b_Pile_content T.cl_Pile T.me_Pile_content no_content (me_var (pv 0)) (ma_cons (me_var (pv 8)) ma_nil)) (ma_cons (me_dget hu (me_var (pv 1)) (me_var (pv 8)) (fun _ _ => rfl)) ma_nil))))))))
    mss_nil)
    (mss_cons (ms_if (mt_cmp eqD_s (op_eqX hu64) (me_var (pv 6)) me_int (nomark _))
    (mss_one (ms_ret (me_call (ok_l_count T) tk (hr.mono (by decide)) rfl T.m_l_count T.F_l_count.kp T.b_l_count (ma_cons (me_meth (C := 0) (ok_Pile_let_go T) tk (hr.mono (by decide)) T.b_Pile_let_go T.cl_Pile T.me_Pile_let_go no_let_go (me_var (pv 0)) (ma_cons (me_var (pv 8)) ma_nil)) (ma_cons (me_call (ok_l_gone T) tk (hr.mono (by decide)) rfl T.m_l_gone T.F_l_gone.kp T.b_l_gone (ma_cons (me_var (pv 1)) (ma_cons (me_var (pv 2)) (ma_cons (me_var (pv 8)) ma_nil)))) ma_nil)))))
    mss_nil)
    (mss_cons (ms_setLc (i := 9) (j := 8) rfl nd rfl rfl (sw_true rfl rfl rfl (by decide +kernel)) (mi_range2 rfl T.n_range (ma_cons me_int (ma_cons (me_bin addD_s op_addX (me_var (pv 3)) me_int) ma_nil))) (blkOk_by (N := nm_l_step) (sc := defScope s_l_step) (own := [("_law_box", 8)]) (by decide +kernel)) (fun _ _ _ _ _ => pg_name (i := 8) nd rfl (Or.inl rfl)) (fun _ _ _ _ _ => (mts_one (mt_dnin hu (me_var (pv 8)) (me_var (pv 1))))) (fun _ _ _ _ _ => (me_var (pv 8))))
    (mss_one (ms_ret (me_call (ok_l_refused T) tk (hr.mono (by decide)) rfl T.m_l_refused T.F_l_refused.kp T.b_l_refused (ma_cons (me_var (pv 0)) (ma_cons (me_ix rfl (me_var (pv 9)) (me_bin modD_s op_mod (me_var (pv 7)) (me_callB lenD_s call_len rfl T.n_len b_len (ma_cons (me_var (pv 9)) ma_nil))) (fun _ _ => rfl)) (ma_cons (me_var (pv 8)) (ma_cons (me_bin fdivD_s op_fdiv (me_var (pv 7)) me_int) ma_nil))))))))))))))))
theorem sc_l_as_due : FnScope nm_l_as_due ["_law_pile", "_law_inside", "_law_counts", "_law_made"] (defScope s_l_as_due) := ⟨rfl, rfl, rfl, by decide +kernel, rfl, by decide +kernel, by decide +kernel⟩
theorem ok_l_as_due (T : Txt K mg ad) : FnOk P w K mg base (L2N.CX P w) 3 ad.a_l_as_due ad.d_l_as_due ["_law_pile", "_law_inside", "_law_counts", "_law_made"] (spM (gg K ad) 4 m_l_as_due) := by
  refine fn_ok (G := gg K ad) (body := bd_l_as_due) T.F_l_as_due sc_l_as_due rfl rfl rfl (fun cdv A outer s H E hr => ?_)
  have nd := sc_l_as_due.nd
  have hu := hu_of hr
  have hu64 := hr.units
  have tk : L2N.Takes (cx P w K mg base nm_l_as_due "_law_as_due" s_l_as_due ad.a_l_as_due cdv A outer s H E) (We E) := L2N.takes_of rfl rfl rfl rfl
  have pas : PassesOwn (model P w) (cx P w K mg base nm_l_as_due "_law_as_due" s_l_as_due ad.a_l_as_due cdv A outer s H E).A (cx P w K mg base nm_l_as_due "_law_as_due" s_l_as_due ad.a_l_as_due cdv A outer s H E).env (cx P w K mg base nm_l_as_due "_law_as_due" s_l_as_due ad.a_l_as_due cdv A outer s H E).xe := passes_of rfl
  unfold bd_l_as_due
  unfold le_l_as_due_1
  exact (mss_cons (ms_set (i := 4) (ps_set nd rfl (Or.inl rfl) (me_meth0 (C := 0) (ok_Pile_kept T) tk (hr.mono (by decide)) T.b_Pile_kept T.cl_Pile T.me_Pile_kept no_kept (me_var (pv 0)))))
    (mss_cons (ms_if (PW.pt (mw_or (mt_not (mt_val (me_isi (T := .list) rfl rfl T.n_isinstance (me_var (pv 4)) (pe_bltn rfl T.n_list b_list rfl)))) (mw_or (mt_cmp neD_s (op_neX hu64) (me_var (pv 4)) (me_callB sortKiD_s (call_sortKF flInt Sum.inl (fun _ => rfl) rfl hu64) rfl T.n_sorted b_sorted (ma_cons (me_var (pv 1)) ma_nil)) (nomark _)) (mw_or1 (mt_not (mt_val (me_call (ok_l_count T) tk (hr.mono (by decide)) rfl T.m_l_count T.F_l_count.kp T.b_l_count (ma_cons (me_fld (C := 0) (i := 2) T.cl_Pile T.na_made nd_0 rfl (me_var (pv 0))) (ma_cons (me_var (pv 3)) ma_nil)))))))))
    (mss_one (ms_ret me_bl))
    mss_nil)
    (mss_one (ms_ret (me_callB allD_s (cr_all rfl) rfl T.n_all b_all (ma_cons (me_lc (j := 5) rfl nd (mi_seq rfl (me_var (pv 4))) (blkOk_by (N := nm_l_as_due) (sc := defScope s_l_as_due) (own := [("_law_box", 5)]) (by decide +kernel)) (fun _ _ _ _ _ => pg_name (i := 5) nd rfl (Or.inl rfl)) (fun _ _ _ _ _ => mts_nil) (fun _ _ _ _ _ => (me_and (me_call (ok_l_whole T) takes0N (hr.mono (by decide)) rfl T.m_l_whole T.F_l_whole.kp T.b_l_whole (ma_cons (me_var (pv 5)) ma_nil)) (me_one (me_call (ok_l_count T) takes0N (hr.mono (by decide)) rfl T.m_l_count T.F_l_count.kp T.b_l_count (ma_cons (me_meth (C := 0) (ok_Pile_holders T) takes0N (hr.mono (by decide)) T.b_Pile_holders T.cl_Pile T.me_Pile_holders no_holders (me_var (pv 0)) (ma_cons (me_var (pv 5)) ma_nil)) (ma_cons (me_dget hu (me_var (pv 2)) (me_var (pv 5)) (fun _ _ => rfl)) ma_nil))))))) ma_nil))))))
theorem sc_law : FnScope nm_law ["_law_script"] (defScope s_law) := ⟨rfl, rfl, rfl, by decide +kernel, rfl, by decide +kernel, by decide +kernel⟩
theorem ok_law (T : Txt K mg ad) : FnOk P w K mg base (L2N.CX P w) 6 ad.a_law ad.d_law ["_law_script"] (spM (gg K ad) 1 m_law) := by
  refine fn_ok (G := gg K ad) (body := bd_law) T.F_law sc_law rfl rfl rfl (fun cdv A outer s H E hr => ?_)
  have nd := sc_law.nd
  have hu := hu_of hr
  have hu64 := hr.units
  have tk : L2N.Takes (cx P w K mg base nm_law "law" s_law ad.a_law cdv A outer s H E) (We E) := L2N.takes_of rfl rfl rfl rfl
  have pas : PassesOwn (model P w) (cx P w K mg base nm_law "law" s_law ad.a_law cdv A outer s H E).A (cx P w K mg base nm_law "law" s_law ad.a_law cdv A outer s H E).env (cx P w K mg base nm_law "law" s_law ad.a_law cdv A outer s H E).xe := passes_of rfl
  unfold bd_law
  unfold le_law_3
  unfold lf_law_2
  unfold lf_law_1
  exact (mss_cons (ms_if (PW.pt (mw_and (mt_cmp neD_s (op_neX hu64) (me_var (pv 0)) (me_lst ma_nil) (nomark _)) (mw_and1 (mt_not (mt_val (me_call (ok_l_chain T) tk (hr.mono (by decide)) rfl T.m_l_chain T.F_l_chain.kp T.b_l_chain (ma_cons (me_bin modD_s op_mod (me_bin fdivD_s op_fdiv (me_ix rfl (me_var (pv 0)) me_int (fun _ _ => rfl)) me_int) me_int) (ma_cons (me_bin addD_s op_addX me_int (me_bin modD_s op_mod (me_bin fdivD_s op_fdiv (me_ix rfl (me_var (pv 0)) me_int (fun _ _ => rfl)) me_int) me_int)) ma_nil))))))))
    (mss_one (ms_ret me_bl))
    mss_nil)
    (mss_cons (ms_set (i := 1) (ps_set nd rfl (Or.inr rfl) (me_make0 (C := 0) T.mk_Pile (ok_Pile_init T) (hr.mono (by decide)) rfl T.m_Pile T.b_Pile_init)))
    (mss_cons (ms_set (i := 2) (ps_set nd rfl (Or.inr rfl) me_newK))
    (mss_cons (ms_set (i := 3) (ps_set nd rfl (Or.inl rfl) me_newK))
    (mss_cons (ms_set (i := 4) (ps_set nd rfl (Or.inl rfl) me_int))
    (mss_cons (ms_for pas rfl (mi_seq rfl (me_sl rfl (me_var (pv 0)) mo_none (mo_some me_int))) (pg_name (i := 5) nd rfl (Or.inl rfl)) (tgN_s 5)
    (mss_cons (ms_if (mt_not (mt_val (me_call (ok_l_step T) tk (hr.mono (by decide)) rfl T.m_l_step T.F_l_step.kp T.b_l_step (ma_cons (me_var (pv 1)) (ma_cons (me_var (pv 2)) (ma_cons (me_var (pv 3)) (ma_cons (me_var (pv 4)) (ma_cons (me_var (pv 5)) ma_nil))))))))
    (mss_one (ms_ret me_bl))
    mss_nil)
    (mss_cons (ms_set (i := 4) (ps_set nd rfl (Or.inl rfl) (me_callB maxLD_s (cr_max rfl) rfl T.n_max b_max (ma_cons (me_bin addD_s op_addX (me_lst (ma_cons (me_var (pv 4)) ma_nil)) (me_callTy listKD_s (call_listD rfl) rfl T.n_list b_list (ma_cons (me_var (pv 2)) ma_nil))) ma_nil))))
    (mss_cons (ms_if (mt_not (mt_val (me_call (ok_l_as_due T) tk (hr.mono (by decide)) rfl T.m_l_as_due T.F_l_as_due.kp T.b_l_as_due (ma_cons (me_var (pv 1)) (ma_cons (me_var (pv 2)) (ma_cons (me_var (pv 3)) (ma_cons (me_var (pv 4)) ma_nil)))))))
    (mss_one (ms_ret me_bl))
    mss_nil)
    (mss_one (ms_for pas rfl (mi_seq rfl (me_sl rfl (me_callB sortKiD_s (call_sortKF flInt Sum.inl (fun _ => rfl) rfl hu64) rfl T.n_sorted b_sorted (ma_cons (me_var (pv 2)) ma_nil)) (mo_some (me_un negD_s un_neg me_int)) mo_none)) (pg_name (i := 6) nd rfl (Or.inl rfl)) (tgN_s 6)
    (mss_cons (ms_set (i := 7) (ps_set nd rfl (Or.inl rfl) (me_meth (C := 0) (ok_Pile_contentN T) tk (hr.mono (by decide)) T.b_Pile_content T.cl_Pile T.me_Pile_content no_content (me_var (pv 1)) (ma_cons (me_var (pv 6)) ma_nil))))
    (mss_cons (ms_if (mt_not (mt_val (me_call (ok_l_alike T) tk (hr.mono (by decide)) rfl T.m_l_alike T.F_l_alike.kp T.b_l_alike (ma_cons (me_var (pv 7)) (ma_cons (me_dget hu (me_var (pv 2)) (me_var (pv 6)) (fun _ _ => rfl)) ma_nil)))))
    (mss_one (ms_ret me_bl))
    mss_nil)
    (mss_one (ms_if (mt_cmp eqD_s (op_eqX hu64) (me_ix rfl (me_dget hu (me_var (pv 2)) (me_var (pv 6)) (fun _ _ => rfl)) me_int (fun _ _ => rfl)) me_str (nomark _))
    (mss_one (ms_expr (me_app rfl (me_ix rfl (me_var (pv 7)) me_int (fun _ _ => rfl)) (me_tup (ma_cons me_str (ma_cons me_int ma_nil))) rfl (fun h => pe_bm PySem.F.plainAttrs_list PySem.F.slot_list_append PySem.F.type_list_append mt_append (me_ix rfl (me_var (pv 7)) me_int (fun _ _ => rfl)) h))))
    mss_nil))))))))))
    (mss_one (ms_ret (me_callB allD_s (cr_all rfl) rfl T.n_all b_all (ma_cons (me_lc (j := 6) rfl nd (mi_seq rfl (me_callB sortKiD_s (call_sortKF flInt Sum.inl (fun _ => rfl) rfl hu64) rfl T.n_sorted b_sorted (ma_cons (me_var (pv 2)) ma_nil))) (blkOk_by (N := nm_law) (sc := defScope s_law) (own := [("_law_box", 6)]) (by decide +kernel)) (fun _ _ _ _ _ => pg_name (i := 6) nd rfl (Or.inl rfl)) (fun _ _ _ _ _ => mts_nil) (fun _ _ _ _ _ => (me_call (ok_l_alike T) takes0N (hr.mono (by decide)) rfl T.m_l_alike T.F_l_alike.kp T.b_l_alike (ma_cons (me_meth (C := 0) (ok_Pile_content T) takes0N (hr.mono (by decide)) T.b_Pile_content T.cl_Pile T.me_Pile_content no_content (me_var (pv 1)) (ma_cons (me_var (pv 6)) ma_nil)) (ma_cons (me_dget hu (me_var (pv 2)) (me_var (pv 6)) (fun _ _ => rfl)) ma_nil))))) ma_nil))))))))))
end
end Law
/-! P0_k08 -/
set_option Elab.async false
set_option linter.all false
set_option maxRecDepth 100000
set_option autoImplicit false
set_option maxHeartbeats 1000000
/-! P0: names and paths -/
namespace Law
open PySem PySem.Spec PyProof.Rows L2 Sn
def cell (ns : List Int) (k : Nat) : Int := ns.getD k 0
theorem len_tx (a : Str) : a.length = (tx a).length := Array.length_toList.symm
theorem tx_append (a b : Str) : tx (a ++ b) = tx a ++ tx b := Array.toList_append
theorem len_append (a b : Str) : (a ++ b).length = a.length + b.length := by rw [len_tx, tx_append, List.length_append, ← len_tx, ← len_tx]
abbrev abc : Str := "abcdefghijklmnopqrstuvwxyz"
theorem abc_len : abc.length = 26 := by decide +kernel
theorem abc_tx : tx abc = (List.range 26).map (97 + ·) := by decide +kernel
theorem mem_abc (c : Nat) : c ∈ abc.cps.toList ↔ 97 ≤ c ∧ c ≤ 122 := by
  show c ∈ tx abc ↔ _
  rw [abc_tx, List.mem_map]
  constructor
  · rintro ⟨a, ha, rfl⟩
    have := List.mem_range.mp ha
    omega
  · rintro ⟨a, b⟩
    exact ⟨c - 97, List.mem_range.mpr (by omega), by omega⟩
/-! ### names -/
def isN : Dv → Bool
  | .str s => decide (1 ≤ s.length) && (decide (s.length ≤ 8) && (tx s).all fun c => decide (97 ≤ c ∧ c ≤ 122))
  | _ => false
def OkD (m : Mem) (d : Dv) : Prop := (∃ s, d = .str s ∧ s.length ≤ 100000) ∨ ∃ t, tyOf m d = some t ∧ t ≠ .str
theorem tyOf_loc (m : Mem) (n : Nat) : tyOf m (.loc n) = (match m[n]? with
      | some (.lst _) => some Tn.list
      | some (.dic _) => some Tn.dict
      | some (.dit _) => some Tn.dict
      | _ => none) := rfl
theorem tyOf_app {m x : Mem} {d : Dv} {t : Tn} (h : tyOf m d = some t) : tyOf (m ++ x) d = some t := by
  cases d with
  | loc n =>
    have hn : n < m.length := by
      rcases Nat.lt_or_ge n m.length with z | z
      · exact z
      · rw [tyOf_loc, List.getElem?_eq_none z] at h
        cases h
    rw [tyOf_loc] at h ⊢
    rw [List.getElem?_append_left hn]
    exact h
  | _ => exact h
theorem OkD.app {m : Mem} {d : Dv} (h : OkD m d) (x : Mem) : OkD (m ++ x) d := by
  rcases h with h | ⟨t, h1, h2⟩
  · exact .inl h
  · exact .inr ⟨t, tyOf_app h1, h2⟩
theorem isN_no {m : Mem} {d : Dv} {t : Tn} (h : tyOf m d = some t) (g : t ≠ .str) : isN d = false := by
  cases d with
  | str s => cases h; exact absurd rfl g
  | _ => rfl
theorem allD_bls (bs : List Bool) (m : Mem) : allD [.lst (bs.map Dv.bl)] m = .ok (.bl (bs.all id)) m := by
  have e : bls (bs.map Dv.bl) = some bs := by
    induction bs with
    | nil => rfl
    | cons y r ih => show (bls (r.map Dv.bl)).map (y :: ·) = _; rw [ih] <;> rfl
  unfold allD
  simp [e]
def good (ds : List Dv) : Bool := decide (ds.length ≤ 8) && ds.all isN
theorem check_loop {m : Mem} (body : S) (hbody : ∀ x d, OkD m d → body [x, some d] m = if isN d then .nx [x, some d] m else .exc 1 [x, some d] m) : ∀ (ds : List Dv) (x a : Option Dv), (∀ d ∈ ds, OkD m d) → ∃ a', Sn.forM (tgN 1) body ds [x, a] m = if ds.all isN then .nx [x, a'] m else .exc 1 [x, a'] m := by
  intro ds
  induction ds with
  | nil => intro x a _; exact ⟨a, rfl⟩
  | cons d r ih =>
    intro x a h
    obtain ⟨a', e⟩ := ih x (some d) fun d' hd => h d' (.tail _ hd)
    have hb := hbody x d (h d (.head _))
    cases g : isN d with
    | true =>
      rw [g, if_pos rfl] at hb
      exact ⟨a', by rw [forM_cons (l1 := [x, some d]) rfl hb, e, List.all_cons, g, Bool.true_and]⟩
    | false =>
      rw [g] at hb
      refine ⟨some d, ?_⟩
      unfold Sn.forM
      simp at hb
      simp [hb, g]
/-- texts out of names -/
theorem strs_of : ∀ {ds : List Dv}, ds.all isN = true → ∃ ss : List Str, ds = ss.map Dv.str ∧ ∀ s ∈ ss, s.length ≤ 8
  | [], _ => ⟨[], rfl, fun s hs => by cases hs⟩
  | d :: r, h => by
    rw [List.all_cons, Bool.and_eq_true] at h
    obtain ⟨ss, h1, h2⟩ := strs_of h.2
    cases d with
    | str s =>
      refine ⟨s :: ss, by rw [h1] <;> rfl, fun z hz => ?_⟩
      rcases List.mem_cons.mp hz with rfl | hz
      · have := h.1
        unfold isN at this
        simp only [Bool.and_eq_true, decide_eq_true_iff] at this
        exact this.2.1
      · exact h2 z hz
    | _ => cases h.1
theorem sum_len {B : Nat} : ∀ {ss : List Str}, (∀ s ∈ ss, s.length ≤ B) → (ss.map (·.length)).sum ≤ B * ss.length
  | [], _ => by simp
  | s :: r, h => by
    have h1 := sum_len (ss := r) fun z hz => h z (.tail _ hz)
    have h2 := h s (.head _)
    rw [List.map_cons, List.sum_cons, List.length_cons, Nat.mul_add]
    omega
def slash : Str := "/"
theorem slash_len : slash.length = 1 := by decide +kernel
theorem join_len (ss : List Str) : (Txt.join slash ss).length ≤ (ss.map (·.length)).sum + ss.length := by
  have e : Txt.join slash ss = Str.join slash ss := PySem.StrLaws.glued_eq_join slash ss
  rw [e]
  induction ss with
  | nil => decide
  | cons a r ih =>
    have ih := ih (PySem.StrLaws.glued_eq_join slash r)
    cases r with
    | nil =>
      show a.length ≤ _
      simp
    | cons b r =>
      show (a ++ slash ++ Str.join slash (b :: r)).length ≤ _
      rw [len_append, len_append, slash_len, List.map_cons, List.sum_cons, List.length_cons]
      omega
theorem at_some {α : Type} {xs : List α} {i : Int} (h0 : 0 ≤ i) (h1 : i < xs.length) : ∃ x, atI xs i = some x ∧ x ∈ xs := by
  obtain ⟨n, rfl⟩ := Int.eq_ofNat_of_zero_le h0
  have hn : n < xs.length := by omega
  exact ⟨xs[n], atI_nat (by simp [hn]), List.getElem_mem hn⟩
theorem join_one (f : Nat → Nat) (ks : List Nat) : Txt.join ("" : Str) (ks.map fun i => (⟨#[f i]⟩ : Str)) = ⟨(ks.map f).toArray⟩ := by
  have e := SX.join_S [] (ks.map fun i => [f i])
  rw [List.map_map] at e
  have e2 : ("" : Str) = SX.S [] := by decide +kernel
  rw [e2]
  refine Eq.trans e ?_
  apply congrArg SX.S
  induction ks with
  | nil => rfl
  | cons a r ih =>
    cases r with
    | nil => rfl
    | cons b r =>
      show [f a] ++ ([] ++ TL.joinL [] ((b :: r).map fun i => [f i])) = _
      have e3 := SX.join_S [] ((b :: r).map fun i => [f i])
      rw [List.map_map] at e3
      rw [ih e3]
      rfl
theorem fin_true (m0 m : Mem) : ∃ m', fin m0 (.rt (.bl true) m) = .ok (.bl true) m' := by
  rw [fin_rt_eq]
  split
  · exact ⟨_, rfl⟩
  · exact ⟨_, rfl⟩
end Law
/-! P1_k08 -/
set_option Elab.async false
set_option linter.all false
set_option maxRecDepth 100000
set_option autoImplicit false
set_option maxHeartbeats 1000000
/-! P1: the pile's methods -/
namespace Law
open PySem PySem.Spec PyProof.Rows L2 Sn

def rowD (p : Str × Int) : Dv := .tup [.str p.1, .int p.2]
abbrev rD (rows : List (Str × Int)) : List Dv := rows.map rowD
inductive Bx where
  | leaf (n : Int)
  | br (rows : List (Str × Int))
deriving Inhabited
def bxD : Bx → Dv
  | .leaf n => .tup [.str "leaf", .int n]
  | .br rows => .tup [.str "branch", .lst (rD rows)]
abbrev kB (bs : List (Int × Bx)) : List (Key × Dv) := kmap Sum.inl bxD bs
abbrev kC (cs : List (Int × Int)) : List (Key × Dv) := kmap Sum.inl Dv.int cs
theorem valG_kB (bs : List (Int × Bx)) (i : Int) : valG (kB bs) (.inl i) = (valG bs i).map bxD := valG_kmap inl_inj _ _ _
theorem valG_kC (bs : List (Int × Int)) (i : Int) : valG (kC bs) (.inl i) = (valG bs i).map Dv.int := valG_kmap inl_inj _ _ _
theorem putG_kB (bs : List (Int × Bx)) (i : Int) (x : Bx) : putG (kB bs) (.inl i) (bxD x) = kB (putG bs i x) := putG_kmap inl_inj _ _ _ _
theorem putG_kC (bs : List (Int × Int)) (i : Int) (x : Int) : putG (kC bs) (.inl i) (.int x) = kC (putG bs i x) := putG_kmap inl_inj _ _ _ _
theorem dropG_kB (bs : List (Int × Bx)) (i : Int) : dropG (kB bs) (.inl i) = kB (dropG bs i) := dropG_kmap inl_inj _ _ _
theorem dropG_kC (bs : List (Int × Int)) (i : Int) : dropG (kC bs) (.inl i) = kC (dropG bs i) := dropG_kmap inl_inj _ _ _
/-- the pile at p, its tables at b and c -/
structure PAt (m : Mem) (p b c : Nat) (bs : List (Int × Bx)) (cs : List (Int × Int)) (k : Int) : Prop where
  hp : m[p]? = some (.ins 0 [.loc b, .loc c, .int k])
  hb : m[b]? = some (.dic (kB bs))
  hc : m[c]? = some (.dic (kC cs))
  pb : p ≠ b
  pc : p ≠ c
  bc : b ≠ c
/-- nothing else changed -/
def Fr (m m' : Mem) (p b c : Nat) : Prop := m.length ≤ m'.length ∧ ∀ n, n < m.length → n ≠ p → n ≠ b → n ≠ c → m'[n]? = m[n]?
theorem Fr.refl (m : Mem) (p b c : Nat) : Fr m m p b c := ⟨Nat.le_refl _, fun _ _ _ _ _ => rfl⟩
theorem Fr.trans {m m' m'' : Mem} {p b c : Nat} (h : Fr m m' p b c) (g : Fr m' m'' p b c) : Fr m m'' p b c :=
  ⟨Nat.le_trans h.1 g.1, fun n hn a1 a2 a3 => (g.2 n (Nat.lt_of_lt_of_le hn h.1) a1 a2 a3).trans (h.2 n hn a1 a2 a3)⟩
section
variable {m m' : Mem} {p b c : Nat} {bs bs' : List (Int × Bx)} {cs cs' : List (Int × Int)} {k k' : Int}
theorem lt_of_some {α : Type} {m : List α} {n : Nat} {x : α} (h : m[n]? = some x) : n < m.length := (List.getElem?_eq_some_iff.mp h).1
theorem PAt.lp (h : PAt m p b c bs cs k) : p < m.length := lt_of_some h.hp
theorem PAt.lb (h : PAt m p b c bs cs k) : b < m.length := lt_of_some h.hb
theorem PAt.lc (h : PAt m p b c bs cs k) : c < m.length := lt_of_some h.hc
theorem PAt.keep (h : PAt m p b c bs cs k) {p' : Nat} (hm : ∀ n, n < m.length → n ≠ p' → m'[n]? = m[n]?) (h1 : p ≠ p') (h2 : b ≠ p') (h3 : c ≠ p') : PAt m' p b c bs cs k :=
  ⟨(hm _ h.lp h1).trans h.hp, (hm _ h.lb h2).trans h.hb, (hm _ h.lc h3).trans h.hc, h.pb, h.pc, h.bc⟩
theorem PAt.app (h : PAt m p b c bs cs k) (x : Mem) : PAt (m ++ x) p b c bs cs k :=
  ⟨by rw [List.getElem?_append_left h.lp]; exact h.hp, by rw [List.getElem?_append_left h.lb]; exact h.hb, by rw [List.getElem?_append_left h.lc]; exact h.hc, h.pb, h.pc, h.bc⟩
theorem PAt.cut (h : PAt m' p b c bs cs k) (ht : m'.take m.length = m) (h1 : p < m.length) (h2 : b < m.length) (h3 : c < m.length) : PAt m p b c bs cs k := by
  have g : ∀ n, n < m.length → m[n]? = m'[n]? := fun n hn => by
    conv => lhs; rw [← ht]
    rw [List.getElem?_take, if_pos hn]
  exact ⟨(g _ h1).trans h.hp, (g _ h2).trans h.hb, (g _ h3).trans h.hc, h.pb, h.pc, h.bc⟩
/-- the end of a def that changed the pile -/
theorem fin_rtP (h0 : PAt m p b c bs cs k) (h : PAt m' p b c bs' cs' k') (f : Fr m m' p b c) (d : Dv) : ∃ m'', fin m (.rt d m') = .ok d m'' ∧ PAt m'' p b c bs' cs' k' ∧ Fr m m'' p b c := by
  rw [fin_rt_eq]
  split
  · rename_i g
    exact ⟨m, rfl, h.cut g.1 h0.lp h0.lb h0.lc, Fr.refl _ _ _ _⟩
  · exact ⟨m', rfl, h, f⟩
theorem fin_nxP (h0 : PAt m p b c bs cs k) (h : PAt m' p b c bs' cs' k') (f : Fr m m' p b c) (l : Lc) : ∃ m'', fin m (.nx l m') = .ok .non m'' ∧ PAt m'' p b c bs' cs' k' ∧ Fr m m'' p b c := by
  rw [fin_nx_eq]
  split
  · rename_i g
    exact ⟨m, rfl, h.cut g h0.lp h0.lb h0.lc, Fr.refl _ _ _ _⟩
  · exact ⟨m', rfl, h, f⟩
/-- what need refuses -/
def Odd (m : Mem) (bs : List (Int × Bx)) (d : Dv) : Prop := (∃ t, tyOf m d = some t ∧ t ≠ .int ∧ t ≠ .bool) ∨ (∃ x, d = .bl x) ∨ ∃ i, d = .int i ∧ valG bs i = none
theorem need_ok (P : PAt m p b c bs cs k) {i : Int} {x : Bx} (h : valG bs i = some x) : m_Pile_need [.loc p, .int i] m = .ok (.int i) m := by
  unfold m_Pile_need mkFn bd_Pile_need
  simp [↓P.hp, ↓P.hb, valG_kB, h]
theorem need_no (P : PAt m p b c bs cs k) {d : Dv} (h : Odd m bs d) : m_Pile_need [.loc p, d] m = .exc 7 m := by
  unfold m_Pile_need mkFn bd_Pile_need
  rcases h with ⟨t, h1, h2, h3⟩ | ⟨x, rfl⟩ | ⟨i, rfl, h⟩
  · simp [h1, h2, h3]
  · simp
  · simp [↓P.hp, ↓P.hb, valG_kB, h]
theorem fresh_ok (P : PAt m p b c bs cs k) (x : Bx) (hb : bs.length < 16777216) (hc : cs.length < 16777216) :
    ∃ m', m_Pile_fresh [.loc p, bxD x] m = .ok (.int (k + 1)) m' ∧ PAt m' p b c (putG bs (k + 1) x) (putG cs (k + 1) 0) (k + 1) ∧ Fr m m' p b c := by
  unfold m_Pile_fresh mkFn bd_Pile_fresh
  have h1 := P.pb
  have h2 := P.pc
  have h3 := P.bc
  have h1' := h1.symm
  have h2' := h2.symm
  have h3' := h3.symm
  have l1 := P.lp
  have l2 := P.lb
  have l3 := P.lc
  have s1 : ∀ (M : Mem) (x : MO), M.length = m.length → (M.set p x)[p]? = some x := fun M x e => List.getElem?_set_self (by rw [e]; exact l1)
  have s2 : ∀ (M : Mem) (x : MO), M.length = m.length → (M.set b x)[b]? = some x := fun M x e => List.getElem?_set_self (by rw [e]; exact l2)
  have s3 : ∀ (M : Mem) (x : MO), M.length = m.length → (M.set c x)[c]? = some x := fun M x e => List.getElem?_set_self (by rw [e]; exact l3)
  have t1 := fun (M : Mem) (x : MO) => (List.getElem?_set_ne (l := M) (a := x) h1 : _)
  have t2 := fun (M : Mem) (x : MO) => (List.getElem?_set_ne (l := M) (a := x) h2 : _)
  have t3 := fun (M : Mem) (x : MO) => (List.getElem?_set_ne (l := M) (a := x) h3 : _)
  have t1' := fun (M : Mem) (x : MO) => (List.getElem?_set_ne (l := M) (a := x) h1' : _)
  have t2' := fun (M : Mem) (x : MO) => (List.getElem?_set_ne (l := M) (a := x) h2' : _)
  have t3' := fun (M : Mem) (x : MO) => (List.getElem?_set_ne (l := M) (a := x) h3' : _)
  simp [↓P.hp, ↓P.hb, ↓P.hc, setIns, putI, ↓s1, ↓s2, ↓s3, ↓t1, ↓t2, ↓t3, ↓t1', ↓t2', ↓t3', hb, hc, putG_kB, putG_kC]
  refine fin_rtP P ⟨?_, ?_, ?_, h1, h2, h3⟩ ⟨by simp, fun n hn a1 a2 a3 => ?_⟩ _
  · simp [List.getElem?_set, h1, h2, h3, h1', h2', h3', l1, l2, l3]
  · simp [List.getElem?_set, h1, h2, h3, h1', h2', h3', l1, l2, l3]
  · simp [List.getElem?_set, h1, h2, h3, h1', h2', h3', l1, l2, l3]
  · simp [List.getElem?_set, a1.symm, a2.symm, a3.symm]
theorem leaf_ok (P : PAt m p b c bs cs k) (n : Int) (hb : bs.length < 16777216) (hc : cs.length < 16777216) :
    ∃ m', m_Pile_leaf [.loc p, .int n] m = .ok (.int (k + 1)) m' ∧ PAt m' p b c (putG bs (k + 1) (.leaf n)) (putG cs (k + 1) 0) (k + 1) ∧ Fr m m' p b c := by
  obtain ⟨m', h1, h2, h3⟩ := fresh_ok P (.leaf n) hb hc
  unfold m_Pile_leaf mkFn bd_Pile_leaf
  have h1 : m_Pile_fresh [.loc p, .tup [.str "leaf", .int n]] m = .ok (.int (k + 1)) m' := h1
  simp [P.hp, h1]
  exact fin_rtP P h2 h3 _
theorem hold_ok (P : PAt m p b c bs cs k) {i : Int} {x : Bx} {n : Int} (h : valG bs i = some x) (hn : valG cs i = some n) (hc : cs.length < 16777216) :
    ∃ m', m_Pile_hold [.loc p, .int i] m = .ok .non m' ∧ PAt m' p b c bs (putG cs i (n + 1)) k ∧ Fr m m' p b c := by
  unfold m_Pile_hold mkFn bd_Pile_hold
  have h1 := P.pb
  have h2 := P.pc
  have h3 := P.bc
  have l3 := P.lc
  simp [P.hp, need_ok P h, P.hc, valG_kC, hn, hc, putG_kC]
  refine fin_nxP P ⟨?_, ?_, ?_, h1, h2, h3⟩ ⟨by simp, fun n hn a1 a2 a3 => ?_⟩ _
  · simp [List.getElem?_set, h2.symm, P.hp]
  · simp [List.getElem?_set, h3.symm, P.hb]
  · simp [List.getElem?_set, l3]
  · simp [List.getElem?_set, a3.symm]
theorem hold_no (P : PAt m p b c bs cs k) {d : Dv} (h : Odd m bs d) : m_Pile_hold [.loc p, d] m = .exc 7 m := by
  unfold m_Pile_hold mkFn bd_Pile_hold
  simp [P.hp, need_no P h]
theorem holders_ok (P : PAt m p b c bs cs k) {i : Int} {x : Bx} {n : Int} (h : valG bs i = some x) (hn : valG cs i = some n) : m_Pile_holders [.loc p, .int i] m = .ok (.int n) m := by
  unfold m_Pile_holders mkFn bd_Pile_holders
  simp [P.hp, need_ok P h, P.hc, valG_kC, hn]
theorem holders_no (P : PAt m p b c bs cs k) {d : Dv} (h : Odd m bs d) : m_Pile_holders [.loc p, d] m = .exc 7 m := by
  unfold m_Pile_holders mkFn bd_Pile_holders
  simp [P.hp, need_no P h]
theorem content_ok (P : PAt m p b c bs cs k) {i : Int} {x : Bx} (h : valG bs i = some x) (hz : ∀ rows, x = .br rows → rows.length ≤ 16777216) : m_Pile_content [.loc p, .int i] m = .ok (bxD x) m := by
  unfold m_Pile_content mkFn bd_Pile_content
  cases x with
  | leaf n => simp [P.hp, need_ok P h, P.hb, valG_kB, h, bxD]
  | br rows =>
    have := hz rows rfl
    have e : ¬ (("branch" : Str) = "leaf") := by decide +kernel
    simp [P.hp, need_ok P h, P.hb, valG_kB, h, bxD, e, this]
theorem content_no (P : PAt m p b c bs cs k) {d : Dv} (h : Odd m bs d) : m_Pile_content [.loc p, d] m = .exc 7 m := by
  unfold m_Pile_content mkFn bd_Pile_content
  simp [P.hp, need_no P h]
theorem sortKiD_ok {α : Type} {m : Mem} {n : Nat} {f : α → Dv} {d : List (Int × α)} (h : m[n]? = some (.dic (kmap Sum.inl f d))) : sortKiD [.loc n] m = .ok (.lst (((keys d).mergeSort ile).map Dv.int)) m := by
  have e : dcAt m (.loc n) = some (.k (kmap Sum.inl f d)) := by rw [dcAt_r, h]
  have e2 : kis ((kmap Sum.inl f d).map (·.1)) = some (keys d) := by
    have := keys_kmap (κ' := Key) Sum.inl f d
    unfold keys at this
    rw [this, kis_map] <;> rfl
  unfold sortKiD
  simp only [e, e2]
theorem kept_ok (P : PAt m p b c bs cs k) : m_Pile_kept [.loc p] m = .ok (.lst (((keys bs).mergeSort ile).map Dv.int)) m := by
  unfold m_Pile_kept mkFn bd_Pile_kept
  simp [P.hp, sortKiD_ok P.hb]
theorem let_go_no (P : PAt m p b c bs cs k) {d : Dv} (h : Odd m bs d) : m_Pile_let_go [.loc p, d] m = .exc 7 m := by
  unfold m_Pile_let_go mkFn bd_Pile_let_go
  simp [P.hp, need_no P h]
theorem init_ok {m : Mem} : ∃ m', m_Pile_init [.loc m.length] (m ++ [.ins 0 []]) = .ok .non m' ∧ PAt m' m.length (m.length + 1) (m.length + 2) [] [] 0 ∧ ∀ n, n < m.length → m'[n]? = m[n]? := by
  refine ⟨m ++ [.ins 0 [.loc (m.length + 1), .loc (m.length + 2), .int 0], .dic [], .dic []], ?_, ?_, ?_⟩
  · unfold m_Pile_init mkFn bd_Pile_init
    have e : ∀ (x y : MO) (z : Mem), (m ++ x :: z).set m.length y = m ++ y :: z := fun x y z => by simp
    have e2 : ∀ (x : MO) (z : Mem), (m ++ x :: z)[m.length]? = some x := fun x z => by simp
    simp [setIns, putI, ↓e, ↓e2]
    rw [fin_nx_eq, if_neg]
    intro h
    have := congrArg (fun z : Mem => z[m.length]?) h
    simp at this
  · exact ⟨by simp, by rw [List.getElem?_append_right (by omega)]; simp; rfl, by rw [List.getElem?_append_right (by omega)]; simp; rfl, by omega, by omega, by omega⟩
  · intro n hn
    exact List.getElem?_append_left hn

/-! ### let_go -/
def Bx.inner : Bx → List Int
  | .leaf _ => []
  | .br rows => rows.map (·.2)
def sz (bs : List (Int × Bx)) : Nat := (bs.map fun p => p.2.inner.length).sum
def lg : Nat → List Int → List (Int × Bx) → List (Int × Int) → Int → Option (List (Int × Bx) × List (Int × Int) × Int)
  | 0, _, _, _, _ => none
  | n + 1, st, bs, cs, g => match st.getLast? with
    | none => some (bs, cs, g)
    | some one =>
      if 1 < (valG cs one).getD 1 then lg n st.dropLast bs (putG cs one ((valG cs one).getD 1 - 1)) g
      else match valG bs one with
        | none => lg n st.dropLast bs cs g
        | some x => lg n (st.dropLast ++ x.inner) (dropG bs one) (dropG cs one) (g + 1)
theorem sz_drop {bs : List (Int × Bx)} {i : Int} {x : Bx} (h : valG bs i = some x) : sz (dropG bs i) + x.inner.length ≤ sz bs := by
  induction bs with
  | nil => cases h
  | cons q r ih =>
    rw [valG_cons] at h
    unfold sz dropG at *
    by_cases e : q.1 = i
    · rw [if_pos e] at h
      cases h
      rw [List.filter_cons_of_neg (by simp [e])]
      have : ∀ r : List (Int × Bx), ((r.filter fun kv => decide (kv.1 ≠ i)).map fun p => p.2.inner.length).sum ≤ (r.map fun p => p.2.inner.length).sum := by
        intro r
        induction r with
        | nil => simp
        | cons a r ih =>
          by_cases g : a.1 = i
          · rw [List.filter_cons_of_neg (by simp [g])]
            simp only [List.map_cons, List.sum_cons]; omega
          · rw [List.filter_cons_of_pos (by simp [g])]
            simp only [List.map_cons, List.sum_cons]; omega
      have := this r
      simp only [List.map_cons, List.sum_cons]; omega
    · rw [if_neg e] at h
      have := ih h
      rw [List.filter_cons_of_pos (by simp [e])]
      simp only [List.map_cons, List.sum_cons]; omega
theorem app_loop {p b c w : Nat} {bs : List (Int × Bx)} {cs : List (Int × Int)} {k : Int} (rows : List (Str × Int)) : ∀ (st : List Int) (m : Mem) (x0 x1 x3 x4 x5 x6 a7 a8 : Option Dv), PAt m p b c bs cs k → m[w]? = some (.lst (st.map Dv.int)) → w ≠ p → w ≠ b → w ≠ c → st.length + rows.length < 16777216 →
    ∃ m' a7' a8', Sn.forM (tg2 7 8) lf_Pile_let_go_1 (rD rows) [x0, x1, some (.loc w), x3, x4, x5, x6, a7, a8] m = .nx [x0, x1, some (.loc w), x3, x4, x5, x6, a7', a8'] m' ∧ PAt m' p b c bs cs k ∧
      m'[w]? = some (.lst ((st ++ rows.map (·.2)).map Dv.int)) ∧ m'.length = m.length ∧ ∀ n, n ≠ w → m'[n]? = m[n]? := by
  induction rows with
  | nil => intro st m x0 x1 x3 x4 x5 x6 a7 a8 P hw h1 h2 h3 hl; exact ⟨m, a7, a8, rfl, P, by simpa using hw, rfl, fun _ _ => rfl⟩
  | cons r rows ih =>
    intro st m x0 x1 x3 x4 x5 x6 a7 a8 P hw h1 h2 h3 hl
    simp only [List.length_cons] at hl
    have lw := lt_of_some hw
    obtain ⟨m', a7', a8', e1, e2, e3, e4, e5⟩ := ih (st ++ [r.2]) (m.set w (.lst ((st ++ [r.2]).map Dv.int))) x0 x1 x3 x4 x5 x6 (some (.str r.1)) (some (.int r.2))
      (P.keep (p' := w) (fun n _ hn => List.getElem?_set_ne (Ne.symm hn)) h1.symm h2.symm h3.symm) (List.getElem?_set_self lw) h1 h2 h3 (by simp; omega)
    refine ⟨m', a7', a8', ?_, e2, ?_, by rw [e4]; simp, fun n hn => (e5 n hn).trans (List.getElem?_set_ne (Ne.symm hn))⟩
    · have hl' : st.length < 16777216 := by omega
      refine (forM_cons (l2 := [x0, x1, some (.loc w), x3, x4, x5, x6, some (.str r.1), some (.int r.2)]) (m2 := m.set w (.lst ((st ++ [r.2]).map Dv.int))) (x := rowD r) (r := rD rows) rfl ?_).trans e1
      unfold lf_Pile_let_go_1
      simp [↓hw, hl']
    · rw [e3]; simp
theorem lg_run {p b c w : Nat} {k : Int} {x1 : Option Dv} (w1 : w ≠ p) (w2 : w ≠ b) (w3 : w ≠ c) : ∀ (n : Nat) (st : List Int) (bs : List (Int × Bx)) (cs : List (Int × Int)) (g : Int) (m : Mem) (a4 a5 a6 a7 a8 : Option Dv), PAt m p b c bs cs k → m[w]? = some (.lst (st.map Dv.int)) →
    (∀ i x, valG bs i = some x → ∃ n, valG cs i = some n) → st.length + sz bs < n → st.length + sz bs < 16777216 → cs.length < 16777216 →
    ∃ bs' cs' g' m' a4' a5' a6' a7' a8', lg n st bs cs g = some (bs', cs', g') ∧ whileM (tTruth (eVar 2)) lw_Pile_let_go_2 n [some (.loc p), x1, some (.loc w), some (.int g), a4, a5, a6, a7, a8] m = .nx [some (.loc p), x1, some (.loc w), some (.int g'), a4', a5', a6', a7', a8'] m' ∧
      PAt m' p b c bs' cs' k ∧ m.length ≤ m'.length ∧ ∀ n, n < m.length → n ≠ p → n ≠ b → n ≠ c → n ≠ w → m'[n]? = m[n]? := by
  intro n
  induction n with
  | zero => intro st bs cs g m a4 a5 a6 a7 a8 P hw hk h1; omega
  | succ n ih =>
    intro st bs cs g m a4 a5 a6 a7 a8 P hw hk h1 h2 h3
    have s1 := P.pb
    have s2 := P.pc
    have s3 := P.bc
    have lw := lt_of_some hw
    rcases List.eq_nil_or_concat st with rfl | ⟨rest, one, rfl⟩
    · refine ⟨bs, cs, g, m, a4, a5, a6, a7, a8, rfl, while_nil _ _ _ (by simp [↓hw]), P, Nat.le_refl _, fun _ _ _ _ _ _ => rfl⟩
    · simp only [List.concat_eq_append] at *
      have ht : tTruth (eVar 2) [some (.loc p), x1, some (.loc w), some (.int g), a4, a5, a6, a7, a8] m = .ok true m := by simp [↓hw]
      have hlast : (rest.map Dv.int ++ [Dv.int one])[(rest.map Dv.int ++ [Dv.int one]).length - 1]? = some (.int one) := by simp
      have hw' : m[w]? = some (.lst (rest.map Dv.int ++ [Dv.int one])) := by rw [hw]; simp
      -- the memory behind the pop
      have P1 : PAt (m.set w (.lst (rest.map Dv.int))) p b c bs cs k := P.keep (p' := w) (fun n _ hn => List.getElem?_set_ne (Ne.symm hn)) w1.symm w2.symm w3.symm
      have W1 : (m.set w (.lst (rest.map Dv.int)))[w]? = some (.lst (rest.map Dv.int)) := List.getElem?_set_self lw
      have L1 : (m.set w (.lst (rest.map Dv.int))).length = m.length := by simp
      have F1 : ∀ n, n ≠ w → (m.set w (.lst (rest.map Dv.int)))[n]? = m[n]? := fun n hn => List.getElem?_set_ne (Ne.symm hn)
      generalize hm1 : m.set w (.lst (rest.map Dv.int)) = m1 at P1 W1 L1 F1
      have gl : (rest ++ [one]).getLast? = some one := by simp
      have dl : (rest ++ [one]).dropLast = rest := by simp
      simp only [List.length_append, List.length_cons, List.length_nil] at h1 h2
      unfold lg
      simp only [gl, dl]
      by_cases hleft : 1 < (valG cs one).getD 1
      · obtain ⟨q, hq⟩ : ∃ q, valG cs one = some q := by
          cases z : valG cs one with
          | none => rw [z] at hleft; simp at hleft
          | some q => exact ⟨q, rfl⟩
        rw [hq] at hleft
        have hleft : 1 < q := hleft
        rw [if_pos (by rw [hq]; exact hleft)]
        have P2 : PAt (m1.set c (.dic (kC (putG cs one (q - 1))))) p b c bs (putG cs one (q - 1)) k := by
          refine ⟨?_, ?_, List.getElem?_set_self P1.lc, s1, s2, s3⟩
          · rw [List.getElem?_set_ne s2.symm]; exact P1.hp
          · rw [List.getElem?_set_ne s3.symm]; exact P1.hb
        have W2 : (m1.set c (.dic (kC (putG cs one (q - 1)))))[w]? = some (.lst (rest.map Dv.int)) := by rw [List.getElem?_set_ne w3.symm]; exact W1
        obtain ⟨bs', cs', g', m', a4', a5', a6', a7', a8', e1, e2, e3, e4, e5⟩ := ih rest bs (putG cs one (q - 1)) g _ (some (.int one)) (some (.int (q - 1))) a6 a7 a8 P2 W2 (fun i x hi => by
          rw [valG_put]
          split
          · exact ⟨_, rfl⟩
          · exact hk i x hi) (by omega) (by omega) (by
          have := keys_put cs one (q - 1)
          have hm : one ∈ keys cs := Classical.byContradiction fun z => by rw [valG_none.mpr z] at hq; cases hq
          rw [if_pos hm] at this
          have := congrArg List.length this
          unfold keys at this
          rw [List.length_map, List.length_map] at this
          omega)
        refine ⟨bs', cs', g', m', a4', a5', a6', a7', a8', by simpa [hq] using e1, ?_, e3, ?_, ?_⟩
        · rw [while_one _ _ _ ht (l2 := [some (.loc p), x1, some (.loc w), some (.int g), some (.int one), some (.int (q - 1)), a6, a7, a8]) (m2 := m1.set c (.dic (kC (putG cs one (q - 1)))))]
          · exact e2
          · have q1 : 0 < q - 1 := by omega
            unfold lw_Pile_let_go_2
            simp [↓hw', hm1, ↓P1.hp, ↓P1.hc, valG_kC, hq, q1, h3, putG_kC, hleft]
        · rw [← L1]; refine Nat.le_trans ?_ e4; simp
        · intro n hn n1 n2 n3 n4
          rw [e5 n (by simp; omega) n1 n2 n3 n4, List.getElem?_set_ne (Ne.symm n3), F1 n n4]
      · rw [if_neg hleft]
        have hmax : ∃ j, (∀ M : Mem, maxD [.int 0, .int ((valG cs one).getD 1 - 1)] M = .ok (.int 0) M) := ⟨(), fun M => by
          show Res.ok (Dv.int (if (valG cs one).getD 1 - 1 > 0 then _ else 0)) M = _
          rw [if_neg (by omega)]⟩
        obtain ⟨_, hmax⟩ := hmax
        have hget : ((valG cs one).map Dv.int).getD (.int 1) = .int ((valG cs one).getD 1) := by cases valG cs one <;> rfl
        cases hb : valG bs one with
        | none =>
          obtain ⟨bs', cs', g', m', a4', a5', a6', a7', a8', e1, e2, e3, e4, e5⟩ := ih rest bs cs g _ (some (.int one)) (some (.int 0)) a6 a7 a8 P1 W1 hk (by omega) (by omega) h3
          refine ⟨bs', cs', g', m', a4', a5', a6', a7', a8', e1, ?_, e3, by omega, fun n hn n1 n2 n3 n4 => by rw [e5 n (by omega) n1 n2 n3 n4, F1 n n4]⟩
          rw [while_one _ _ _ ht (l2 := [some (.loc p), x1, some (.loc w), some (.int g), some (.int one), some (.int 0), a6, a7, a8]) (m2 := m1)]
          · exact e2
          · unfold lw_Pile_let_go_2
            simp [↓hw', hm1, ↓P1.hp, ↓P1.hc, ↓P1.hb, valG_kC, valG_kB, hb, hget, ↓hmax]
        | some x =>
          obtain ⟨q, hq⟩ := hk one x hb
          have hz := sz_drop hb
          let m2 := (m1.set b (.dic (kB (dropG bs one)))).set c (.dic (kC (dropG cs one)))
          have P2 : PAt m2 p b c (dropG bs one) (dropG cs one) k := by
            refine ⟨?_, ?_, List.getElem?_set_self (by simp; exact P1.lc), s1, s2, s3⟩
            · rw [List.getElem?_set_ne s2.symm, List.getElem?_set_ne s1.symm]; exact P1.hp
            · rw [List.getElem?_set_ne s3.symm, List.getElem?_set_self P1.lb]
          have W2 : m2[w]? = some (.lst (rest.map Dv.int)) := by rw [List.getElem?_set_ne w3.symm, List.getElem?_set_ne w2.symm]; exact W1
          have L2 : m2.length = m.length := by simp [m2, L1]
          have F2 : ∀ n, n ≠ b → n ≠ c → n ≠ w → m2[n]? = m[n]? := fun n n1 n2 n3 => by rw [List.getElem?_set_ne n2.symm, List.getElem?_set_ne n1.symm, F1 n n3]
          have hk2 : ∀ i y, valG (dropG bs one) i = some y → ∃ n, valG (dropG cs one) i = some n := fun i y hi => by
            rw [valG_drop] at hi ⊢
            split at hi
            · cases hi
            · rename_i z; rw [if_neg z]; exact hk i y hi
          have l3 : (dropG cs one).length ≤ cs.length := List.length_filter_le ..
          have hpop : ∀ M : Mem, (m1.set b (.dic (kB (dropG bs one))))[c]? = some (.dic (kC cs)) := fun _ => by rw [List.getElem?_set_ne s3]; exact P1.hc
          have hpop2 : (m1.set b (.dic (kB (dropG bs one))))[p]? = some (.ins 0 [.loc b, .loc c, .int k]) := by rw [List.getElem?_set_ne s1.symm]; exact P1.hp
          have hpop := hpop m
          have hq1 : ¬ 1 < q := by rw [hq] at hleft; exact hleft
          cases x with
          | leaf v =>
            obtain ⟨bs', cs', g', m', a4', a5', a6', a7', a8', e1, e2, e3, e4, e5⟩ := ih rest (dropG bs one) (dropG cs one) (g + 1) m2 (some (.int one)) (some (.int 0)) (some (bxD (.leaf v))) a7 a8 P2 W2 hk2 (by simp only [Bx.inner, List.length_nil] at hz; omega) (by simp only [Bx.inner, List.length_nil] at hz; omega) (by omega)
            refine ⟨bs', cs', g', m', a4', a5', a6', a7', a8', by simpa [Bx.inner] using e1, ?_, e3, by omega, fun n hn n1 n2 n3 n4 => by rw [e5 n (by omega) n1 n2 n3 n4, F2 n n2 n3 n4]⟩
            rw [while_one _ _ _ ht (l2 := [some (.loc p), x1, some (.loc w), some (.int (g + 1)), some (.int one), some (.int 0), some (bxD (.leaf v)), a7, a8]) (m2 := m2)]
            · exact e2
            · unfold lw_Pile_let_go_2
              have e : ¬ (("leaf" : Str) = "branch") := by decide +kernel
              simp [↓hw', hm1, ↓P1.hp, ↓P1.hc, ↓P1.hb, valG_kC, valG_kB, hb, hget, ↓hmax, dropG_kB, dropG_kC, ↓hpop, ↓hpop2, hq, bxD, e, m2, hq1]
          | br rows =>
            have hz : sz (dropG bs one) + rows.length ≤ sz bs := by simpa [Bx.inner] using hz
            obtain ⟨m3, a7', a8', u1, u2, u3, u4, u5⟩ := app_loop rows rest m2 (some (.loc p)) x1 (some (.int (g + 1))) (some (.int one)) (some (.int 0)) (some (bxD (.br rows))) a7 a8 P2 W2 w1 w2 w3 (by omega)
            obtain ⟨bs', cs', g', m', a4', a5', a6', a7'', a8'', e1, e2, e3, e4, e5⟩ := ih (rest ++ rows.map (·.2)) (dropG bs one) (dropG cs one) (g + 1) m3 (some (.int one)) (some (.int 0)) (some (bxD (.br rows))) a7' a8' u2 u3 hk2 (by simp; omega) (by simp; omega) (by omega)
            refine ⟨bs', cs', g', m', a4', a5', a6', a7'', a8'', by simpa [Bx.inner] using e1, ?_, e3, by omega, fun n hn n1 n2 n3 n4 => by rw [e5 n (by omega) n1 n2 n3 n4, u5 n n4, F2 n n2 n3 n4]⟩
            rw [while_one _ _ _ ht (l2 := [some (.loc p), x1, some (.loc w), some (.int (g + 1)), some (.int one), some (.int 0), some (bxD (.br rows)), a7', a8']) (m2 := m3)]
            · exact e2
            · unfold lw_Pile_let_go_2
              simp only [m2, bxD] at u1
              simp [↓hw', hm1, ↓P1.hp, ↓P1.hc, ↓P1.hb, valG_kC, valG_kB, hb, hget, ↓hmax, dropG_kB, dropG_kC, ↓hpop, ↓hpop2, hq, bxD, u1, hq1]
theorem let_go_ok {m : Mem} {p b c : Nat} {bs : List (Int × Bx)} {cs : List (Int × Int)} {k : Int} (P : PAt m p b c bs cs k) {i : Int} {x : Bx} (h : valG bs i = some x) (hk : ∀ i x, valG bs i = some x → ∃ n, valG cs i = some n) (hs : sz bs < 1000000) (hc : cs.length < 1000000) :
    ∃ bs' cs' g' m', lg fuelN [i] bs cs 0 = some (bs', cs', g') ∧ m_Pile_let_go [.loc p, .int i] m = .ok (.int g') m' ∧ PAt m' p b c bs' cs' k ∧ Fr m m' p b c := by
  have lp := P.lp
  have lb := P.lb
  have lc := P.lc
  obtain ⟨bs', cs', g', m', a4, a5, a6, a7, a8, e1, e2, e3, e4, e5⟩ := lg_run (p := p) (b := b) (c := c) (w := m.length) (k := k) (x1 := some (.int i)) (by omega) (by omega) (by omega) fuelN [i] bs cs 0 (m ++ [.lst [.int i]]) none none none none none (P.app _) (by simp) hk (by simp [fuelN]; omega) (by simp; omega) (by omega)
  obtain ⟨m'', f1, f2, f3⟩ := fin_rtP P e3 ⟨by simp at e4; omega, fun n hn a1 a2 a3 => by rw [e5 n (by simp; omega) a1 a2 a3 (by omega), List.getElem?_append_left hn]⟩ (.int g')
  refine ⟨bs', cs', g', m'', e1, ?_, f2, f3⟩
  unfold m_Pile_let_go mkFn bd_Pile_let_go
  simp [P.hp, need_ok P h, sWhile, e2, f1]
end
end Law
/-! P2_k08 -/
set_option Elab.async false
set_option linter.all false
set_option maxRecDepth 100000
set_option autoImplicit false
set_option maxHeartbeats 1000000
/-! P2: the tree -/
namespace Law
open PySem PySem.Spec PyProof.Rows L2 Sn

def oD (o : Option Int) : Dv := match o with
  | some b => .int b
  | none => .non
theorem oD_n : oD none = .non := rr rfl
theorem oD_s (i : Int) : oD (some i) = .int i := rr rfl
def Bx.rows : Bx → List (Str × Int)
  | .leaf _ => []
  | .br rows => rows
def inRows (bs : List (Int × Bx)) (o : Option Int) : List (Str × Int) := match o with
  | none => []
  | some i => match valG bs i with
    | some x => x.rows
    | none => []
/-- a box that is none or there -/
def There (bs : List (Int × Bx)) (o : Option Int) : Prop := ∀ i, o = some i → ∃ x, valG bs i = some x
/-- every box's rows lead to boxes that are there -/
structure Wf (bs : List (Int × Bx)) : Prop where
  there : ∀ i x, valG bs i = some x → ∀ r ∈ x.rows, ∃ y, valG bs r.2 = some y
  few : ∀ i x, valG bs i = some x → x.rows.length ≤ 1000
def fnd (bs : List (Int × Bx)) : Option Int → List Str → Option Int
  | here, [] => here
  | here, n :: r => fnd bs (valG (inRows bs here) n) r
theorem There.step {bs : List (Int × Bx)} (W : Wf bs) {o : Option Int} (h : There bs o) (n : Str) : There bs (valG (inRows bs o) n) := fun i e => by
  have hm := valG_mem e
  cases o with
  | none => cases hm
  | some j =>
    obtain ⟨x, hx⟩ := h j rfl
    simp only [inRows, hx] at hm
    exact W.there j x hx _ hm
theorem There.fnd {bs : List (Int × Bx)} (W : Wf bs) : ∀ (names : List Str) {o : Option Int}, There bs o → There bs (fnd bs o names)
  | [], _, h => h
  | n :: r, _, h => There.fnd W r (h.step W n)
end Law
/-! P3_k08 -/
set_option Elab.async false
set_option linter.all false
set_option maxRecDepth 100000
set_option autoImplicit false
set_option maxHeartbeats 1000000
/-! P3: the store's methods that change nothing -/
namespace Law
open PySem PySem.Spec PyProof.Rows L2 Sn

/-- the store at s: its pile at p, the live top, the table of shots at h, the number taken -/
structure SAt (m : Mem) (s p b c h : Nat) (bs : List (Int × Bx)) (cs : List (Int × Int)) (k live : Int) (sh : List (Int × Int)) (taken : Int) : Prop where
  hs : m[s]? = some (.ins 1 [.loc p, .int live, .loc h, .int taken])
  P : PAt m p b c bs cs k
  hh : m[h]? = some (.dic (kC sh))
  sp : s ≠ p
  sb : s ≠ b
  sc : s ≠ c
  sh : s ≠ h
  ph : p ≠ h
  bh : b ≠ h
  ch : c ≠ h
/-- a list or a tuple -/
def Lt (x : Dv) (ds : List Dv) : Prop := x = .lst ds ∨ x = .tup ds
theorem Lt.itm {x : Dv} {ds : List Dv} (h : Lt x ds) : itm x = some ds := by rcases h with rfl | rfl <;> rfl
/-- names in order -/
def gN (s : Str) : Prop := 1 ≤ s.length ∧ s.length ≤ 8 ∧ ∀ x ∈ tx s, 97 ≤ x ∧ x ≤ 122
theorem gN.is {s : Str} (h : gN s) : isN (.str s) = true := by
  show (decide (1 ≤ s.length) && (decide (s.length ≤ 8) && (tx s).all fun c => decide (97 ≤ c ∧ c ≤ 122))) = true
  rw [decide_eq_true h.1, decide_eq_true h.2.1, List.all_eq_true.mpr fun c hc => decide_eq_true (h.2.2 c hc)]
  rfl
section
variable {m : Mem} {s p b c h : Nat} {bs : List (Int × Bx)} {cs : List (Int × Int)} {k live : Int} {sh : List (Int × Int)} {taken : Int}
/-- the top of a view: None, or a shot's number -/
def vw0 (live : Int) (sh : List (Int × Int)) : Option Int → Option Int
  | none => some live
  | some i => valG sh i
def kindD (bs : List (Int × Bx)) (o : Option Int) : Dv := match o with
  | none => .non
  | some i => match valG bs i with
    | some (.leaf _) => .str "leaf"
    | _ => .str "branch"
end
end Law
/-! P4_k08 -/
set_option Elab.async false
set_option linter.all false
set_option maxRecDepth 100000
set_option autoImplicit false
set_option maxHeartbeats 1000000
/-! P4: rows changed, branches made -/
namespace Law
open PySem PySem.Spec PyProof.Rows L2 Sn

theorem finF_loc {m : Mem} {ds : List Dv} (h : clos m.length ds = true) : finF m (.rt (.loc m.length) (m ++ [.lst ds])) = .ok (.lst ds) m := by
  unfold finF
  simp [h]
theorem clos_rD (n : Nat) (rows : List (Str × Int)) : clos n (rD rows) = true := clos_map _ _ (fun q => by simp [rowD]) _
theorem plc_cons (name : Str) (box : Int) (put : Bool) (p : Str × Int) (r : List (Str × Int)) : plc name box put (p :: r) = (if !put && decide (¬ slt p.1 name) then [(name, box)] else []) ++ ((if p.1 = name then [] else [p]) ++ plc name box (put || decide (¬ slt p.1 name)) r) := rfl
theorem plc_len (name : Str) (box : Int) : ∀ (rows : List (Str × Int)) (put : Bool), (plc name box put rows).length ≤ rows.length + 1
  | [], put => by cases put <;> simp [plc]
  | p :: r, put => by
    have ih := plc_len name box r
    rw [plc_cons]
    have h2 : plc name box true r = dropG r name := plc_true _ _ _
    have h3 : (dropG r name).length ≤ r.length := List.length_filter_le ..
    have h4 := ih false
    rw [List.length_append, List.length_append, List.length_cons]
    have g1 : (if p.1 = name then [] else [p]).length ≤ 1 := by split <;> simp
    cases put
    · by_cases h : slt p.1 name
      · simp [h]; omega
      · simp [h, h2]; omega
    · simp [h2]; omega
/-- each row's box held once more -/
def heldAll (cs : List (Int × Int)) (rows : List (Str × Int)) : List (Int × Int) := rows.foldl (fun cs r => putG cs r.2 ((valG cs r.2).getD 0 + 1)) cs
theorem keys_put_in {κ α : Type} [DecidableEq κ] {kvs : List (κ × α)} {k : κ} {v w : α} (h : valG kvs k = some w) : keys (putG kvs k v) = keys kvs := by
  rw [keys_put, if_pos]
  exact Classical.byContradiction fun z => by rw [valG_none.mpr z] at h; cases h
theorem keys_len {κ α : Type} (kvs : List (κ × α)) : (keys kvs).length = kvs.length := List.length_map _
theorem branch_ok {m : Mem} {p b c : Nat} {bs : List (Int × Bx)} {cs : List (Int × Int)} {k : Int} (P : PAt m p b c bs cs k) (rows : List (Str × Int)) (hr : ∀ r ∈ rows, ∃ x, valG bs r.2 = some x) (hk : ∀ i x, valG bs i = some x → ∃ n, valG cs i = some n)
    (hb : bs.length < 1000000) (hc : cs.length < 1000000) (hl : rows.length ≤ 1000) :
    ∃ m', m_Pile_branch [.loc p, .lst (rD rows)] m = .ok (.int (k + 1)) m' ∧ PAt m' p b c (putG bs (k + 1) (.br rows)) (putG (heldAll cs rows) (k + 1) 0) (k + 1) ∧ Fr m m' p b c ∧ (heldAll cs rows).length = cs.length := by
  have H1 : ∀ (rs : List (Str × Int)) (x1 a d : Option Dv), (∀ r ∈ rs, ∃ x, valG bs r.2 = some x) → ∃ a' d', Sn.forM (tg2 2 3) lf_Pile_branch_1 (rD rs) [some (.loc p), x1, a, d] m = .nx [some (.loc p), x1, a', d'] m := by
    intro rs
    induction rs with
    | nil => intro x1 a d _; exact ⟨a, d, rfl⟩
    | cons r rs ih =>
      intro x1 a d h
      obtain ⟨a', d', e⟩ := ih x1 (some (.str r.1)) (some (.int r.2)) fun z hz => h z (.tail _ hz)
      obtain ⟨x, hx⟩ := h r (.head _)
      refine ⟨a', d', (forM_cons (x := rowD r) (r := rD rs) (l2 := [some (.loc p), x1, some (.str r.1), some (.int r.2)]) (m2 := m) rfl ?_).trans e⟩
      unfold lf_Pile_branch_1
      simp [P.hp, need_ok P hx]
  have H2 : ∀ (rs : List (Str × Int)) (m : Mem) (cs : List (Int × Int)) (x1 a d : Option Dv), PAt m p b c bs cs k → (∀ r ∈ rs, ∃ x, valG bs r.2 = some x) → (∀ i x, valG bs i = some x → ∃ n, valG cs i = some n) → cs.length < 1000000 →
      ∃ a' d' m', Sn.forM (tg2 2 3) lf_Pile_branch_2 (rD rs) [some (.loc p), x1, a, d] m = .nx [some (.loc p), x1, a', d'] m' ∧ PAt m' p b c bs (heldAll cs rs) k ∧ Fr m m' p b c ∧ (heldAll cs rs).length = cs.length := by
    intro rs
    induction rs with
    | nil => intro m cs x1 a d P _ _ _; exact ⟨a, d, m, rfl, P, Fr.refl _ _ _ _, rfl⟩
    | cons r rs ih =>
      intro m cs x1 a d P h hk hc
      obtain ⟨x, hx⟩ := h r (.head _)
      obtain ⟨n, hn⟩ := hk _ x hx
      obtain ⟨m1, e1, P1, F1⟩ := hold_ok P hx hn (by omega)
      have hkeys : keys (putG cs r.2 (n + 1)) = keys cs := keys_put_in hn
      have hlen : (putG cs r.2 (n + 1)).length = cs.length := by rw [← keys_len, hkeys, keys_len]
      obtain ⟨a', d', m', e2, P2, F2, L2⟩ := ih m1 (putG cs r.2 (n + 1)) x1 (some (.str r.1)) (some (.int r.2)) P1 (fun z hz => h z (.tail _ hz)) (fun i y hi => by
        rw [valG_put]
        split
        · exact ⟨_, rfl⟩
        · exact hk i y hi) (by omega)
      have eq : heldAll cs (r :: rs) = heldAll (putG cs r.2 (n + 1)) rs := by unfold heldAll; simp [hn]
      rw [eq]
      refine ⟨a', d', m', (forM_cons (x := rowD r) (r := rD rs) (l2 := [some (.loc p), x1, some (.str r.1), some (.int r.2)]) (m2 := m1) rfl ?_).trans e2, P2, F1.trans F2, by omega⟩
      unfold lf_Pile_branch_2
      simp [P.hp, e1]
  obtain ⟨a1, d1, e1⟩ := H1 rows (some (.lst (rD rows))) none none hr
  obtain ⟨a2, d2, m2, e2, P2, F2, L2⟩ := H2 rows m cs (some (.lst (rD rows))) a1 d1 P hr hk hc
  obtain ⟨m3, e3, P3, F3⟩ := fresh_ok P2 (.br rows) (by omega) (by omega)
  have e3 : m_Pile_fresh [.loc p, .tup [.str "branch", .lst (rD rows)]] m2 = .ok (.int (k + 1)) m3 := e3
  obtain ⟨m4, e4, P4, F4⟩ := fin_rtP P P3 (F2.trans F3) (.int (k + 1))
  refine ⟨m4, ?_, P4, F4, L2⟩
  have hl' : rows.length ≤ 16777216 := by omega
  unfold m_Pile_branch mkFn bd_Pile_branch
  simp [e1, e2, P2.hp, hl', e3, e4]
end Law
/-! P5_k08 -/
set_option Elab.async false
set_option linter.all false
set_option maxRecDepth 100000
set_option autoImplicit false
set_option maxHeartbeats 1000000
/-! P5: the way rebuilt -/
namespace Law
open PySem PySem.Spec PyProof.Rows L2 Sn

theorem mem_plc {name : Str} {box : Int} {r : Str × Int} : ∀ {rows : List (Str × Int)} {put : Bool}, r ∈ plc name box put rows → r ∈ rows ∨ r.2 = box
  | [], put, h => by
    cases put with
    | true => cases h
    | false =>
      have h : r ∈ [(name, box)] := h
      rw [List.mem_singleton] at h
      subst h
      exact .inr rfl
  | p :: rs, put, h => by
    rw [plc_cons] at h
    rcases List.mem_append.mp h with h | h
    · split at h
      · rw [List.mem_singleton] at h
        subst h
        exact .inr rfl
      · cases h
    · rcases List.mem_append.mp h with h | h
      · split at h
        · cases h
        · rw [List.mem_singleton] at h
          subst h
          exact .inl (.head _)
      · rcases mem_plc h with h | h
        · exact .inl (.tail _ h)
        · exact .inr h
def rbRows (bs : List (Int × Bx)) (pk : Option Int) (nk : Str) (made : Option Int) : List (Str × Int) := match made with
  | some v => plc nk v false (inRows bs pk)
  | none => dropG (inRows bs pk) nk
/-- the boxes from place k - 1 up to the top, made anew -/
def rb (bs0 : List (Int × Bx)) (top : Option Int) (ns : List Str) : Nat → List (Int × Bx) → List (Int × Int) → Int → Option Int → List (Int × Bx) × List (Int × Int) × Int × Option Int
  | 0, bs, cs, K, made => (bs, cs, K, made)
  | k + 1, bs, cs, K, made =>
    rb bs0 top ns k (putG bs (K + 1) (.br (rbRows bs (fnd bs0 top (ns.take k)) (ns.getD k default) made)))
      (putG (heldAll cs (rbRows bs (fnd bs0 top (ns.take k)) (ns.getD k default) made)) (K + 1) 0) (K + 1) (some (K + 1))
/-- what was there is there -/
def Ext (bs0 bs : List (Int × Bx)) : Prop := ∀ i x, valG bs0 i = some x → valG bs i = some x
theorem Ext.refl (bs : List (Int × Bx)) : Ext bs bs := fun _ _ h => h
theorem Ext.trans {a b c : List (Int × Bx)} (h : Ext a b) (g : Ext b c) : Ext a c := fun i x e => g i x (h i x e)
theorem Ext.inRows {bs0 bs : List (Int × Bx)} (e : Ext bs0 bs) {o : Option Int} (h : There bs0 o) : inRows bs o = Law.inRows bs0 o := by
  cases o with
  | none => rfl
  | some i =>
    obtain ⟨x, hx⟩ := h i rfl
    unfold Law.inRows
    simp only [hx, e i x hx]
theorem Ext.there {bs0 bs : List (Int × Bx)} (e : Ext bs0 bs) {o : Option Int} (h : There bs0 o) : There bs o := fun i hi => by
  obtain ⟨x, hx⟩ := h i hi
  exact ⟨x, e i x hx⟩
theorem Ext.fnd {bs0 bs : List (Int × Bx)} (e : Ext bs0 bs) (W : Wf bs0) : ∀ (ns : List Str) {o : Option Int}, There bs0 o → fnd bs o ns = Law.fnd bs0 o ns
  | [], _, _ => rfl
  | n :: r, o, h => by
    show Law.fnd bs (valG (Law.inRows bs o) n) r = Law.fnd bs0 (valG (Law.inRows bs0 o) n) r
    rw [e.inRows h]
    exact e.fnd W r (h.step W n)
/-- all is in order, and K is the last number made -/
structure Ord (bs : List (Int × Bx)) (cs : List (Int × Int)) (K : Int) : Prop where
  W : Wf bs
  hk : ∀ i x, valG bs i = some x → ∃ n, valG cs i = some n
  le : ∀ i, i ∈ keys bs → 1 ≤ i ∧ i ≤ K
  lec : ∀ i, i ∈ keys cs → 1 ≤ i ∧ i ≤ K
  nd : (keys bs).Nodup
  ndc : (keys cs).Nodup
theorem Ord.new {bs : List (Int × Bx)} {cs : List (Int × Int)} {K : Int} (O : Ord bs cs K) {i : Int} (h : K < i) : valG bs i = none := by
  rw [valG_none]
  intro z
  have := (O.le i z).2
  omega
theorem heldAll_keys {bs : List (Int × Bx)} : ∀ (rows : List (Str × Int)) (cs : List (Int × Int)), (∀ r ∈ rows, ∃ x, valG bs r.2 = some x) → (∀ i x, valG bs i = some x → ∃ n, valG cs i = some n) → keys (heldAll cs rows) = keys cs
  | [], _, _, _ => rfl
  | r :: rs, cs, h, hk => by
    obtain ⟨x, hx⟩ := h r (.head _)
    obtain ⟨n, hn⟩ := hk _ x hx
    have e : heldAll cs (r :: rs) = heldAll (putG cs r.2 (n + 1)) rs := by unfold heldAll; simp [hn]
    rw [e, heldAll_keys rs _ (fun z hz => h z (.tail _ hz)) (fun i y hi => by
      rw [valG_put]
      split
      · exact ⟨_, rfl⟩
      · exact hk i y hi), keys_put_in hn]
/-- one more branch keeps the order -/
theorem Ord.branch {bs : List (Int × Bx)} {cs : List (Int × Int)} {K : Int} (O : Ord bs cs K) (h0 : 0 ≤ K) {x : Bx} (hr : ∀ r ∈ x.rows, ∃ y, valG bs r.2 = some y) (hl : x.rows.length ≤ 1000) : Ord (putG bs (K + 1) x) (putG (heldAll cs x.rows) (K + 1) 0) (K + 1) ∧ Ext bs (putG bs (K + 1) x) ∧ valG (putG bs (K + 1) x) (K + 1) = some x := by
  have hn := O.new (i := K + 1) (by omega)
  have E : Ext bs (putG bs (K + 1) x) := fun i y e => by
    rw [valG_put, if_neg]
    · exact e
    · rintro rfl; rw [hn] at e; cases e
  have hkeys := heldAll_keys x.rows cs hr O.hk
  refine ⟨⟨⟨fun i y hy r hr' => ?_, fun i y hy => ?_⟩, fun i y hy => ?_, fun i hi => ?_, fun i hi => ?_, nodup_put O.nd _ _, nodup_put (by rw [hkeys]; exact O.ndc) _ _⟩, E, by rw [valG_put, if_pos rfl]⟩
  · rw [valG_put] at hy
    split at hy
    · cases hy
      obtain ⟨z, hz⟩ := hr r hr'
      exact ⟨z, E _ _ hz⟩
    · obtain ⟨z, hz⟩ := O.W.there i y hy r hr'
      exact ⟨z, E _ _ hz⟩
  · rw [valG_put] at hy
    split at hy
    · cases hy; exact hl
    · exact O.W.few i y hy
  · rw [valG_put] at hy
    rw [valG_put]
    split at hy
    · rename_i e; rw [if_pos e]; exact ⟨_, rfl⟩
    · rename_i e
      rw [if_neg e]
      obtain ⟨n, hn⟩ := O.hk i y hy
      have hm : i ∈ keys (heldAll cs x.rows) := by
        rw [hkeys]
        exact Classical.byContradiction fun z => by rw [valG_none.mpr z] at hn; cases hn
      cases q : valG (heldAll cs x.rows) i with
      | none => exact absurd hm (valG_none.mp q)
      | some w => exact ⟨w, rfl⟩
  · rcases mem_keys_put.mp hi with rfl | h
    · omega
    · have := O.le i h; omega
  · rcases mem_keys_put.mp hi with rfl | h
    · omega
    · rw [hkeys] at h
      have := O.lec i h; omega

theorem putG_len {κ α : Type} [DecidableEq κ] (kvs : List (κ × α)) (k : κ) (v : α) : (putG kvs k v).length ≤ kvs.length + 1 := length_put kvs k v
theorem cutL_take {α : Type} (xs : List α) (j : Nat) : cutL xs none (some (j : Int)) = xs.take j := by
  unfold cutL
  rw [HT.sIx_none, HT.sIx_nat, List.drop_zero, Nat.sub_zero]
  rcases Nat.le_total j xs.length with g | g
  · rw [Nat.min_eq_left g]
  · rw [Nat.min_eq_right g, List.take_of_length_le (Nat.le_refl _), List.take_of_length_le g]
end Law
/-! P6_k08 -/
set_option Elab.async false
set_option linter.all false
set_option maxRecDepth 100000
set_option autoImplicit false
set_option maxHeartbeats 1000000
/-! P6: the store's methods that change it -/
namespace Law
open PySem PySem.Spec PyProof.Rows L2 Sn

def SFr (m m' : Mem) (s p b c h : Nat) : Prop := m.length ≤ m'.length ∧ ∀ n, n < m.length → n ≠ s → n ≠ p → n ≠ b → n ≠ c → n ≠ h → m'[n]? = m[n]?
theorem SFr.refl (m : Mem) (s p b c h : Nat) : SFr m m s p b c h := ⟨Nat.le_refl _, fun _ _ _ _ _ _ _ => rfl⟩
theorem SFr.trans {m m' m'' : Mem} {s p b c h : Nat} (f : SFr m m' s p b c h) (g : SFr m' m'' s p b c h) : SFr m m'' s p b c h :=
  ⟨Nat.le_trans f.1 g.1, fun n hn a1 a2 a3 a4 a5 => (g.2 n (Nat.lt_of_lt_of_le hn f.1) a1 a2 a3 a4 a5).trans (f.2 n hn a1 a2 a3 a4 a5)⟩
theorem Fr.s {m m' : Mem} {s p b c h : Nat} (f : Fr m m' p b c) : SFr m m' s p b c h := ⟨f.1, fun n hn _ a2 a3 a4 _ => f.2 n hn a2 a3 a4⟩
section
variable {m m' : Mem} {s p b c h : Nat} {bs bs' : List (Int × Bx)} {cs cs' : List (Int × Int)} {k k' live live' : Int} {sh sh' : List (Int × Int)} {taken taken' : Int}
theorem SAt.ls (S : SAt m s p b c h bs cs k live sh taken) : s < m.length := lt_of_some S.hs
theorem SAt.lh (S : SAt m s p b c h bs cs k live sh taken) : h < m.length := lt_of_some S.hh
theorem SAt.step (S : SAt m s p b c h bs cs k live sh taken) (P' : PAt m' p b c bs' cs' k') (F : Fr m m' p b c) : SAt m' s p b c h bs' cs' k' live sh taken :=
  ⟨(F.2 s S.ls S.sp S.sb S.sc).trans S.hs, P', (F.2 h S.lh S.ph.symm S.bh.symm S.ch.symm).trans S.hh, S.sp, S.sb, S.sc, S.sh, S.ph, S.bh, S.ch⟩
theorem SAt.cut (S : SAt m' s p b c h bs cs k live sh taken) (ht : m'.take m.length = m) (h1 : s < m.length) (h2 : p < m.length) (h3 : b < m.length) (h4 : c < m.length) (h5 : h < m.length) : SAt m s p b c h bs cs k live sh taken := by
  have g : ∀ n, n < m.length → m[n]? = m'[n]? := fun n hn => by
    conv => lhs; rw [← ht]
    rw [List.getElem?_take, if_pos hn]
  exact ⟨(g _ h1).trans S.hs, S.P.cut ht h2 h3 h4, (g _ h5).trans S.hh, S.sp, S.sb, S.sc, S.sh, S.ph, S.bh, S.ch⟩
theorem fin_rtS (S0 : SAt m s p b c h bs cs k live sh taken) (S : SAt m' s p b c h bs' cs' k' live' sh' taken') (f : SFr m m' s p b c h) (d : Dv) : ∃ m'', fin m (.rt d m') = .ok d m'' ∧ SAt m'' s p b c h bs' cs' k' live' sh' taken' ∧ SFr m m'' s p b c h := by
  rw [fin_rt_eq]
  split
  · rename_i g
    exact ⟨m, rfl, S.cut g.1 S0.ls S0.P.lp S0.P.lb S0.P.lc S0.lh, SFr.refl _ _ _ _ _ _⟩
  · exact ⟨m', rfl, S, f⟩
/-- another top -/
theorem SAt.turn (S : SAt m s p b c h bs cs k live sh taken) (t : Int) : SAt (m.set s (.ins 1 [.loc p, .int t, .loc h, .int taken])) s p b c h bs cs k t sh taken ∧ SFr m (m.set s (.ins 1 [.loc p, .int t, .loc h, .int taken])) s p b c h := by
  refine ⟨⟨List.getElem?_set_self S.ls, S.P.keep (p' := s) (fun n _ hn => List.getElem?_set_ne (Ne.symm hn)) S.sp.symm S.sb.symm S.sc.symm, ?_, S.sp, S.sb, S.sc, S.sh, S.ph, S.bh, S.ch⟩, by simp, fun n _ a1 _ _ _ _ => List.getElem?_set_ne (Ne.symm a1)⟩
  rw [List.getElem?_set_ne S.sh]
  exact S.hh
theorem sz_put_new {bs : List (Int × Bx)} {i : Int} {x : Bx} (h : valG bs i = none) : sz (putG bs i x) = sz bs + x.inner.length := by
  have h' : i ∉ keys bs := valG_none.mp h
  have e : putG bs i x = bs ++ [(i, x)] := by
    unfold putG
    rw [if_neg (fun z => h' ((any_key bs i).mp z))]
  rw [e]
  unfold sz
  simp
end
/-- what the rebuilding makes -/
theorem rb_made {bs0 : List (Int × Bx)} {top : Option Int} {ns : List Str} : ∀ (k : Nat) (bs : List (Int × Bx)) (cs : List (Int × Int)) (K : Int) (made : Option Int), made = some K ∨ 0 < k → (made = some K → ∃ y, valG bs K = some y) → (made = some K → valG cs K = some 0) →
    (rb bs0 top ns k bs cs K made).2.2.2 = some (rb bs0 top ns k bs cs K made).2.2.1 ∧ (∃ y, valG (rb bs0 top ns k bs cs K made).1 (rb bs0 top ns k bs cs K made).2.2.1 = some y) ∧ valG (rb bs0 top ns k bs cs K made).2.1 (rb bs0 top ns k bs cs K made).2.2.1 = some 0 ∧
      (rb bs0 top ns k bs cs K made).2.2.1 = K + k
  | 0, bs, cs, K, made, h, h1, h2 => by
    rcases h with h | h
    · exact ⟨h, h1 h, h2 h, by show K = K + ((0 : Nat) : Int); omega⟩
    · omega
  | k + 1, bs, cs, K, made, h, h1, h2 => by
    obtain ⟨a, b, c, d⟩ := rb_made (bs0 := bs0) (top := top) (ns := ns) k (putG bs (K + 1) (.br (rbRows bs (fnd bs0 top (ns.take k)) (ns.getD k default) made)))
      (putG (heldAll cs (rbRows bs (fnd bs0 top (ns.take k)) (ns.getD k default) made)) (K + 1) 0) (K + 1) (some (K + 1)) (.inl rfl) (fun _ => ⟨_, by rw [valG_put, if_pos rfl]⟩) (fun _ => by rw [valG_put, if_pos rfl])
    exact ⟨a, b, c, by rw [show (rb bs0 top ns (k + 1) bs cs K made) = _ from rfl]; exact d.trans (by omega)⟩

theorem sz_le : ∀ {bs : List (Int × Bx)}, (∀ q ∈ bs, q.2.rows.length ≤ 1000) → sz bs ≤ 1000 * bs.length
  | [], _ => Nat.le_refl _
  | q :: r, h => by
    have h1 := sz_le (bs := r) fun z hz => h z (.tail _ hz)
    have h2 := h q (.head _)
    have h3 : q.2.inner.length = q.2.rows.length := by
      cases q.2 with
      | leaf n => rfl
      | br rows => exact List.length_map _
    unfold sz at h1 ⊢
    rw [List.map_cons, List.sum_cons, List.length_cons, Nat.mul_add]
    omega
theorem Ord.sz_le {bs : List (Int × Bx)} {cs : List (Int × Int)} {K : Int} (O : Ord bs cs K) : sz bs ≤ 1000 * bs.length :=
  Law.sz_le fun q hq => O.W.few q.1 q.2 (valG_of_mem O.nd (by cases q; exact hq))
theorem rb_len {bs0 : List (Int × Bx)} {top : Option Int} {ns : List Str} : ∀ (k : Nat) (bs : List (Int × Bx)) (cs : List (Int × Int)) (K : Int) (made : Option Int), (rb bs0 top ns k bs cs K made).1.length ≤ bs.length + k
  | 0, bs, _, _, _ => Nat.le_refl _
  | k + 1, bs, cs, K, made => by
    have h := rb_len (bs0 := bs0) (top := top) (ns := ns) k (putG bs (K + 1) (.br (rbRows bs (fnd bs0 top (ns.take k)) (ns.getD k default) made)))
      (putG (heldAll cs (rbRows bs (fnd bs0 top (ns.take k)) (ns.getD k default) made)) (K + 1) 0) (K + 1) (some (K + 1))
    have h2 := putG_len bs (K + 1) (.br (rbRows bs (fnd bs0 top (ns.take k)) (ns.getD k default) made))
    show (rb bs0 top ns k _ _ _ _).1.length ≤ _
    omega
/-- as many counts as keys: both lie between 1 and K -/
theorem nodup_len : ∀ (n : Nat) (l : List Int), l.Nodup → (∀ i ∈ l, 1 ≤ i ∧ i ≤ (n : Int)) → l.length ≤ n
  | 0, l, _, h => by
    cases l with
    | nil => exact Nat.le_refl _
    | cons a r => have := h a (.head _); omega
  | n + 1, l, nd, h => by
    have h1 := nodup_len n (l.filter fun i => decide (i ≠ (n : Int) + 1)) (nd.filter _) fun i hi => by
      obtain ⟨a, b⟩ := List.mem_filter.mp hi
      have := h i a
      have b := of_decide_eq_true b
      omega
    have h2 : ∀ l : List Int, l.Nodup → l.length ≤ (l.filter fun i => decide (i ≠ (n : Int) + 1)).length + 1 := by
      intro l
      induction l with
      | nil => intro _; simp
      | cons a r ih =>
        intro nd
        obtain ⟨x, y⟩ := List.nodup_cons.mp nd
        by_cases e : a = (n : Int) + 1
        · rw [List.filter_cons_of_neg (by simp [e])]
          have : r.filter (fun i => decide (i ≠ (n : Int) + 1)) = r := List.filter_eq_self.mpr fun i hi => decide_eq_true (by rintro rfl; exact x (by rw [e]; exact hi))
          rw [this]; simp
        · rw [List.filter_cons_of_pos (by simp [e])]
          have := ih y
          simp only [List.length_cons]; omega
    have := h2 l nd
    omega
theorem Ord.lens {bs : List (Int × Bx)} {cs : List (Int × Int)} {K : Nat} (O : Ord bs cs (K : Int)) : bs.length ≤ K ∧ cs.length ≤ K := by
  refine ⟨?_, ?_⟩
  · rw [← keys_len]; exact nodup_len K _ O.nd O.le
  · rw [← keys_len]; exact nodup_len K _ O.ndc O.lec
end Law
/-! P7_k08 -/
set_option Elab.async false
set_option linter.all false
set_option maxRecDepth 100000
set_option autoImplicit false
set_option maxHeartbeats 1000000
/-! P7: put -/
namespace Law
open PySem PySem.Spec PyProof.Rows L2 Sn

def isLf (bs : List (Int × Bx)) (o : Option Int) : Bool := match o with
  | none => false
  | some i => match valG bs i with
    | some (.leaf _) => true
    | _ => false
theorem eqD_ns (z : Str) (m : Mem) : eqD .non (.str z) m = .ok (.bl false) m := by simp [eqD, eqB, scD, scal]
theorem kind_leaf (bs : List (Int × Bx)) (o : Option Int) (m : Mem) : eqD (kindD bs o) (.str "leaf") m = .ok (.bl (isLf bs o)) m := by
  have e : ¬ (("branch" : Str) = "leaf") := by decide +kernel
  cases o with
  | none => exact eqD_ns _ _
  | some i =>
    cases hv : valG bs i with
    | none => simp [kindD, isLf, hv, e]
    | some x => cases x <;> simp [kindD, isLf, hv, e]
theorem kind_branch (bs : List (Int × Bx)) (o : Option Int) (m : Mem) : eqD (kindD bs o) (.str "branch") m = .ok (.bl (o.isSome && !isLf bs o)) m := by
  have e : ¬ (("leaf" : Str) = "branch") := by decide +kernel
  cases o with
  | none => exact eqD_ns _ _
  | some i =>
    cases hv : valG bs i with
    | none => simp [kindD, isLf, hv]
    | some x => cases x <;> simp [kindD, isLf, hv, e]
theorem gN.ok {s : Str} (h : gN s) : PyData.strOk s = true := strOk_abc fun x hx => (h.2.2 x hx).2
theorem ne_nil {ns : List Str} (h : ∀ n ∈ ns, gN n) (m : Mem) : eqD (.lst (ns.map Dv.str)) (.lst []) m = .ok (.bl (decide (ns = []))) m := by
  have hp : pln 1 (.lst (ns.map Dv.str)) = true := by
    unfold pln
    exact plns_map 0 Dv.str ns fun s hs => by simp [pln, (h s hs).ok]
  rw [eqD_pln (n := 1) (m := m) (x := .lst (ns.map Dv.str)) (y := .lst []) (by decide) hp rfl (.inl rfl)]
  congr 2
  rw [decide_eq_decide]
  show Dv.lst (ns.map Dv.str) = .lst [] ↔ _
  simp
section
variable {m : Mem} {s p b c h : Nat} {bs : List (Int × Bx)} {cs : List (Int × Int)} {k live : Int} {sh : List (Int × Int)} {taken : Int}
theorem abs_lt {v : Int} (h : -1000000000000000000000000000000 < v ∧ v < 1000000000000000000000000000000) : ¬ (1000000000000000000000000000000 ≤ if v < 0 then -v else v) := by split <;> omega
end
end Law
/-! P8_k08 -/
set_option Elab.async false
set_option linter.all false
set_option maxRecDepth 100000
set_option autoImplicit false
set_option maxHeartbeats 1000000
/-! P8: a new store -/
namespace Law
open PySem PySem.Spec PyProof.Rows L2 Sn

end Law
/-! T1_k08 -/
set_option Elab.async false
set_option linter.all false
set_option maxRecDepth 100000
set_option autoImplicit false
set_option maxHeartbeats 1000000
/-! T1: who holds what, counted -/
namespace Law
open PySem PySem.Spec PyProof.Rows L2 Sn

/-- how many rows lead to i -/
def refs (bs : List (Int × Bx)) (i : Int) : Nat := (bs.map fun p => p.2.inner.count i).sum
theorem refs_cons (p : Int × Bx) (bs : List (Int × Bx)) (i : Int) : refs (p :: bs) i = p.2.inner.count i + refs bs i := rfl
theorem refs_append (a b : List (Int × Bx)) (i : Int) : refs (a ++ b) i = refs a i + refs b i := by
  unfold refs
  rw [List.map_append, List.sum_append]
theorem mem_keys_of {κ α : Type} [DecidableEq κ] {kvs : List (κ × α)} {k : κ} {v : α} (h : valG kvs k = some v) : k ∈ keys kvs := Classical.byContradiction fun z => by rw [valG_none.mpr z] at h; cases h
theorem of_mem_keys {κ α : Type} [DecidableEq κ] {kvs : List (κ × α)} {k : κ} (h : k ∈ keys kvs) : ∃ v, valG kvs k = some v := by
  cases e : valG kvs k with
  | none => exact absurd h (valG_none.mp e)
  | some v => exact ⟨v, rfl⟩
theorem drop_self {κ α : Type} [DecidableEq κ] {kvs : List (κ × α)} {k : κ} (h : k ∉ keys kvs) : dropG kvs k = kvs := by
  unfold dropG
  refine List.filter_eq_self.mpr fun a ha => decide_eq_true ?_
  rintro rfl
  exact h (List.mem_map.mpr ⟨a, ha, rfl⟩)
theorem put_end {κ α : Type} [DecidableEq κ] {kvs : List (κ × α)} {k : κ} (v : α) (h : k ∉ keys kvs) : putG kvs k v = kvs ++ [(k, v)] := by
  unfold putG
  rw [if_neg (fun z => h ((any_key kvs k).mp z))]
theorem refs_drop {bs : List (Int × Bx)} (nd : (keys bs).Nodup) {one : Int} {x : Bx} (h : valG bs one = some x) (i : Int) : refs (dropG bs one) i + x.inner.count i = refs bs i := by
  induction bs with
  | nil => cases h
  | cons p r ih =>
    have nd' : p.1 ∉ keys r ∧ (keys r).Nodup := List.nodup_cons.mp nd
    rw [valG_cons] at h
    by_cases e : p.1 = one
    · rw [if_pos e] at h
      cases h
      have e1 : dropG (p :: r) one = r := by
        unfold dropG
        rw [List.filter_cons_of_neg (by simp [e])]
        exact drop_self (by rw [← e]; exact nd'.1)
      rw [e1, refs_cons]
      omega
    · rw [if_neg e] at h
      have e1 : dropG (p :: r) one = p :: dropG r one := by
        unfold dropG
        rw [List.filter_cons_of_pos (by simp [e])]
      rw [e1, refs_cons, refs_cons, ← ih nd'.2 h]
      omega
theorem len_drop {bs : List (Int × Bx)} (nd : (keys bs).Nodup) {one : Int} {x : Bx} (h : valG bs one = some x) : (dropG bs one).length + 1 = bs.length := by
  induction bs with
  | nil => cases h
  | cons p r ih =>
    have nd' : p.1 ∉ keys r ∧ (keys r).Nodup := List.nodup_cons.mp nd
    rw [valG_cons] at h
    by_cases e : p.1 = one
    · have e1 : dropG (p :: r) one = r := by
        unfold dropG
        rw [List.filter_cons_of_neg (by simp [e])]
        exact drop_self (by rw [← e]; exact nd'.1)
      rw [e1]; rfl
    · rw [if_neg e] at h
      have e1 : dropG (p :: r) one = p :: dropG r one := by
        unfold dropG
        rw [List.filter_cons_of_pos (by simp [e])]
      rw [e1, List.length_cons, List.length_cons, ih nd'.2 h]
theorem refs_put {bs : List (Int × Bx)} {k : Int} (x : Bx) (h : k ∉ keys bs) (i : Int) : refs (putG bs k x) i = refs bs i + x.inner.count i := by
  rw [put_end _ h, refs_append, refs_cons]
  rfl
theorem refs_mem {bs : List (Int × Bx)} {j : Int} {x : Bx} {i : Int} (h : (j, x) ∈ bs) : x.inner.count i ≤ refs bs i := by
  induction bs with
  | nil => cases h
  | cons p r ih =>
    rw [refs_cons]
    rcases List.mem_cons.mp h with rfl | h
    · show x.inner.count i ≤ x.inner.count i + _
      omega
    · have := ih h
      omega
theorem refs_of {bs : List (Int × Bx)} {i : Int} (h : 1 ≤ refs bs i) : ∃ p ∈ bs, i ∈ p.2.inner := by
  induction bs with
  | nil => exact absurd h (by unfold refs; simp)
  | cons p r ih =>
    rw [refs_cons] at h
    by_cases e : i ∈ p.2.inner
    · exact ⟨p, .head _, e⟩
    · rw [List.count_eq_zero_of_not_mem e] at h
      obtain ⟨q, hq, z⟩ := ih (by omega)
      exact ⟨q, .tail _ hq, z⟩
theorem inner_rows (x : Bx) : x.inner = x.rows.map (·.2) := by cases x <;> rfl
/-- the counts are what they should be, R the holders from outside -/
structure Exa (bs : List (Int × Bx)) (cs : List (Int × Int)) (R : List Int) : Prop where
  nd : (keys bs).Nodup
  ndc : (keys cs).Nodup
  kc : ∀ i, i ∈ keys cs ↔ i ∈ keys bs
  ex : ∀ i, i ∈ keys bs → valG cs i = some ((refs bs i + R.count i : Nat) : Int)
  rt : ∀ i ∈ R, i ∈ keys bs
  wf : ∀ i x, valG bs i = some x → ∀ j ∈ x.inner, j ∈ keys bs
/-- each box is held -/
def Pos (bs : List (Int × Bx)) (R : List Int) : Prop := ∀ i ∈ keys bs, 1 ≤ refs bs i + R.count i
theorem Exa.perm {bs : List (Int × Bx)} {cs : List (Int × Int)} {R R' : List Int} (E : Exa bs cs R) (h : R.Perm R') : Exa bs cs R' :=
  ⟨E.nd, E.ndc, E.kc, fun i hi => by rw [E.ex i hi, h.count_eq], fun i hi => E.rt i (h.mem_iff.mpr hi), E.wf⟩
theorem Pos.perm {bs : List (Int × Bx)} {R R' : List Int} (E : Pos bs R) (h : R.Perm R') : Pos bs R' := fun i hi => by rw [← h.count_eq]; exact E i hi
theorem filter_keys {α : Type} (bs : List (Int × α)) (f : Int → Bool) (one : Int) : dropG (bs.filter fun p => f p.1) one = bs.filter fun p => (f p.1 && decide (p.1 ≠ one)) := by
  unfold dropG
  rw [List.filter_filter]
  apply List.filter_congr
  intro a _
  rw [Bool.and_comm]
theorem lg_exact (roots : List Int) : ∀ (n : Nat) (st : List Int) (bs : List (Int × Bx)) (cs : List (Int × Int)) (g : Int), Exa bs cs (roots ++ st) → Pos bs (roots ++ st) → st.length + sz bs < n →
    ∃ (keep : Int → Bool) (cs' : List (Int × Int)) (g' : Int), lg n st bs cs g = some (bs.filter (fun p => keep p.1), cs', g') ∧ g' + ((bs.filter fun p => keep p.1).length : Int) = g + bs.length ∧ Exa (bs.filter fun p => keep p.1) cs' roots ∧ Pos (bs.filter fun p => keep p.1) roots := by
  intro n
  induction n with
  | zero => intro st bs cs g _ _ h; omega
  | succ n ih =>
    intro st bs cs g E P hn
    rcases List.eq_nil_or_concat st with rfl | ⟨rest, one, rfl⟩
    · refine ⟨fun _ => true, cs, g, ?_, ?_, ?_, ?_⟩
      · have e : bs.filter (fun p => (fun _ => true) p.1) = bs := List.filter_eq_self.mpr fun _ _ => rfl
        rw [e]
        rfl
      · have e : bs.filter (fun p => (fun _ => true) p.1) = bs := List.filter_eq_self.mpr fun _ _ => rfl
        rw [e]
      · have e : bs.filter (fun p => (fun _ => true) p.1) = bs := List.filter_eq_self.mpr fun _ _ => rfl
        rw [e]
        rw [List.append_nil] at E
        exact E
      · have e : bs.filter (fun p => (fun _ => true) p.1) = bs := List.filter_eq_self.mpr fun _ _ => rfl
        rw [e]
        rw [List.append_nil] at P
        exact P
    · simp only [List.concat_eq_append] at *
      have gl : (rest ++ [one]).getLast? = some one := by simp
      have dl : (rest ++ [one]).dropLast = rest := by simp
      have hm : one ∈ keys bs := E.rt one (by simp)
      have hq := E.ex one hm
      have hp := P one hm
      have hc1 : ∀ i, (roots ++ (rest ++ [one])).count i = (roots ++ rest).count i + [one].count i := fun i => by rw [← List.append_assoc, List.count_append]
      have hc2 : ∀ i, i ≠ one → [one].count i = 0 := fun i hi => List.count_eq_zero_of_not_mem (by simpa using hi)
      have hc3 : [one].count one = 1 := by simp
      simp only [List.length_append, List.length_cons, List.length_nil] at hn
      unfold lg
      simp only [gl, dl, hq, Option.getD_some]
      by_cases c : 1 < ((refs bs one + (roots ++ (rest ++ [one])).count one : Nat) : Int)
      · rw [if_pos c]
        have E' : Exa bs (putG cs one (((refs bs one + (roots ++ (rest ++ [one])).count one : Nat) : Int) - 1)) (roots ++ rest) := by
          refine ⟨E.nd, nodup_put E.ndc _ _, fun i => ?_, fun i hi => ?_, fun i hi => E.rt i ?_, E.wf⟩
          · rw [mem_keys_put, E.kc]
            constructor
            · rintro (rfl | h)
              · exact hm
              · exact h
            · exact .inr
          · rw [valG_put]
            split
            · rename_i e
              subst e
              rw [hc1, hc3]
              congr 1
              omega
            · rename_i e
              rw [E.ex i hi, hc1, hc2 i e]
              rfl
          · rw [← List.append_assoc]
            exact List.mem_append_left _ hi
        refine ih rest bs _ g E' (fun i hi => ?_) (by omega)
        by_cases e : i = one
        · subst e
          rw [hc1, hc3] at c
          omega
        · have := P i hi
          rw [hc1, hc2 i e] at this
          exact this
      · rw [if_neg c]
        obtain ⟨x, hx⟩ := of_mem_keys hm
        have hz : refs bs one = 0 ∧ (roots ++ rest).count one = 0 := by
          rw [hc1, hc3] at c
          omega
        have nin : one ∉ roots ++ rest := fun z => by
          have := List.count_pos_iff.mpr z
          omega
        have nref : ∀ i y, valG bs i = some y → one ∉ y.inner := fun i y hy z => by
          have h1 := List.count_pos_iff.mpr z
          have h2 := refs_mem (i := one) (valG_mem hy)
          omega
        have hsz := sz_drop hx
        have hln := len_drop E.nd hx
        have E' : Exa (dropG bs one) (dropG cs one) (roots ++ (rest ++ x.inner)) := by
          refine ⟨nodup_drop E.nd _, nodup_drop E.ndc _, fun i => ?_, fun i hi => ?_, fun i hi => ?_, fun i y hy j hj => ?_⟩
          · rw [keys_drop, keys_drop, List.mem_filter, List.mem_filter, E.kc]
          · rw [keys_drop, List.mem_filter] at hi
            have ne : i ≠ one := of_decide_eq_true hi.2
            have h4 : (roots ++ (rest ++ x.inner)).count i = (roots ++ rest).count i + x.inner.count i := by rw [← List.append_assoc, List.count_append]
            rw [valG_drop, if_neg ne, E.ex i hi.1, hc1, hc2 i ne, h4]
            have := refs_drop E.nd hx i
            congr 1
            omega
          · rw [keys_drop, List.mem_filter]
            rw [← List.append_assoc] at hi
            rcases List.mem_append.mp hi with hi | hi
            · refine ⟨E.rt i (by rw [← List.append_assoc]; exact List.mem_append_left _ hi), decide_eq_true ?_⟩
              rintro rfl
              exact nin hi
            · refine ⟨E.wf one x hx i hi, decide_eq_true ?_⟩
              rintro rfl
              exact nref _ x hx hi
          · rw [valG_drop] at hy
            split at hy
            · cases hy
            · rw [keys_drop, List.mem_filter]
              refine ⟨E.wf i y hy j hj, decide_eq_true ?_⟩
              rintro rfl
              exact nref i y hy hj
        obtain ⟨keep, cs', g', e1, e2, e3, e4⟩ := ih (rest ++ x.inner) (dropG bs one) (dropG cs one) (g + 1) E' (fun i hi => by
          rw [keys_drop, List.mem_filter] at hi
          have ne : i ≠ one := of_decide_eq_true hi.2
          have h1 := P i hi.1
          rw [hc1, hc2 i ne] at h1
          have h2 := refs_drop E.nd hx i
          have h4 : (roots ++ (rest ++ x.inner)).count i = (roots ++ rest).count i + x.inner.count i := by rw [← List.append_assoc, List.count_append]
          rw [h4]
          omega) (by rw [List.length_append]; omega)
        have eq : (dropG bs one).filter (fun p => keep p.1) = bs.filter (fun p => (keep p.1 && decide (p.1 ≠ one))) := by
          unfold dropG
          rw [List.filter_filter]
        rw [eq] at e1 e2 e3 e4
        refine ⟨fun i => keep i && decide (i ≠ one), cs', g', ?_, ?_, e3, e4⟩
        · simp only [hx]
          exact e1
        · have e2 : g' + ((bs.filter (fun p => (fun i => keep i && decide (i ≠ one)) p.1)).length : Int) = g + 1 + ((dropG bs one).length : Int) := e2
          rw [e2]
          omega
theorem valG_filter {α : Type} (bs : List (Int × α)) (f : Int → Bool) (i : Int) : valG (bs.filter fun p => f p.1) i = if f i = true then valG bs i else none := by
  induction bs with
  | nil => simp [valG_nil]
  | cons p r ih =>
    by_cases h : f p.1 = true
    · rw [List.filter_cons_of_pos (p := fun p : Int × α => f p.1) h, valG_cons, valG_cons, ih]
      by_cases e : p.1 = i
      · subst e; simp [h]
      · rw [if_neg e, if_neg e]
    · rw [List.filter_cons_of_neg (p := fun p : Int × α => f p.1) h, ih, valG_cons]
      by_cases e : p.1 = i
      · subst e; simp [h]
      · rw [if_neg e]
theorem heldAll_val : ∀ (rows : List (Str × Int)) (cs : List (Int × Int)) (i : Int), (∀ r ∈ rows, r.2 ∈ keys cs) → valG (heldAll cs rows) i = (valG cs i).map fun n => n + ((rows.map (·.2)).count i : Int)
  | [], cs, i, _ => by
    show valG cs i = _
    cases valG cs i <;> simp
  | r :: rs, cs, i, h => by
    obtain ⟨n, hn⟩ := of_mem_keys (h r (.head _))
    have e : heldAll cs (r :: rs) = heldAll (putG cs r.2 (n + 1)) rs := by unfold heldAll; simp [hn]
    rw [e, heldAll_val rs _ i fun z hz => mem_keys_put.mpr (.inr (h z (.tail _ hz))), valG_put, List.map_cons, List.count_cons]
    by_cases g : i = r.2
    · subst g
      rw [if_pos rfl, hn]
      simp
      omega
    · rw [if_neg g]
      have : (r.2 == i) = false := by simpa using fun z => g z.symm
      rw [this]
      simp
theorem heldAll_keys' : ∀ (rows : List (Str × Int)) (cs : List (Int × Int)), (∀ r ∈ rows, r.2 ∈ keys cs) → keys (heldAll cs rows) = keys cs
  | [], _, _ => rfl
  | r :: rs, cs, h => by
    obtain ⟨n, hn⟩ := of_mem_keys (h r (.head _))
    have e : heldAll cs (r :: rs) = heldAll (putG cs r.2 (n + 1)) rs := by unfold heldAll; simp [hn]
    rw [e, heldAll_keys' rs _ fun z hz => mem_keys_put.mpr (.inr (h z (.tail _ hz))), keys_put_in hn]
/-- a new box: nobody holds it, and it holds its rows' boxes -/
theorem Exa.make {bs : List (Int × Bx)} {cs : List (Int × Int)} {R : List Int} (E : Exa bs cs R) {k : Int} {x : Bx} (hk : k ∉ keys bs) (hr : ∀ r ∈ x.rows, r.2 ∈ keys bs) :
    Exa (putG bs k x) (putG (heldAll cs x.rows) k 0) R ∧ refs (putG bs k x) k + R.count k = 0 ∧ ∀ i, refs (putG bs k x) i = refs bs i + (x.rows.map (·.2)).count i := by
  have hrc : ∀ r ∈ x.rows, r.2 ∈ keys cs := fun r h => (E.kc _).mpr (hr r h)
  have hR : k ∉ R := fun z => hk (E.rt k z)
  have r1 := fun i => refs_put x hk i
  have r0 : refs bs k = 0 := by
    rcases Nat.eq_zero_or_pos (refs bs k) with h | h
    · exact h
    · obtain ⟨p, hp, hi⟩ := refs_of h
      exact absurd (E.wf p.1 p.2 (valG_of_mem E.nd hp) k hi) hk
  have r2 : x.inner.count k = 0 := List.count_eq_zero_of_not_mem fun z => by
    rw [inner_rows] at z
    obtain ⟨r, hr', rfl⟩ := List.mem_map.mp z
    exact hk (hr r hr')
  have r3 : refs (putG bs k x) k + R.count k = 0 := by
    rw [r1, r0, r2, List.count_eq_zero_of_not_mem hR]
  refine ⟨⟨nodup_put E.nd _ _, nodup_put (by rw [heldAll_keys' _ _ hrc]; exact E.ndc) _ _, fun i => ?_, fun i hi => ?_, fun i hi => mem_keys_put.mpr (.inr (E.rt i hi)), fun i y hy j hj => ?_⟩, r3, fun i => by rw [r1, inner_rows]⟩
  · rw [mem_keys_put, mem_keys_put, heldAll_keys' _ _ hrc, E.kc]
  · rw [valG_put]
    split
    · rename_i e
      subst e
      rw [r3]
      rfl
    · rename_i e
      have hi : i ∈ keys bs := (mem_keys_put.mp hi).resolve_left e
      rw [heldAll_val _ _ _ hrc, E.ex i hi, r1, inner_rows]
      simp only [Option.map_some]
      congr 1
      omega
  · rw [valG_put] at hy
    split at hy
    · cases hy
      rw [inner_rows] at hj
      obtain ⟨r, hr', rfl⟩ := List.mem_map.mp hj
      exact mem_keys_put.mpr (.inr (hr r hr'))
    · exact mem_keys_put.mpr (.inr (E.wf i y hy j hj))
/-- held once more -/
theorem Exa.held {bs : List (Int × Bx)} {cs : List (Int × Int)} {R : List Int} (E : Exa bs cs R) {t n : Int} (ht : t ∈ keys bs) (hn : valG cs t = some n) : Exa bs (putG cs t (n + 1)) (t :: R) := by
  refine ⟨E.nd, nodup_put E.ndc _ _, fun i => ?_, fun i hi => ?_, fun i hi => ?_, E.wf⟩
  · rw [mem_keys_put, E.kc]
    constructor
    · rintro (rfl | h)
      · exact ht
      · exact h
    · exact .inr
  · rw [valG_put, List.count_cons]
    split
    · rename_i e
      subst e
      rw [E.ex _ hi] at hn
      cases hn
      simp
      omega
    · rename_i e
      have : (t == i) = false := by simpa using fun z => e z.symm
      rw [E.ex i hi, this]
      simp
  · rcases List.mem_cons.mp hi with rfl | h
    · exact ht
    · exact E.rt i h
end Law
/-! Q2 -/
set_option Elab.async false
set_option linter.all false
set_option maxRecDepth 100000
set_option autoImplicit false
set_option maxHeartbeats 1000000
/-! Q2: lists of numbers, of texts, compared -/
namespace Sn
open PySem PySem.Spec PyProof.Rows L2
theorem ints_inj {xs ys : List Int} : xs.map Dv.int = ys.map Dv.int ↔ xs = ys := by
  constructor
  · intro h
    induction xs generalizing ys with
    | nil =>
      cases ys with
      | nil => rfl
      | cons y ys => cases h
    | cons x xs ih =>
      cases ys with
      | nil => cases h
      | cons y ys =>
        rw [List.map_cons, List.map_cons, List.cons.injEq] at h
        cases h.1
        rw [ih h.2]
  · rintro rfl; rfl
theorem strs_inj {xs ys : List Str} : xs.map Dv.str = ys.map Dv.str ↔ xs = ys := by
  constructor
  · intro h
    induction xs generalizing ys with
    | nil =>
      cases ys with
      | nil => rfl
      | cons y ys => cases h
    | cons x xs ih =>
      cases ys with
      | nil => cases h
      | cons y ys =>
        rw [List.map_cons, List.map_cons, List.cons.injEq] at h
        cases h.1
        rw [ih h.2]
  · rintro rfl; rfl
theorem pln_ints (n : Nat) (xs : List Int) : pln (n + 1) (.lst (xs.map Dv.int)) = true := by
  unfold pln
  exact plns_map n Dv.int xs fun s hs => by simp [pln]
theorem pln_strs (n : Nat) (xs : List Str) (h : ∀ s ∈ xs, PyData.strOk s = true) : pln (n + 1) (.lst (xs.map Dv.str)) = true := by
  unfold pln
  exact plns_map n Dv.str xs fun s hs => by simp [pln, h s hs]
open Classical in
theorem eqD_ints (xs ys : List Int) (m : Mem) : eqD (.lst (xs.map Dv.int)) (.lst (ys.map Dv.int)) m = .ok (.bl (decide (xs = ys))) m := by
  rw [eqD_pln (n := 1) (m := m) (x := .lst (xs.map Dv.int)) (y := .lst (ys.map Dv.int)) (by decide) (pln_ints 0 xs) (pln_ints 0 ys) (.inl rfl)]
  congr 2
  rw [decide_eq_decide]
  show Dv.lst _ = .lst _ ↔ _
  rw [Dv.lst.injEq, ints_inj]
open Classical in
theorem neD_ints (xs ys : List Int) (m : Mem) : neD (.lst (xs.map Dv.int)) (.lst (ys.map Dv.int)) m = .ok (.bl (!decide (xs = ys))) m := by
  rw [neD_pln (n := 1) (m := m) (x := .lst (xs.map Dv.int)) (y := .lst (ys.map Dv.int)) (by decide) (pln_ints 0 xs) (pln_ints 0 ys) (.inl rfl)]
  congr 3
  rw [decide_eq_decide]
  show Dv.lst _ = .lst _ ↔ _
  rw [Dv.lst.injEq, ints_inj]
open Classical in
theorem eqD_strs {xs ys : List Str} (h : ∀ s ∈ xs, PyData.strOk s = true) (g : ∀ s ∈ ys, PyData.strOk s = true) (m : Mem) : eqD (.lst (xs.map Dv.str)) (.lst (ys.map Dv.str)) m = .ok (.bl (decide (xs = ys))) m := by
  rw [eqD_pln (n := 1) (m := m) (x := .lst (xs.map Dv.str)) (y := .lst (ys.map Dv.str)) (by decide) (pln_strs 0 xs h) (pln_strs 0 ys g) (.inl rfl)]
  congr 2
  rw [decide_eq_decide]
  show Dv.lst _ = .lst _ ↔ _
  rw [Dv.lst.injEq, strs_inj]
open Classical in
theorem neD_strs {xs ys : List Str} (h : ∀ s ∈ xs, PyData.strOk s = true) (g : ∀ s ∈ ys, PyData.strOk s = true) (m : Mem) : neD (.lst (xs.map Dv.str)) (.lst (ys.map Dv.str)) m = .ok (.bl (!decide (xs = ys))) m := by
  rw [neD_pln (n := 1) (m := m) (x := .lst (xs.map Dv.str)) (y := .lst (ys.map Dv.str)) (by decide) (pln_strs 0 xs h) (pln_strs 0 ys g) (.inl rfl)]
  congr 3
  rw [decide_eq_decide]
  show Dv.lst _ = .lst _ ↔ _
  rw [Dv.lst.injEq, strs_inj]
theorem srtI_id {xs : List Int} (h : xs.Pairwise (· ≤ ·)) : xs.mergeSort ile = xs := by
  apply List.mergeSort_of_pairwise
  exact h.imp fun {a b} z => decide_eq_true z
end Sn
/-! L_k08 -/
set_option Elab.async false
set_option linter.all false
set_option maxRecDepth 100000
set_option autoImplicit false
set_option maxHeartbeats 1000000
namespace Law
open PySem PySem.Spec PyProof.Rows L2 Sn

/-! ### the law's own tables -/
structure GAt (m : Mem) (i j : Nat) (bs : List (Int × Bx)) (cs : List (Int × Int)) : Prop where
  hi : m[i]? = some (.dic (kB bs))
  hj : m[j]? = some (.dic (kC cs))
  ij : i ≠ j
section
variable {m m' : Mem} {i j : Nat} {bs : List (Int × Bx)} {cs : List (Int × Int)}
theorem GAt.keep (G : GAt m i j bs cs) (h1 : m'[i]? = m[i]?) (h2 : m'[j]? = m[j]?) : GAt m' i j bs cs := ⟨h1.trans G.hi, h2.trans G.hj, G.ij⟩
theorem GAt.setC (G : GAt m i j bs cs) (cs' : List (Int × Int)) : GAt (m.set j (.dic (kC cs'))) i j bs cs' :=
  ⟨by rw [List.getElem?_set_ne G.ij.symm]; exact G.hi, List.getElem?_set_self (lt_of_some G.hj), G.ij⟩
theorem GAt.setB (G : GAt m i j bs cs) (bs' : List (Int × Bx)) : GAt (m.set i (.dic (kB bs'))) i j bs' cs :=
  ⟨List.getElem?_set_self (lt_of_some G.hi), by rw [List.getElem?_set_ne G.ij]; exact G.hj, G.ij⟩
end
theorem drop_put {κ α : Type} [DecidableEq κ] (d : List (κ × α)) (k : κ) (a : α) : dropG (putG d k a) k = dropG d k := by
  have H : ∀ r : List (κ × α), (r.map fun kv => if kv.1 = k then (kv.1, a) else kv).filter (fun kv => decide (kv.1 ≠ k)) = r.filter fun kv => decide (kv.1 ≠ k) := by
    intro r
    induction r with
    | nil => rfl
    | cons p r ih =>
      rw [List.map_cons]
      by_cases e : p.1 = k
      · rw [if_pos e, List.filter_cons_of_neg (by simp [e]), List.filter_cons_of_neg (by simp [e]), ih]
      · rw [if_neg e, List.filter_cons_of_pos (by simp [e]), List.filter_cons_of_pos (by simp [e]), ih]
  unfold putG
  split
  · exact H d
  · unfold dropG
    rw [List.filter_append]
    simp
theorem put_len_in {κ α : Type} [DecidableEq κ] {d : List (κ × α)} {k : κ} {a b : α} (h : valG d k = some a) : (putG d k b).length = d.length := by
  have h1 := keys_put_in (w := a) (v := b) h
  have h2 := keys_put d k b
  have hm : k ∈ keys d := Classical.byContradiction fun z => by rw [valG_none.mpr z] at h; cases h
  rw [if_pos hm] at h2
  have := congrArg List.length h2
  unfold keys at this
  rw [List.length_map, List.length_map] at this
  exact this
theorem ints_nil (st : List Int) (m : Mem) {w : Nat} (h : m[w]? = some (.lst (st.map Dv.int))) : neD (.loc w) (.lst []) m = .ok (.bl (!decide (st = []))) m := by
  have hv : vw m (.loc w) = .lst (st.map Dv.int) := by unfold vw; simp only [h]
  have hv2 : vw m (.lst []) = .lst [] := rfl
  rw [neD_pln (n := 1) (m := m) (x := .loc w) (y := .lst []) (by decide) (by rw [hv]; exact pln_ints 0 st) (by rw [hv2]; exact pln_ints 0 []) (.inl rfl), hv, hv2]
  congr 3
  cases st <;> simp
theorem inners_ok (rows : List (Str × Int)) (l : Lc) (hl : 7 < l.length) (m : Mem) (bx : Dv) (h6 : l[6]? = some (some (.tup [.str "branch", .lst (rD rows)]))) (hr : rows.length ≤ 1000) : eLc (iSeq (eBin ixD (eVar 6) (eC (.int 1)))) 7 tYesM le_l_gone_1 l m = .ok (.lst ((rows.map (·.2)).map Dv.int)) m := by
  have := eLc_map (it := iSeq (eBin ixD (eVar 6) (eC (.int 1)))) (j := 7) (e := le_l_gone_1) (l := l) (m := m) (m1 := m) (ds := rD rows) (by simp [h6]) (fun d => match d with | .tup [_, b] => b | d => d) (fun x hx acc => by
    obtain ⟨q, _, rfl⟩ := List.mem_map.mp hx
    unfold le_l_gone_1
    simp [rowD, hl]) (by rw [List.length_map]; simp; omega) (by rw [List.map_map]; exact clos_map _ _ (fun q => rfl) _)
  rw [this]
  rw [List.map_map, List.map_map]
  rfl
theorem gone_run {i j : Nat} {x2 : Option Dv} : ∀ (n : Nat) (st : List Int) (bs : List (Int × Bx)) (cs : List (Int × Int)) (g : Int) (m : Mem) (w : Nat) (a5 a6 a7 : Option Dv), GAt m i j bs cs → m[w]? = some (.lst (st.map Dv.int)) → w ≠ i → w ≠ j →
    (∀ x, x ∈ keys cs ↔ x ∈ keys bs) → (∀ k x, valG bs k = some x → x.rows.length ≤ 1000) → st.length + sz bs < n → st.length + sz bs < 16777216 → cs.length < 16777216 →
    ∃ bs' cs' g' m' w' a5' a6' a7', lg n st bs cs g = some (bs', cs', g') ∧ whileM (tV (eBin neD (eVar 3) (eMk mkLst aNil))) lw_l_gone_2 n [some (.loc i), some (.loc j), x2, some (.loc w), some (.int g), a5, a6, a7] m = .nx [some (.loc i), some (.loc j), x2, some (.loc w'), some (.int g'), a5', a6', a7'] m' ∧
      GAt m' i j bs' cs' ∧ m.length ≤ m'.length ∧ ∀ n, n < m.length → n ≠ i → n ≠ j → n ≠ w → m'[n]? = m[n]? := by
  intro n
  induction n with
  | zero => intro st bs cs g m w a5 a6 a7 _ _ _ _ _ _ h1; omega
  | succ n ih =>
    intro st bs cs g m w a5 a6 a7 G hw wi wj hk hrl h1 h2 h3
    have lw := lt_of_some hw
    have hne := ints_nil st m hw
    rcases List.eq_nil_or_concat st with rfl | ⟨rest, one, rfl⟩
    · exact ⟨bs, cs, g, m, w, a5, a6, a7, rfl, while_nil _ _ _ (by simp [hne]), G, Nat.le_refl _, fun _ _ _ _ _ => rfl⟩
    · simp only [List.concat_eq_append] at *
      have hne' : neD (.loc w) (.lst []) m = .ok (.bl true) m := by rw [hne]; simp
      have ht : tV (eBin neD (eVar 3) (eMk mkLst aNil)) [some (.loc i), some (.loc j), x2, some (.loc w), some (.int g), a5, a6, a7] m = .ok true m := by simp [hne']
      have hw' : m[w]? = some (.lst (rest.map Dv.int ++ [Dv.int one])) := by rw [hw]; simp
      have W1 : (m.set w (.lst (rest.map Dv.int)))[w]? = some (.lst (rest.map Dv.int)) := List.getElem?_set_self lw
      have G1 : GAt (m.set w (.lst (rest.map Dv.int))) i j bs cs := G.keep (List.getElem?_set_ne wi) (List.getElem?_set_ne wj)
      have L1 : (m.set w (.lst (rest.map Dv.int))).length = m.length := by simp
      have F1 : ∀ n, n ≠ w → (m.set w (.lst (rest.map Dv.int)))[n]? = m[n]? := fun n hn => List.getElem?_set_ne (Ne.symm hn)
      generalize hm1 : m.set w (.lst (rest.map Dv.int)) = m1 at G1 W1 L1 F1
      have gl : (rest ++ [one]).getLast? = some one := by simp
      have dl : (rest ++ [one]).dropLast = rest := by simp
      simp only [List.length_append, List.length_cons, List.length_nil] at h1 h2
      unfold lg
      simp only [gl, dl]
      have hcl : (kC cs).length < 16777216 := by rw [length_kmap]; exact h3
      cases hq : valG cs one with
      | none =>
        have hb : valG bs one = none := by
          rw [valG_none] at hq ⊢
          exact fun z => hq ((hk one).mpr z)
        rw [if_neg (by simp)]
        simp only [hb]
        obtain ⟨bs', cs', g', m', w', a5', a6', a7', e1, e2, e3, e4, e5⟩ := ih rest bs cs g m1 w (some (.int one)) a6 a7 G1 W1 wi wj hk hrl (by omega) (by omega) h3
        refine ⟨bs', cs', g', m', w', a5', a6', a7', e1, ?_, e3, by omega, fun n hn n1 n2 n4 => by rw [e5 n (by omega) n1 n2 n4, F1 n n4]⟩
        rw [while_one _ _ _ ht (l2 := [some (.loc i), some (.loc j), x2, some (.loc w), some (.int g), some (.int one), a6, a7]) (m2 := m1)]
        · exact e2
        · unfold lw_l_gone_2
          simp [↓hw', hm1, ↓G1.hj, valG_kC, hq]
      | some q =>
        by_cases hleft : 1 < q
        · rw [if_pos (by simpa using hleft)]
          have hmax : ∀ M : Mem, maxD [.int 0, .int (q - 1)] M = .ok (.int (q - 1)) M := fun M => by
            show Res.ok (Dv.int (if q - 1 > 0 then _ else 0)) M = _
            rw [if_pos (by omega)]
          have G2 := G1.setC (putG cs one (q - 1))
          have W2 : (m1.set j (.dic (kC (putG cs one (q - 1)))))[w]? = some (.lst (rest.map Dv.int)) := by rw [List.getElem?_set_ne wj.symm]; exact W1
          have hkp : ∀ x, x ∈ keys (putG cs one (q - 1)) ↔ x ∈ keys bs := fun x => by rw [keys_put_in hq]; exact hk x
          obtain ⟨bs', cs', g', m', w', a5', a6', a7', e1, e2, e3, e4, e5⟩ := ih rest bs (putG cs one (q - 1)) g _ w (some (.int one)) a6 a7 G2 W2 wi wj hkp hrl (by omega) (by omega) (by rw [put_len_in hq]; exact h3)
          refine ⟨bs', cs', g', m', w', a5', a6', a7', by simpa using e1, ?_, e3, ?_, ?_⟩
          · rw [while_one _ _ _ ht (l2 := [some (.loc i), some (.loc j), x2, some (.loc w), some (.int g), some (.int one), a6, a7]) (m2 := m1.set j (.dic (kC (putG cs one (q - 1)))))]
            · exact e2
            · have hj2 := G2.hj
              have hv : valG (putG cs one (q - 1)) one = some (q - 1) := by rw [valG_put, if_pos rfl]
              have q1 : ¬ q - 1 = 0 := by omega
              generalize hm2 : m1.set j (.dic (kC (putG cs one (q - 1)))) = m2 at hj2
              unfold lw_l_gone_2
              simp [↓hw', hm1, ↓G1.hj, valG_kC, hq, ↓hmax, hcl, h3, putG_kC, ↓hm2, ↓hj2, hv, q1]
          · rw [← L1]; refine Nat.le_trans ?_ e4; simp
          · intro n hn n1 n2 n4
            rw [e5 n (by simp; omega) n1 n2 n4, List.getElem?_set_ne (Ne.symm n2), F1 n n4]
        · rw [if_neg (by simpa using hleft)]
          have hmax : ∀ M : Mem, maxD [.int 0, .int (q - 1)] M = .ok (.int 0) M := fun M => by
            show Res.ok (Dv.int (if q - 1 > 0 then _ else 0)) M = _
            rw [if_neg (by omega)]
          obtain ⟨x, hb⟩ : ∃ x, valG bs one = some x := Classical.byContradiction fun z => absurd ((hk one).mp (Classical.byContradiction fun y => by rw [valG_none.mpr y] at hq; cases hq)) (fun y => z (by cases q : valG bs one with | none => exact absurd y (valG_none.mp q) | some x => exact ⟨x, rfl⟩))
          simp only [hb]
          have hz := sz_drop hb
          have G2 := G1.setC (putG cs one 0)
          have G3 := G2.setC (dropG cs one)
          rw [List.set_set] at G3
          have G4 := G3.setB (dropG bs one)
          have hv : valG (putG cs one 0) one = some 0 := by rw [valG_put, if_pos rfl]
          have hdp : dropG (kC (putG cs one 0)) (.inl one) = kC (dropG cs one) := by rw [dropG_kC, drop_put]
          have hkd : ∀ x, x ∈ keys (dropG cs one) ↔ x ∈ keys (dropG bs one) := fun x => by rw [keys_drop, keys_drop, List.mem_filter, List.mem_filter, hk x]
          have hrd : ∀ k x, valG (dropG bs one) k = some x → x.rows.length ≤ 1000 := fun k x h => by
            rw [valG_drop] at h
            split at h
            · cases h
            · exact hrl k x h
          have l3 : (dropG cs one).length ≤ cs.length := List.length_filter_le ..
          have W4 : ((m1.set j (.dic (kC (dropG cs one)))).set i (.dic (kB (dropG bs one))))[w]? = some (.lst (rest.map Dv.int)) := by rw [List.getElem?_set_ne wi.symm, List.getElem?_set_ne wj.symm]; exact W1
          have L4 : ((m1.set j (.dic (kC (dropG cs one)))).set i (.dic (kB (dropG bs one)))).length = m.length := by simp [L1]
          have F4 : ∀ n, n ≠ i → n ≠ j → n ≠ w → ((m1.set j (.dic (kC (dropG cs one)))).set i (.dic (kB (dropG bs one))))[n]? = m[n]? := fun n n1 n2 n3 => by rw [List.getElem?_set_ne n1.symm, List.getElem?_set_ne n2.symm, F1 n n3]
          have hj2 := G2.hj
          have hset : (m1.set j (.dic (kC (putG cs one 0)))).set j (.dic (kC (dropG cs one))) = m1.set j (.dic (kC (dropG cs one))) := List.set_set ..
          have hi3 := G3.hi
          generalize hm2 : m1.set j (.dic (kC (putG cs one 0))) = m2 at hj2 hset
          generalize hm3 : m1.set j (.dic (kC (dropG cs one))) = m3 at hset hi3 W4 L4 F4 G4
          generalize hm4 : m3.set i (.dic (kB (dropG bs one))) = m4 at W4 L4 F4 G4
          cases x with
          | leaf v =>
            obtain ⟨bs', cs', g', m', w', a5', a6', a7', e1, e2, e3, e4, e5⟩ := ih rest (dropG bs one) (dropG cs one) (g + 1) m4 w (some (.int one)) (some (bxD (.leaf v))) a7 G4 W4 wi wj hkd hrd (by simp only [Bx.inner, List.length_nil] at hz; omega) (by simp only [Bx.inner, List.length_nil] at hz; omega) (by omega)
            refine ⟨bs', cs', g', m', w', a5', a6', a7', by simpa [Bx.inner] using e1, ?_, e3, by omega, fun n hn n1 n2 n4 => by rw [e5 n (by omega) n1 n2 n4, F4 n n1 n2 n4]⟩
            rw [while_one _ _ _ ht (l2 := [some (.loc i), some (.loc j), x2, some (.loc w), some (.int (g + 1)), some (.int one), some (bxD (.leaf v)), a7]) (m2 := m4)]
            · exact e2
            · have e : ¬ (("leaf" : Str) = "branch") := by decide +kernel
              unfold lw_l_gone_2
              simp [↓hw', hm1, ↓G1.hj, valG_kC, hq, ↓hmax, hcl, h3, putG_kC, ↓hm2, ↓hj2, hv, hdp, ↓hset, ↓hi3, valG_kB, hb, dropG_kB, ↓hm4, bxD, e]
          | br rows =>
            have hrw := hrl one _ hb
            have hrw : rows.length ≤ 1000 := hrw
            have hz : sz (dropG bs one) + rows.length ≤ sz bs := by simpa [Bx.inner] using hz
            have hle := inners_ok rows [some (.loc i), some (.loc j), x2, some (.loc w), some (.int (g + 1)), some (.int one), some (.tup [.str "branch", .lst (rD rows)]), a7] (by simp) m4 (.non) rfl hrw
            have hm5 : (m4 ++ [MO.lst ((rest ++ rows.map (·.2)).map Dv.int)])[m4.length]? = some (.lst ((rest ++ rows.map (·.2)).map Dv.int)) := by simp
            have G5 : GAt (m4 ++ [MO.lst ((rest ++ rows.map (·.2)).map Dv.int)]) i j (dropG bs one) (dropG cs one) := G4.keep (List.getElem?_append_left (lt_of_some G4.hi)) (List.getElem?_append_left (lt_of_some G4.hj))
            have li := lt_of_some G4.hi
            have lj := lt_of_some G4.hj
            have hadd : addN (.loc w) (.lst ((rows.map (·.2)).map Dv.int)) m4 = .ok (.loc m4.length) (m4 ++ [MO.lst ((rest ++ rows.map (·.2)).map Dv.int)]) := by
              unfold addN
              have h1 : lx m4 (.loc w) = some (rest.map Dv.int) := by unfold lx; simp only [W4]
              have h2 : lx m4 (.lst ((rows.map (·.2)).map Dv.int)) = some ((rows.map (·.2)).map Dv.int) := rfl
              simp only [h1, h2]
              rw [List.map_append]
              exact newLst_ok' (by simp; omega) m4
            obtain ⟨bs', cs', g', m', w', a5', a6', a7', e1, e2, e3, e4, e5⟩ := ih (rest ++ rows.map (·.2)) (dropG bs one) (dropG cs one) (g + 1) _ m4.length (some (.int one)) (some (bxD (.br rows))) a7 G5 hm5 (by omega) (by omega) hkd hrd (by simp; omega) (by simp; omega) (by omega)
            have L5 : (m4 ++ [MO.lst ((rest ++ rows.map (·.2)).map Dv.int)]).length = m4.length + 1 := by simp
            refine ⟨bs', cs', g', m', w', a5', a6', a7', by simpa [Bx.inner] using e1, ?_, e3, by omega, fun n hn n1 n2 n4 => ?_⟩
            · rw [while_one _ _ _ ht (l2 := [some (.loc i), some (.loc j), x2, some (.loc m4.length), some (.int (g + 1)), some (.int one), some (bxD (.br rows)), a7]) (m2 := m4 ++ [MO.lst ((rest ++ rows.map (·.2)).map Dv.int)])]
              · exact e2
              · generalize (rows.map (·.2)).map Dv.int = il at hle hadd
                generalize (rest ++ rows.map (·.2)).map Dv.int = il2 at hadd
                unfold lw_l_gone_2
                simp [↓hw', hm1, ↓G1.hj, valG_kC, hq, ↓hmax, hcl, h3, putG_kC, ↓hm2, ↓hj2, hv, hdp, ↓hset, ↓hi3, valG_kB, hb, dropG_kB, ↓hm4, bxD, ↓hle, ↓hadd]
            · rw [e5 n (by omega) n1 n2 (by omega), List.getElem?_append_left (by omega), F4 n n1 n2 n4]
/-! ### tables in order -/
structure TB (K : Int) (bs : List (Int × Bx)) (cs : List (Int × Int)) : Prop where
  kc : ∀ x, x ∈ keys cs ↔ x ∈ keys bs
  nd : (keys bs).Nodup
  ndc : (keys cs).Nodup
  le : ∀ x ∈ keys bs, 1 ≤ x ∧ x ≤ K
  few : ∀ k x, valG bs k = some x → x.rows.length ≤ 100
  gn : ∀ k x, valG bs k = some x → ∀ r ∈ x.rows, gN r.1
section
variable {K : Int} {bs : List (Int × Bx)} {cs : List (Int × Int)}
theorem TB.hk (T : TB K bs cs) : ∀ i x, valG bs i = some x → ∃ n, valG cs i = some n := fun i x h => of_mem_keys ((T.kc i).mpr (mem_keys_of h))
theorem TB.lens {N : Nat} (T : TB K bs cs) (hK : K ≤ N) : bs.length ≤ N ∧ cs.length ≤ N ∧ sz bs ≤ 1000 * N := by
  have h1 := nodup_len N (keys bs) T.nd fun i hi => ⟨(T.le i hi).1, by have := (T.le i hi).2; omega⟩
  have h2 := nodup_len N (keys cs) T.ndc fun i hi => ⟨(T.le i ((T.kc i).mp hi)).1, by have := (T.le i ((T.kc i).mp hi)).2; omega⟩
  rw [keys_len] at h1 h2
  have h3 := sz_le (bs := bs) fun q hq => by
    have := T.few q.1 q.2 (valG_of_mem T.nd (show (q.1, q.2) ∈ bs from hq))
    omega
  refine ⟨h1, h2, Nat.le_trans h3 (Nat.mul_le_mul_left _ h1)⟩
theorem TB.drop (T : TB K bs cs) (i : Int) : TB K (dropG bs i) (dropG cs i) := by
  have hv : ∀ k x, valG (dropG bs i) k = some x → valG bs k = some x := fun k x h => by
    rw [valG_drop] at h
    split at h
    · cases h
    · exact h
  exact ⟨fun x => by rw [keys_drop, keys_drop, List.mem_filter, List.mem_filter, T.kc x], nodup_drop T.nd i, nodup_drop T.ndc i, fun x hx => by rw [keys_drop] at hx; exact T.le x (List.mem_filter.mp hx).1, fun k x h => T.few k x (hv k x h), fun k x h => T.gn k x (hv k x h)⟩
theorem TB.cnt (T : TB K bs cs) {i n : Int} (h : valG cs i = some n) (n' : Int) : TB K bs (putG cs i n') := by
  have e : keys (putG cs i n') = keys cs := keys_put_in h
  exact ⟨fun x => by rw [e]; exact T.kc x, T.nd, by rw [e]; exact T.ndc, T.le, T.few, T.gn⟩
theorem TB.new (T : TB K bs cs) (hK : 0 ≤ K) {x : Bx} (h1 : x.rows.length ≤ 100) (h2 : ∀ r ∈ x.rows, gN r.1) : TB (K + 1) (putG bs (K + 1) x) (putG cs (K + 1) 0) := by
  refine ⟨fun y => by rw [mem_keys_put, mem_keys_put, T.kc y], nodup_put T.nd _ _, nodup_put T.ndc _ _, fun y hy => ?_, fun k y h => ?_, fun k y h => ?_⟩
  · rcases mem_keys_put.mp hy with rfl | hy
    · omega
    · have := T.le y hy; omega
  · rw [valG_put] at h
    split at h
    · cases h; exact h1
    · exact T.few k y h
  · rw [valG_put] at h
    split at h
    · cases h; exact h2
    · exact T.gn k y h
theorem TB.held : ∀ (rows : List (Str × Int)) (cs : List (Int × Int)), TB K bs cs → (∀ r ∈ rows, ∃ x, valG bs r.2 = some x) → TB K bs (heldAll cs rows)
  | [], _, T, _ => T
  | r :: rows, cs, T, h => by
    obtain ⟨x, hx⟩ := h r (.head _)
    obtain ⟨n, hn⟩ := T.hk _ x hx
    have eq : heldAll cs (r :: rows) = heldAll (putG cs r.2 (n + 1)) rows := by unfold heldAll; simp [hn]
    rw [eq]
    exact TB.held rows _ (T.cnt hn _) fun z hz => h z (.tail _ hz)
end
theorem lg_TB {K : Int} : ∀ (n : Nat) (st : List Int) (bs : List (Int × Bx)) (cs : List (Int × Int)) (g : Int) (bs' : List (Int × Bx)) (cs' : List (Int × Int)) (g' : Int), TB K bs cs → lg n st bs cs g = some (bs', cs', g') → TB K bs' cs' := by
  intro n
  induction n with
  | zero => intro st bs cs g bs' cs' g' _ h; cases h
  | succ n ih =>
    intro st bs cs g bs' cs' g' T h
    unfold lg at h
    split at h
    · cases h; exact T
    · rename_i one _
      split at h
      · rename_i hl
        cases hq : valG cs one with
        | none => rw [hq] at hl; simp at hl
        | some q => exact ih _ _ _ _ _ _ _ (T.cnt hq _) h
      · split at h
        · exact ih _ _ _ _ _ _ _ T h
        · exact ih _ _ _ _ _ _ _ (T.drop one) h
theorem fin_rtG {m m' : Mem} (d : Dv) (hl : m.length ≤ m'.length) : ∃ m'', fin m (.rt d m') = .ok d m'' ∧ m.length ≤ m''.length ∧ ∀ n, n < m.length → m''[n]? = m'[n]? := by
  rw [fin_rt_eq]
  split
  · rename_i g
    refine ⟨m, rfl, Nat.le_refl _, fun n hn => ?_⟩
    conv => lhs; rw [← g.1]
    rw [List.getElem?_take, if_pos hn]
  · exact ⟨m', rfl, hl, fun _ _ => rfl⟩
theorem gone_ok {m : Mem} {i j : Nat} {bs : List (Int × Bx)} {cs : List (Int × Int)} {K : Int} (G : GAt m i j bs cs) (T : TB K bs cs) (hK : K ≤ 200) (one : Int) :
    ∃ bs' cs' g m', lg fuelN [one] bs cs 0 = some (bs', cs', g) ∧ m_l_gone [.loc i, .loc j, .int one] m = .ok (.int g) m' ∧ GAt m' i j bs' cs' ∧ m.length ≤ m'.length ∧ ∀ n, n < m.length → n ≠ i → n ≠ j → m'[n]? = m[n]? := by
  obtain ⟨l1, l2, l3⟩ := T.lens (N := 200) hK
  have li := lt_of_some G.hi
  have lj := lt_of_some G.hj
  have G1 : GAt (m ++ [.lst ([one].map Dv.int)]) i j bs cs := G.keep (List.getElem?_append_left li) (List.getElem?_append_left lj)
  obtain ⟨bs', cs', g, m', w', a5, a6, a7, e1, e2, e3, e4, e5⟩ := gone_run (x2 := some (.int one)) fuelN [one] bs cs 0 (m ++ [.lst ([one].map Dv.int)]) m.length none none none G1 (by simp) (by omega) (by omega) T.kc (fun k x h => by have := T.few k x h; omega) (by simp [fuelN]; omega) (by simp; omega) (by omega)
  have hl : m.length ≤ m'.length := by simp at e4; omega
  obtain ⟨m'', f1, f2, f3⟩ := fin_rtG (.int g) hl
  refine ⟨bs', cs', g, m'', e1, ?_, e3.keep (f3 _ li) (f3 _ lj), f2, fun n hn n1 n2 => ?_⟩
  · have e2 : whileM (tV (eBin neD (eVar 3) (eMk mkLst aNil))) lw_l_gone_2 fuelN [some (.loc i), some (.loc j), some (.int one), some (.loc m.length), some (.int 0), none, none, none] (m ++ [.lst [.int one]]) = _ := e2
    unfold m_l_gone mkFn bd_l_gone
    simp [sWhile, e2, f1]
  · rw [f3 n hn, e5 n (by simp; omega) n1 n2 (by omega), List.getElem?_append_left hn]
/-! ### a branch made of a list with a place; a branch refused -/
theorem branchL_ok {m : Mem} {p b c w : Nat} {bs : List (Int × Bx)} {cs : List (Int × Int)} {k : Int} (P : PAt m p b c bs cs k) (rows : List (Str × Int)) (hw : m[w]? = some (.lst (rD rows))) (w1 : w ≠ p) (w2 : w ≠ b) (w3 : w ≠ c) (hr : ∀ r ∈ rows, ∃ x, valG bs r.2 = some x) (hk : ∀ i x, valG bs i = some x → ∃ n, valG cs i = some n)
    (hb : bs.length < 1000000) (hc : cs.length < 1000000) (hl : rows.length ≤ 1000) :
    ∃ m', m_Pile_branchL [.loc p, .loc w] m = .ok (.int (k + 1)) m' ∧ PAt m' p b c (putG bs (k + 1) (.br rows)) (putG (heldAll cs rows) (k + 1) 0) (k + 1) ∧ Fr m m' p b c := by
  have lw := lt_of_some hw
  have H1 : ∀ (rs : List (Str × Int)) (x1 a d : Option Dv), (∀ r ∈ rs, ∃ x, valG bs r.2 = some x) → ∃ a' d', forCM w (rD rows) (tg2 2 3) lf_Pile_branchL_1 (rD rs) [some (.loc p), x1, a, d] m = .nx [some (.loc p), x1, a', d'] m := by
    intro rs
    induction rs with
    | nil =>
      intro x1 a d _
      refine ⟨a, d, ?_⟩
      show forCM w (rD rows) (tg2 2 3) lf_Pile_branchL_1 [] _ _ = _
      unfold forCM
      rw [if_pos hw]
    | cons r rs ih =>
      intro x1 a d h
      obtain ⟨a', d', e⟩ := ih x1 (some (.str r.1)) (some (.int r.2)) fun z hz => h z (.tail _ hz)
      obtain ⟨x, hx⟩ := h r (.head _)
      refine ⟨a', d', ?_⟩
      show forCM w (rD rows) (tg2 2 3) lf_Pile_branchL_1 (rowD r :: rD rs) _ _ = _
      unfold forCM
      rw [if_pos hw]
      have hbody : lf_Pile_branchL_1 [some (.loc p), x1, some (.str r.1), some (.int r.2)] m = .nx [some (.loc p), x1, some (.str r.1), some (.int r.2)] m := by
        unfold lf_Pile_branchL_1
        simp [P.hp, need_ok P hx]
      show (match lf_Pile_branchL_1 [some (.loc p), x1, some (.str r.1), some (.int r.2)] m with | .nx l2 m2 => _ | .ct l2 m2 => _ | .bk l2 m2 => _ | .rt d m2 => _ | .exc c l2 m2 => _ | .bad => _) = _
      rw [hbody]
      exact e
  have H2 : ∀ (rs : List (Str × Int)) (m : Mem) (cs : List (Int × Int)) (x1 a d : Option Dv), PAt m p b c bs cs k → m[w]? = some (.lst (rD rows)) → (∀ r ∈ rs, ∃ x, valG bs r.2 = some x) → (∀ i x, valG bs i = some x → ∃ n, valG cs i = some n) → cs.length < 1000000 →
      ∃ a' d' m', forCM w (rD rows) (tg2 2 3) lf_Pile_branchL_2 (rD rs) [some (.loc p), x1, a, d] m = .nx [some (.loc p), x1, a', d'] m' ∧ PAt m' p b c bs (heldAll cs rs) k ∧ Fr m m' p b c ∧ (heldAll cs rs).length = cs.length := by
    intro rs
    induction rs with
    | nil =>
      intro m cs x1 a d P hw _ _ _
      refine ⟨a, d, m, ?_, P, Fr.refl _ _ _ _, rfl⟩
      show forCM w (rD rows) (tg2 2 3) lf_Pile_branchL_2 [] _ _ = _
      unfold forCM
      rw [if_pos hw]
    | cons r rs ih =>
      intro m cs x1 a d P hw h hk hc
      have lw := lt_of_some hw
      obtain ⟨x, hx⟩ := h r (.head _)
      obtain ⟨n, hn⟩ := hk _ x hx
      obtain ⟨m1, e1, P1, F1⟩ := hold_ok P hx hn (by omega)
      have hlen : (putG cs r.2 (n + 1)).length = cs.length := put_len_in hn
      obtain ⟨a', d', m', e2, P2, F2, L2⟩ := ih m1 (putG cs r.2 (n + 1)) x1 (some (.str r.1)) (some (.int r.2)) P1 (by rw [F1.2 w lw w1 w2 w3]; exact hw) (fun z hz => h z (.tail _ hz)) (fun i y hi => by
        rw [valG_put]
        split
        · exact ⟨_, rfl⟩
        · exact hk i y hi) (by omega)
      have eq : heldAll cs (r :: rs) = heldAll (putG cs r.2 (n + 1)) rs := by unfold heldAll; simp [hn]
      rw [eq]
      refine ⟨a', d', m', ?_, P2, F1.trans F2, by omega⟩
      show forCM w (rD rows) (tg2 2 3) lf_Pile_branchL_2 (rowD r :: rD rs) _ _ = _
      unfold forCM
      rw [if_pos hw]
      have hbody : lf_Pile_branchL_2 [some (.loc p), x1, some (.str r.1), some (.int r.2)] m = .nx [some (.loc p), x1, some (.str r.1), some (.int r.2)] m1 := by
        unfold lf_Pile_branchL_2
        simp [P.hp, e1]
      show (match lf_Pile_branchL_2 [some (.loc p), x1, some (.str r.1), some (.int r.2)] m with | .nx l2 m2 => _ | .ct l2 m2 => _ | .bk l2 m2 => _ | .rt d m2 => _ | .exc c l2 m2 => _ | .bad => _) = _
      rw [hbody]
      exact e2
  obtain ⟨a1, d1, e1⟩ := H1 rows (some (.loc w)) none none hr
  obtain ⟨a2, d2, m2, e2, P2, F2, L2⟩ := H2 rows m cs (some (.loc w)) a1 d1 P hw hr hk hc
  have hw2 : m2[w]? = some (.lst (rD rows)) := by rw [F2.2 w lw w1 w2 w3]; exact hw
  obtain ⟨m3, e3, P3, F3⟩ := fresh_ok P2 (.br rows) (by omega) (by omega)
  have e3 : m_Pile_fresh [.loc p, .tup [.str "branch", .lst (rD rows)]] m2 = .ok (.int (k + 1)) m3 := e3
  obtain ⟨m4, e4, P4, F4⟩ := fin_rtP P P3 (F2.trans F3) (.int (k + 1))
  refine ⟨m4, ?_, P4, F4⟩
  have hl' : rows.length ≤ 16777216 := by omega
  have hl2 : (rD rows).length = rows.length := List.length_map _
  generalize rD rows = rr at *
  unfold m_Pile_branchL mkFn bd_Pile_branchL
  simp [↓hw, e1, ↓hw2, e2, P2.hp, hl2, hl', e3, e4]
theorem branch_no {m : Mem} {p b c : Nat} {bs : List (Int × Bx)} {cs : List (Int × Int)} {k : Int} (P : PAt m p b c bs cs k) {good bad : Int} {x : Bx} (hg : valG bs good = some x) (hb : valG bs bad = none) (s1 s2 s3 : Str) : m_Pile_branch [.loc p, .lst [.tup [.str s1, .int good], .tup [.str s2, .int bad], .tup [.str s3, .int good]]] m = .exc 7 m := by
  have h1 := need_ok P hg
  have h2 := need_no P (d := .int bad) (.inr (.inr ⟨bad, rfl, hb⟩))
  unfold m_Pile_branch mkFn bd_Pile_branch
  simp [Sn.forM, lf_Pile_branch_1, P.hp, h1, h2]
/-! ### the law's small defs -/
theorem whole_i (i : Int) (m : Mem) : m_l_whole [.int i] m = .ok (.bl true) m := by
  unfold m_l_whole mkFn bd_l_whole
  simp
theorem count_i (i j : Int) (m : Mem) : m_l_count [.int i, .int j] m = .ok (.bl (decide (i = j))) m := by
  unfold m_l_count mkFn bd_l_count
  simp [whole_i]
theorem allD_true (ys : List Dv) (m : Mem) : allD [.lst (ys.map fun _ => Dv.bl true)] m = .ok (.bl true) m := by
  have e : bls (ys.map fun _ => Dv.bl true) = some (ys.map fun _ => true) := by
    induction ys with
    | nil => rfl
    | cons y r ih => show (bls (r.map fun _ => Dv.bl true)).map (true :: ·) = _; rw [ih] <;> rfl
  unfold allD
  simp [e]
theorem ok_row {r : Str × Int} (h : gN r.1) : PyData.strOk r.1 = true := strOk_abc fun x hx => (h.2.2 x hx).2
theorem neD_row {r : Str × Int} (h : gN r.1) (m : Mem) : neD (rowD r) (rowD r) m = .ok (.bl false) m := by
  have hv : vw m (rowD r) = rowD r := rfl
  have hp : pln 1 (rowD r) = true := by simp [rowD, pln, plns, ok_row h]
  rw [neD_pln (n := 1) (by decide) (by rw [hv]; exact hp) (by rw [hv]; exact hp) (.inl rfl)]
  simp
theorem alike_leaf (v : Int) (m : Mem) : m_l_alike [bxD (.leaf v), bxD (.leaf v)] m = .ok (.bl true) m := by
  unfold m_l_alike mkFn bd_l_alike
  simp [bxD, count_i]
theorem alike_loop {rows : List (Str × Int)} (hg : ∀ r ∈ rows, gN r.1) {m : Mem} {d : Dv} (hd : ∀ k : Nat, ∀ (h : k < rows.length), ixD d (.int k) m = .ok (rowD rows[k]) m) (x2 x3 : Option Dv) :
    ∃ x2' x3', Sn.forM (tgN 2) lf_l_alike_1 (rng 0 rows.length) [some (.tup [.str "branch", d]), some (.tup [.str "branch", .lst (rD rows)]), x2, x3] m = .nx [some (.tup [.str "branch", d]), some (.tup [.str "branch", .lst (rD rows)]), x2', x3'] m := by
  obtain ⟨l2, m2, e2, a, b, rfl, hm⟩ := forM_inv (tg := tgN 2) (body := lf_l_alike_1) (ds := rng 0 rows.length)
    (fun i l m' => ∃ a b, l = [some (.tup [.str "branch", d]), some (.tup [.str "branch", .lst (rD rows)]), a, b] ∧ m' = m)
    (by
      rintro i hi l m' ⟨a, b, rfl, rfl⟩
      rw [rng_length] at hi
      have e1 : (rng 0 rows.length)[i]'(by rw [rng_length]; exact hi) = .int i := by simp [rng]
      rw [e1]
      have h1 := hd i hi
      have h2 : atI (rD rows) (i : Int) = some (rowD rows[i]) := atI_nat (by simp [hi])
      have h3 := neD_row (hg rows[i] (List.getElem_mem hi)) m'
      generalize rows[i] = r at h1 h2 h3
      refine ⟨_, [some (.tup [.str "branch", d]), some (.tup [.str "branch", .lst (rD rows)]), some (.int i), some (rowD r)], m', rfl, .inl ?_, _, _, rfl, rfl⟩
      generalize rD rows = rr at h2
      unfold lf_l_alike_1
      simp only [rowD] at h1 h2 h3
      simp [rowD, h1, h2, h3, whole_i])
    [some (.tup [.str "branch", d]), some (.tup [.str "branch", .lst (rD rows)]), x2, x3] m ⟨_, _, rfl, rfl⟩
  rw [hm] at e2
  exact ⟨a, b, e2⟩
theorem alike_br {rows : List (Str × Int)} (hg : ∀ r ∈ rows, gN r.1) (hl : rows.length ≤ 1000) (m : Mem) : m_l_alike [bxD (.br rows), bxD (.br rows)] m = .ok (.bl true) m := by
  obtain ⟨a, b, e⟩ := alike_loop hg (m := m) (d := .lst (rD rows)) (fun k h => by
    have : atI (rD rows) (k : Int) = some (rowD rows[k]) := atI_nat (by simp [h])
    simp [this]) none none
  have b2 : (rows.length : Int) < 4611686018427387904 := by omega
  have b3 : -4611686018427387904 ≤ (rows.length : Int) := by omega
  have hl2 : (rD rows).length = rows.length := List.length_map _
  have hl3 : rows.length ≤ 16777216 := by omega
  have e4 : ¬ (("branch" : Str) = "leaf") := by decide +kernel
  have hF : fin m (.rt (.bl true) m) = .ok (.bl true) m := by rw [fin_rt_eq, if_pos ⟨by simp, rfl⟩]
  show m_l_alike [.tup [.str "branch", .lst (rD rows)], .tup [.str "branch", .lst (rD rows)]] m = _
  unfold m_l_alike mkFn bd_l_alike
  generalize rD rows = rr at *
  simp [e4, hl2, hl3, b2, b3, e, hF]
theorem alike_brL {rows : List (Str × Int)} (hg : ∀ r ∈ rows, gN r.1) (hl : rows.length ≤ 1000) {m : Mem} {w : Nat} (hw : m[w]? = some (.lst (rD rows))) : m_l_alike [.tup [.str "branch", .loc w], bxD (.br rows)] m = .ok (.bl true) m := by
  obtain ⟨a, b, e⟩ := alike_loop hg (m := m) (d := .loc w) (fun k h => by
    have : atI (rD rows) (k : Int) = some (rowD rows[k]) := atI_nat (by simp [h])
    simp [↓hw, this]) none none
  have b2 : (rows.length : Int) < 4611686018427387904 := by omega
  have b3 : -4611686018427387904 ≤ (rows.length : Int) := by omega
  have hl2 : (rD rows).length = rows.length := List.length_map _
  have hl3 : rows.length ≤ 16777216 := by omega
  have e4 : ¬ (("branch" : Str) = "leaf") := by decide +kernel
  have hF : fin m (.rt (.bl true) m) = .ok (.bl true) m := by rw [fin_rt_eq, if_pos ⟨by simp, rfl⟩]
  have hty : tyOf m (.loc w) = some .list := by
    show (match m[w]? with
      | some (.lst _) => some Tn.list
      | some (.dic _) => some Tn.dict
      | some (.dit _) => some Tn.dict
      | _ => none) = _
    rw [hw]
  show m_l_alike [.tup [.str "branch", .loc w], .tup [.str "branch", .lst (rD rows)]] m = _
  unfold m_l_alike mkFn bd_l_alike
  generalize rD rows = rr at *
  simp [e4, hl2, hl3, b2, b3, e, hF, hty, ↓hw]
theorem alike_ok {x : Bx} (hg : ∀ r ∈ x.rows, gN r.1) (hl : x.rows.length ≤ 1000) (m : Mem) : m_l_alike [bxD x, bxD x] m = .ok (.bl true) m := by
  cases x with
  | leaf v => exact alike_leaf v m
  | br rows => exact alike_br hg hl m

/-! ### the state -/
structure ST (m : Mem) (p b c i j : Nat) (bs : List (Int × Bx)) (cs : List (Int × Int)) (K : Nat) : Prop where
  P : PAt m p b c bs cs (K : Int)
  G : GAt m i j bs cs
  T : TB (K : Int) bs cs
  ip : i ≠ p
  ib : i ≠ b
  ic : i ≠ c
  jp : j ≠ p
  jb : j ≠ b
  jc : j ≠ c
section
variable {m : Mem} {p b c i j : Nat} {bs : List (Int × Bx)} {cs : List (Int × Int)} {K : Nat}
theorem as_due_ok (S : ST m p b c i j bs cs K) (hK : K ≤ 200) : m_l_as_due [.loc p, .loc i, .loc j, .int (K : Int)] m = .ok (.bl true) m := by
  obtain ⟨l1, l2, l3⟩ := S.T.lens (N := 200) (by omega)
  have hk := kept_ok S.P
  have hs := sortKiD_ok (f := bxD) S.G.hi
  have hn := neD_ints ((keys bs).mergeSort ile) ((keys bs).mergeSort ile) m
  have hE := eLc_map (it := iSeq (eVar 4)) (j := 5) (e := le_l_as_due_1) (l := [some (.loc p), some (.loc i), some (.loc j), some (.int (K : Int)), some (.lst (((keys bs).mergeSort ile).map Dv.int)), none]) (m := m) (m1 := m) (ds := ((keys bs).mergeSort ile).map Dv.int) (by simp)
    (fun _ => .bl true) (fun x hx acc => by
      obtain ⟨q, hq, rfl⟩ := List.mem_map.mp hx
      obtain ⟨y, hy⟩ := of_mem_keys (List.mem_mergeSort.mp hq)
      obtain ⟨n, hn⟩ := S.T.hk q y hy
      have P1 := S.P.app [.lst acc]
      have h1 := holders_ok P1 hy hn
      have h2 : (m ++ [MO.lst acc])[j]? = some (.dic (kC cs)) := by rw [List.getElem?_append_left (lt_of_some S.G.hj)]; exact S.G.hj
      have h3 := P1.hp
      unfold le_l_as_due_1
      simp [whole_i, ↓h3, h1, ↓h2, valG_kC, hn, count_i]) (by rw [List.length_map, List.length_mergeSort, keys_len]; simp; omega) (clos_map _ _ (fun _ => rfl) _)
  have hall := allD_true (((keys bs).mergeSort ile).map Dv.int) m
  have hL : (((keys bs).mergeSort ile).map Dv.int).length ≤ 16777216 := by rw [List.length_map, List.length_mergeSort, keys_len]; omega
  have hF : fin m (.rt (.bl true) m) = .ok (.bl true) m := by rw [fin_rt_eq, if_pos ⟨by simp, rfl⟩]
  unfold m_l_as_due mkFn bd_l_as_due
  generalize ((keys bs).mergeSort ile).map Dv.int = kl at *
  simp [S.P.hp, hk, hs, hn, count_i, hE, hall, hF]
theorem refused_ok (S : ST m p b c i j bs cs K) {good bad : Int} {x : Bx} (hg : valG bs good = some x) (hb : valG bs bad = none) (ce : Int) : m_l_refused [.loc p, .int bad, .int good, .int ce] m = .ok (.bl true) m := by
  have ho : Odd m bs (.int bad) := .inr (.inr ⟨bad, rfl, hb⟩)
  have h1 := content_no S.P ho
  have h2 := let_go_no S.P ho
  have h3 := hold_no S.P ho
  have h4 := holders_no S.P ho
  have h5 := branch_no S.P hg hb "a" "b" "c"
  have hF : fin m (.rt (.bl true) m) = .ok (.bl true) m := by rw [fin_rt_eq, if_pos ⟨by simp, rfl⟩]
  unfold m_l_refused mkFn bd_l_refused
  by_cases z0 : ce % 6 = 0
  · simp [z0, S.P.hp, h1, List.lookup, hF]
  · by_cases z1 : ce % 6 = 1
    · simp [z1, S.P.hp, h2, List.lookup, hF]
    · by_cases z2 : ce % 6 = 2
      · simp [z2, S.P.hp, h3, List.lookup, hF]
      · by_cases z3 : ce % 6 = 3
        · simp [z3, S.P.hp, h4, List.lookup, hF]
        · simp [z0, z1, z2, z3, S.P.hp, h5, List.lookup, hF]
end
/-! ### rows by a cell -/
def lett (x : Nat) : Prop := 97 ≤ x ∧ x ≤ 122
theorem fold_rep (x : Nat) : ∀ (n : Nat) (acc : Array Nat), (List.foldl (fun a b => a ++ b) acc (List.replicate n #[x])).toList = acc.toList ++ List.replicate n x
  | 0, acc => by simp
  | n + 1, acc => by
    rw [List.replicate_succ, List.foldl_cons, fold_rep x n (acc ++ #[x]), List.replicate_succ]
    simp
theorem tx_mul (x : Nat) (k : Int) : tx (Txt.mul ⟨#[x]⟩ k) = List.replicate k.toNat x := by
  unfold Txt.mul
  by_cases h : k < 1
  · rw [if_pos h]
    have : k.toNat = 0 := by omega
    rw [this]
    rfl
  · rw [if_neg h]
    by_cases h1 : k = 1
    · subst h1
      rfl
    · have h2 : ¬ (k == 1 || (⟨#[x]⟩ : Str).length == 0) = true := by
        have : (⟨#[x]⟩ : Str).length = 1 := rfl
        simp [h1, this]
      rw [if_neg h2]
      show (List.foldl (· ++ ·) #[] (List.replicate k.toNat #[x])).toList = _
      rw [fold_rep]
      rfl
theorem some_name (ce : Int) (i : Nat) (hi : i < 41) : ∃ s : Str, gN s ∧ ∀ (l : Lc) (m : Mem), l[0]? = some (some (.int ce)) → l[5]? = some (some (.int i)) → le_l_rows_by_1 l m = .ok (.str s) m := by
  have e1 : ("nopqrstuvwxyz" : Str).cps.toList = [110, 111, 112, 113, 114, 115, 116, 117, 118, 119, 120, 121, 122] := by decide +kernel
  have e2 : ("abcd" : Str).cps.toList = [97, 98, 99, 100] := by decide +kernel
  obtain ⟨x, hx, hxm⟩ := at_some (xs := ("nopqrstuvwxyz" : Str).cps.toList) (i := (ce / 7 + 5 * (i : Int)) % 13) (by omega) (by rw [e1]; simp; omega)
  obtain ⟨y, hy, hym⟩ := at_some (xs := ("abcd" : Str).cps.toList) (i := (i : Int) % 4) (by omega) (by rw [e2]; simp; omega)
  have hx2 : lett x := by rw [e1] at hxm; simp at hxm; unfold lett; omega
  have hy2 : lett y := by rw [e2] at hym; simp at hym; unfold lett; omega
  have hlm : (Txt.mul ⟨#[y]⟩ ((i : Int) / 13)).length = ((i : Int) / 13).toNat := by rw [len_tx, tx_mul, List.length_replicate]
  refine ⟨⟨#[x]⟩ ++ Txt.mul ⟨#[y]⟩ ((i : Int) / 13), ⟨?_, ?_, fun z hz => ?_⟩, fun l m h0 h5 => ?_⟩
  · rw [len_append]; show 1 ≤ 1 + _; omega
  · rw [len_append, hlm]; show 1 + _ ≤ 8; omega
  · rw [tx_append, tx_mul] at hz
    rcases List.mem_append.mp hz with hz | hz
    · have : z = x := by simpa [tx] using hz
      rw [this]; exact hx2
    · rw [(List.mem_replicate.mp hz).2]; exact hy2
  · have l1 : ("nopqrstuvwxyz" : Str).length ≤ 16777216 := by decide +kernel
    have l2 : ("abcd" : Str).length ≤ 16777216 := by decide +kernel
    have l3 : (⟨#[y]⟩ : Str).length ≤ 1000 := by show 1 ≤ 1000; decide
    have l4 : (⟨#[x]⟩ : Str).length + (Txt.mul ⟨#[y]⟩ ((i : Int) / 13)).length ≤ 16777216 := by rw [hlm]; show 1 + _ ≤ _; omega
    have k1 : (0 : Int) ≤ (i : Int) / 13 := by omega
    have k2 : (i : Int) / 13 ≤ 1000 := by omega
    have hm : ∀ M, mulD (.str ⟨#[y]⟩) (.int ((i : Int) / 13)) M = .ok (.str (Txt.mul ⟨#[y]⟩ ((i : Int) / 13))) M := fun M => by
      unfold mulD
      simp only []
      rw [if_pos ⟨k1, k2, l3⟩]
    have hm5 : ∀ M, mulD (.int 5) (.int (i : Int)) M = .ok (.int (5 * (i : Int))) M := fun M => by
      have := mulD_l (i := 5) (j := (i : Int)) (by omega) M
      exact this
    unfold le_l_rows_by_1
    simp [h0, h5, l1, l2, hx, hy, ↓hm, ↓hm5, l4]
theorem rows_by_ok (ce : Int) {there : List Int} (hne : there ≠ []) (hl : there.length ≤ 1000) (m : Mem) :
    ∃ rows : List (Str × Int), m_l_rows_by [.int ce, .lst (there.map Dv.int)] m = .ok (.lst (rD rows)) m ∧ rows.length ≤ 100 ∧ ∀ r ∈ rows, gN r.1 ∧ r.2 ∈ there := by
  obtain ⟨n, hn, n40⟩ : ∃ n : Nat, (if ce / 6 % 8 = 7 then ce / 48 % 41 else ce % 6) = (n : Int) ∧ n ≤ 40 := by
    by_cases z : ce / 6 % 8 = 7
    · exact ⟨(ce / 48 % 41).toNat, by rw [if_pos z, Int.toNat_of_nonneg (by omega)], by omega⟩
    · exact ⟨(ce % 6).toNat, by rw [if_neg z, Int.toNat_of_nonneg (by omega)], by omega⟩
  have hF : ∃ F : Nat → Str, ∀ i, i < 41 → gN (F i) ∧ ∀ (l : Lc) (m : Mem), l[0]? = some (some (.int ce)) → l[5]? = some (some (.int i)) → le_l_rows_by_1 l m = .ok (.str (F i)) m := by
    refine ⟨fun i => if h : i < 41 then Classical.choose (some_name ce i h) else "", fun i hi => ?_⟩
    simp only [hi, dif_pos]
    exact Classical.choose_spec (some_name ce i hi)
  obtain ⟨F, hF⟩ := hF
  have hlen : 0 < there.length := List.length_pos_iff.mpr hne
  have hG : ∀ k : Int, ∃ t : Int, t ∈ there ∧ atI (there.map Dv.int) ((ce / 11 + 3 * k) % (there.length : Int)) = some (.int t) := fun k => by
    have hp : (0 : Int) < there.length := by omega
    obtain ⟨x, hx, hm⟩ := at_some (xs := there.map Dv.int) (i := (ce / 11 + 3 * k) % (there.length : Int)) (Int.emod_nonneg _ (by omega)) (by rw [List.length_map]; exact Int.emod_lt_of_pos _ hp)
    obtain ⟨t, ht, rfl⟩ := List.mem_map.mp hm
    exact ⟨t, ht, hx⟩
  obtain ⟨Gt, hG⟩ := Classical.axiomOfChoice hG
  have u1 : (n : Int) < 4611686018427387904 := by omega
  have u2 : -4611686018427387904 ≤ (n : Int) := by omega
  have hE := eLc_map (it := iR1 (aCons (eVar 2) aNil)) (j := 5) (e := le_l_rows_by_1) (l := [some (.int ce), some (.lst (there.map Dv.int)), some (.int n), none, none, none]) (m := m) (m1 := m) (ds := rng 0 n) (by simp [u1, u2]) (fun d => match d with | .int i => .str (F i.toNat) | d => d)
    (fun x hx acc => by
      obtain ⟨i, hi, rfl⟩ := List.mem_map.mp hx
      have hi := List.mem_range.mp hi
      have e : ((0 : Int) + (i : Nat)).toNat = i := by omega
      have := (hF i (by omega)).2 [some (.int ce), some (.lst (there.map Dv.int)), some (.int n), none, none, some (.int i)] (m ++ [.lst acc]) rfl rfl
      have e0 : (0 : Int) + (i : Nat) = (i : Int) := by omega
      simp only [e]
      rw [e0]
      exact this) (by rw [rng_length]; simp; omega) (by unfold rng; rw [List.map_map]; exact clos_map _ _ (fun _ => rfl) _)
  have hm : (rng 0 n).map (fun d => match d with | .int i => Dv.str (F i.toNat) | d => d) = ((List.range n).map F).map Dv.str := by
    unfold rng
    rw [List.map_map, List.map_map]
    apply List.map_congr_left
    intro i _
    simp
  rw [hm] at hE
  have hts := txts_map ((List.range n).map F)
  have hsl : ((List.range n).map F).length ≤ 4000 := by simp; omega
  have hgs : ∀ s ∈ sortU ((List.range n).map F), gN s := fun s hs => by
    obtain ⟨i, hi, rfl⟩ := List.mem_map.mp ((mem_sortU s _).mp hs)
    have := List.mem_range.mp hi
    exact (hF i (by omega)).1
  have hul : (sortU ((List.range n).map F)).length ≤ 40 := by
    unfold sortU
    rw [List.length_mergeSort]
    refine Nat.le_trans (dd_length _) ?_
    simp; omega
  have hX : eSortSet (eVar 3) [some (.int ce), some (.lst (there.map Dv.int)), some (.int n), some (.lst (((List.range n).map F).map Dv.str)), none, none] m = .ok (.lst ((sortU ((List.range n).map F)).map Dv.str)) m := by
    rw [eSortSet_r]
    show (match (txts (((List.range n).map F).map Dv.str)) with | some xs => if xs.length ≤ 4000 then Res.ok (Dv.lst ((sortU xs).map Dv.str)) m else .bad | none => .bad) = _
    rw [hts]
    show (if ((List.range n).map F).length ≤ 4000 then _ else _) = _
    rw [if_pos hsl]
  generalize sortU ((List.range n).map F) = us at hgs hul hX
  have v1 : (us.length : Int) < 4611686018427387904 := by omega
  have v2 : -4611686018427387904 ≤ (us.length : Int) := by omega
  have hul2 : (us.map Dv.str).length = us.length := List.length_map _
  have htl : (there.map Dv.int).length = there.length := List.length_map _
  have hul3 : us.length ≤ 16777216 := by omega
  have htl3 : there.length ≤ 16777216 := by omega
  have hm2 : (rng 0 us.length).map (fun d => match d with | .int i => rowD (us.getD i.toNat "", Gt i) | d => d) = rD ((List.range us.length).map fun k : Nat => (us.getD k "", Gt k)) := by
    show _ = ((List.range us.length).map fun k : Nat => (us.getD k "", Gt k)).map rowD
    unfold rng
    rw [List.map_map, List.map_map]
    apply List.map_congr_left
    intro i _
    have e0 : (0 : Int) + (i : Nat) = (i : Int) := by omega
    show rowD (us.getD ((0 : Int) + (i : Nat)).toNat "", Gt ((0 : Int) + (i : Nat))) = _
    rw [e0, Int.toNat_natCast]
    rfl
  refine ⟨(List.range us.length).map fun k : Nat => (us.getD k "", Gt k), ?_, by simp; omega, fun r hr => ?_⟩
  · have hE2 : ∀ x3, eLc (iR1 (aCons (eMk lenD (aCons (eVar 4) aNil)) aNil)) 5 tYesM le_l_rows_by_2 [some (.int ce), some (.lst (there.map Dv.int)), some (.int n), x3, some (.lst (us.map Dv.str)), none] m = .ok (.lst (rD ((List.range us.length).map fun k : Nat => (us.getD k "", Gt k)))) m := fun x3 => by
      have := eLc_map (it := iR1 (aCons (eMk lenD (aCons (eVar 4) aNil)) aNil)) (j := 5) (e := le_l_rows_by_2) (l := [some (.int ce), some (.lst (there.map Dv.int)), some (.int n), x3, some (.lst (us.map Dv.str)), none]) (m := m) (m1 := m) (ds := rng 0 us.length)
        (by
          generalize us.map Dv.str = ul at hul2
          simp [hul2, hul3, v1, v2]) (fun d => match d with | .int i => rowD (us.getD i.toNat "", Gt i) | d => d)
        (fun x hx acc => by
          obtain ⟨i, hi, rfl⟩ := List.mem_map.mp hx
          have hi := List.mem_range.mp hi
          have e0 : (0 : Int) + (i : Nat) = (i : Int) := by omega
          have hu : atI (us.map Dv.str) (i : Int) = some (.str (us.getD i "")) := atI_nat (by simp [hi])
          have ht := (hG i).2
          have hm3 : ∀ M, mulD (.int 3) (.int (i : Int)) M = .ok (.int (3 * (i : Int))) M := fun M => mulD_l (i := 3) (j := (i : Int)) (by omega) M
          have hp : (0 : Int) < there.length := by omega
          rw [e0]
          generalize us.map Dv.str = ul at hu
          generalize there.map Dv.int = tl at htl ht
          unfold le_l_rows_by_2
          simp [hu, ↓hm3, htl, htl3, hp, hlen, ht, rowD]) (by rw [rng_length]; simp; omega) (by unfold rng; rw [List.map_map]; exact clos_map _ _ (fun _ => by simp [rowD]) _)
      rw [hm2] at this
      exact this
    have hF2 : fin m (.rt (.lst (rD ((List.range us.length).map fun k : Nat => (us.getD k "", Gt k)))) m) = .ok (.lst (rD ((List.range us.length).map fun k : Nat => (us.getD k "", Gt k)))) m := by
      rw [fin_rt_eq, if_pos ⟨by simp, by show clos _ _ = true; exact clos_rD _ _⟩]
    have hE3 := hE2 (some (.lst (((List.range n).map F).map Dv.str)))
    generalize ((List.range n).map F).map Dv.str = fl at *
    generalize rD ((List.range us.length).map fun k : Nat => (us.getD k "", Gt k)) = rr at *
    generalize us.map Dv.str = ul at *
    generalize there.map Dv.int = tl at *
    unfold m_l_rows_by mkFn bd_l_rows_by
    by_cases z : ce / 6 % 8 = 7
    · rw [if_pos z] at hn
      simp [z, hn, ↓hE, ↓hX, ↓hE3, hF2]
    · rw [if_neg z] at hn
      simp [z, hn, ↓hE, ↓hX, ↓hE3, hF2]
  · obtain ⟨k, hk, rfl⟩ := List.mem_map.mp hr
    have hk := List.mem_range.mp hk
    refine ⟨?_, (hG k).1⟩
    have : us.getD k "" = us[k] := by simp [hk]
    show gN (us.getD k "")
    rw [this]
    exact hgs _ (List.getElem_mem hk)
/-! ### a step -/
theorem ST.of {m m' : Mem} {p b c i j : Nat} {bs : List (Int × Bx)} {cs : List (Int × Int)} {K : Nat} (S : ST m p b c i j bs cs K) (h : ∀ n, n = p ∨ n = b ∨ n = c ∨ n = i ∨ n = j → m'[n]? = m[n]?) : ST m' p b c i j bs cs K :=
  ⟨⟨(h p (.inl rfl)).trans S.P.hp, (h b (.inr (.inl rfl))).trans S.P.hb, (h c (.inr (.inr (.inl rfl)))).trans S.P.hc, S.P.pb, S.P.pc, S.P.bc⟩, S.G.keep (h i (.inr (.inr (.inr (.inl rfl))))) (h j (.inr (.inr (.inr (.inr rfl))))), S.T, S.ip, S.ib, S.ic, S.jp, S.jb, S.jc⟩
section
variable {m : Mem} {p b c i j : Nat} {bs : List (Int × Bx)} {cs : List (Int × Int)} {K : Nat}
theorem ST.lt (S : ST m p b c i j bs cs K) : ∀ n, n = p ∨ n = b ∨ n = c ∨ n = i ∨ n = j → n < m.length := by
  have h1 := S.P.lp
  have h2 := S.P.lb
  have h3 := S.P.lc
  have h4 := lt_of_some S.G.hi
  have h5 := lt_of_some S.G.hj
  rintro n (rfl | rfl | rfl | rfl | rfl) <;> assumption
theorem ST.app (S : ST m p b c i j bs cs K) (x : Mem) : ST (m ++ x) p b c i j bs cs K := S.of fun n hn => List.getElem?_append_left (S.lt n hn)
/-- behind a def of the law -/
theorem ST.fin {m' : Mem} {bs' : List (Int × Bx)} {cs' : List (Int × Int)} {K' : Nat} (S : ST m p b c i j bs cs K) (S' : ST m' p b c i j bs' cs' K') (hl : m.length ≤ m'.length) (d : Dv) : ∃ m'', fin m (.rt d m') = .ok d m'' ∧ ST m'' p b c i j bs' cs' K' := by
  obtain ⟨m'', f1, f2, f3⟩ := fin_rtG d hl
  exact ⟨m'', f1, S'.of fun n hn => f3 n (S.lt n hn)⟩
theorem PAt.frG {m' : Mem} (F : Fr m m' p b c) (G : GAt m i j bs cs) (ip : i ≠ p) (ib : i ≠ b) (ic : i ≠ c) (jp : j ≠ p) (jb : j ≠ b) (jc : j ≠ c) : GAt m' i j bs cs :=
  G.keep (F.2 i (lt_of_some G.hi) ip ib ic) (F.2 j (lt_of_some G.hj) jp jb jc)
theorem there_at (hne : keys bs ≠ []) (x : Int) : ∃ q, q ∈ keys bs ∧ atI (((keys bs).mergeSort ile).map Dv.int) (x % (((keys bs).mergeSort ile).length : Int)) = some (.int q) := by
  have hl : 0 < ((keys bs).mergeSort ile).length := by rw [List.length_mergeSort]; exact List.length_pos_iff.mpr hne
  have hp : (0 : Int) < ((keys bs).mergeSort ile).length := by omega
  obtain ⟨y, hy, hm⟩ := at_some (xs := ((keys bs).mergeSort ile).map Dv.int) (i := x % (((keys bs).mergeSort ile).length : Int)) (Int.emod_nonneg _ (by omega)) (by rw [List.length_map]; exact Int.emod_lt_of_pos _ hp)
  obtain ⟨q, hq, rfl⟩ := List.mem_map.mp hm
  exact ⟨q, List.mem_mergeSort.mp hq, hy⟩
/-- a leaf -/
theorem step_leaf (S : ST m p b c i j bs cs K) (hK : K ≤ 190) (v : Int) : ∃ m3, m_Pile_leaf [.loc p, .int v] ((m.set i (.dic (kB (putG bs ((K : Int) + 1) (.leaf v))))).set j (.dic (kC (putG cs ((K : Int) + 1) 0)))) = .ok (.int ((K : Int) + 1)) m3 ∧ ST m3 p b c i j (putG bs ((K : Int) + 1) (.leaf v)) (putG cs ((K : Int) + 1) 0) (K + 1) ∧ m.length ≤ m3.length := by
  obtain ⟨l1, l2, l3⟩ := S.T.lens (N := 200) (by omega)
  have P1 := (S.P.keep (m' := m.set i (.dic (kB (putG bs ((K : Int) + 1) (.leaf v))))) (p' := i) (fun n _ hn => List.getElem?_set_ne (Ne.symm hn)) S.ip.symm S.ib.symm S.ic.symm)
  have P2 := (P1.keep (m' := (m.set i (.dic (kB (putG bs ((K : Int) + 1) (.leaf v))))).set j (.dic (kC (putG cs ((K : Int) + 1) 0)))) (p' := j) (fun n _ hn => List.getElem?_set_ne (Ne.symm hn)) S.jp.symm S.jb.symm S.jc.symm)
  have G2 := (S.G.setB (putG bs ((K : Int) + 1) (.leaf v))).setC (putG cs ((K : Int) + 1) 0)
  obtain ⟨m3, e, P3, F3⟩ := leaf_ok P2 v (by omega) (by omega)
  have ek : (((K + 1 : Nat) : Int)) = (K : Int) + 1 := by omega
  have T3 := S.T.new (by omega) (x := .leaf v) (Nat.zero_le _) (fun r hr => by cases hr)
  refine ⟨m3, e, ⟨by rw [ek]; exact P3, PAt.frG F3 G2 S.ip S.ib S.ic S.jp S.jb S.jc, by rw [ek]; exact T3, S.ip, S.ib, S.ic, S.jp, S.jb, S.jc⟩, ?_⟩
  have := F3.1
  simpa using this
/-- the law counts the holds -/
theorem held_loop (x0 x1 x3 x4 x5 x6 x7 x8 x9 x10 x11 x12 x13 : Option Dv) : ∀ (rows : List (Str × Int)) (m : Mem) (cs : List (Int × Int)) (a : Option Dv), GAt m i j bs cs → (∀ r ∈ rows, ∃ n, valG cs r.2 = some n) → cs.length < 1000000 →
    ∃ a', Sn.forM (tgN 14) lf_l_step_1 (rD rows) [x0, x1, some (.loc j), x3, x4, x5, x6, x7, x8, x9, x10, x11, x12, x13, a] m = .nx [x0, x1, some (.loc j), x3, x4, x5, x6, x7, x8, x9, x10, x11, x12, x13, a'] (m.set j (.dic (kC (heldAll cs rows)))) := by
  intro rows
  induction rows with
  | nil =>
    intro m cs a G _ _
    refine ⟨a, ?_⟩
    have : m.set j (.dic (kC cs)) = m := by
      refine List.ext_getElem? fun k => ?_
      by_cases z : j = k
      · subst z
        rw [List.getElem?_set_self (lt_of_some G.hj), G.hj]
      · rw [List.getElem?_set_ne z]
    show Out.nx _ m = _
    show _ = Out.nx _ (m.set j (.dic (kC cs)))
    rw [this]
  | cons r rows ih =>
    intro m cs a G h hc
    obtain ⟨n, hn⟩ := h r (.head _)
    have G2 := G.setC (putG cs r.2 (n + 1))
    obtain ⟨a', e⟩ := ih (m.set j (.dic (kC (putG cs r.2 (n + 1))))) (putG cs r.2 (n + 1)) (some (rowD r)) G2 (fun z hz => by
      obtain ⟨k, hk⟩ := h z (.tail _ hz)
      rw [valG_put]
      split
      · exact ⟨_, rfl⟩
      · exact ⟨k, hk⟩) (by rw [put_len_in hn]; exact hc)
    have eq : heldAll cs (r :: rows) = heldAll (putG cs r.2 (n + 1)) rows := by unfold heldAll; simp [hn]
    rw [eq]
    rw [List.set_set] at e
    refine ⟨a', (forM_cons (x := rowD r) (r := rD rows) (l2 := [x0, x1, some (.loc j), x3, x4, x5, x6, x7, x8, x9, x10, x11, x12, x13, some (rowD r)]) (m2 := m.set j (.dic (kC (putG cs r.2 (n + 1))))) rfl ?_).trans e⟩
    have hcl : (kC cs).length < 16777216 := by rw [length_kmap]; omega
    have hcl2 : cs.length < 16777216 := by omega
    unfold lf_l_step_1
    simp [rowD, ↓G.hj, valG_kC, hn, hcl, hcl2, putG_kC]
end
noncomputable def step_c : S :=
  (sSeq (sSet 8 (eBin ixD (eVar 5) (eBin modD (eVar 7) (eMk lenD (aCons (eVar 5) aNil)))))
    (sSeq (sIf (tV (eBin eqD (eVar 6) (eC (.int 3))))
    (sSeq (sDPutM (eVar 2) (eVar 8) (eBin addD (eDGet (eVar 2) (eVar 8)) (eC (.int 1))))
    (sRet (eAnd (eBin isD (eMeth 0 2 m_Pile_hold (eVar 0) (aCons (eVar 8) aNil)) (eC .non)) (eCall 2 m_l_alike (aCons (eMeth 0 2 m_Pile_content (eVar 0) (aCons (eVar 8) aNil)) (aCons (eDGet (eVar 1) (eVar 8)) aNil))))))
    sNil)
    (sSeq (sIf (tV (eBin eqD (eVar 6) (eC (.int 4))))
    (sRet (eCall 2 m_l_count (aCons (eMeth 0 2 m_Pile_let_go (eVar 0) (aCons (eVar 8) aNil)) (aCons (eCall 3 m_l_gone (aCons (eVar 1) (aCons (eVar 2) (aCons (eVar 8) aNil)))) aNil))))
    sNil)
    (sSeq (sSet 9 (eLc (iR2 (aCons (eC (.int 1)) (aCons (eBin addD (eVar 3) (eC (.int 2))) aNil))) 8 lt_l_step_3 le_l_step_2))
    (sRet (eCall 4 m_l_refused (aCons (eVar 0) (aCons (eBin ixD (eVar 9) (eBin modD (eVar 7) (eMk lenD (aCons (eVar 9) aNil)))) (aCons (eVar 8) (aCons (eBin fdivD (eVar 7) (eC (.int 64))) aNil))))))))))
noncomputable def step_b1 : S :=
  (sSeq (sSet 11 (eCall 2 m_l_rows_by (aCons (eVar 7) (aCons (eVar 5) aNil))))
    (sSeq (sSet 12 (eMk listN (aCons (eVar 11) aNil)))
    (sSeq (sSet 13 (eMeth 0 2 m_Pile_branchL (eVar 0) (aCons (eVar 12) aNil)))
    (sSeq (sIf (tV (eBin neD (eVar 12) (eVar 11)))
    (sRet (eC (.bl false)))
    sNil)
    (sSeq (sExpr (eApp (eVar 12) (eMk mkTup (aCons (eC (.str "zzz")) (aCons (eBin ixD (eVar 5) (eC (.int 0))) aNil)))))
    (sSeq (sFor (iSeq (eVar 11)) (tgN 14)
    lf_l_step_1)
    (sSeq (sDPutM (eVar 1) (eBin addD (eVar 3) (eC (.int 1))) (eMk mkTup (aCons (eC (.str "branch")) (aCons (eVar 11) aNil))))
    (sSeq (sDPutM (eVar 2) (eBin addD (eVar 3) (eC (.int 1))) (eC (.int 0)))
    (sRet (eCall 2 m_l_count (aCons (eVar 13) (aCons (eBin addD (eVar 3) (eC (.int 1))) aNil))))))))))))
noncomputable def bdc_l_step : S :=
  (sSeq (sSet 5 (eMk sortKiD (aCons (eVar 1) aNil)))
    (sSeq (sSet 6 (eBin modD (eVar 4) (eC (.int 6))))
    (sSeq (sSet 7 (eBin fdivD (eVar 4) (eC (.int 6))))
    (sSeq (sIf (tOrM (tV (eBin eqD (eVar 6) (eC (.int 0)))) (tV (eBin eqD (eVar 5) (eMk mkLst aNil))))
    (sSeq (sSet 10 (eBin addD (eBin subD (eBin modD (eVar 7) (eBin subD (eBin mulD (eC (.int 2)) (eBin powD (eC (.int 10)) (eC (.int 30)))) (eC (.int 1)))) (eBin powD (eC (.int 10)) (eC (.int 30)))) (eC (.int 1))))
    (sSeq (sDPutM (eVar 1) (eBin addD (eVar 3) (eC (.int 1))) (eMk mkTup (aCons (eC (.str "leaf")) (aCons (eVar 10) aNil))))
    (sSeq (sDPutM (eVar 2) (eBin addD (eVar 3) (eC (.int 1))) (eC (.int 0)))
    (sRet (eCall 2 m_l_count (aCons (eMeth 0 2 m_Pile_leaf (eVar 0) (aCons (eVar 10) aNil)) (aCons (eBin addD (eVar 3) (eC (.int 1))) aNil)))))))
    sNil)
    (sSeq (sIf (tV (eBin ltD (eVar 6) (eC (.int 3))))
    step_b1
    sNil)
    step_c)))))
theorem bdc_l_step_eq : bd_l_step = bdc_l_step := rfl
section
variable {m : Mem} {p b c i j : Nat} {bs : List (Int × Bx)} {cs : List (Int × Int)} {K : Nat}
theorem neD_rowsL {rows : List (Str × Int)} (hg : ∀ r ∈ rows, gN r.1) {M : Mem} {w : Nat} (hw : M[w]? = some (.lst (rD rows))) : neD (.loc w) (.lst (rD rows)) M = .ok (.bl false) M := by
  have hv : vw M (.loc w) = .lst (rD rows) := by unfold vw; simp only [hw]
  have hv2 : vw M (.lst (rD rows)) = .lst (rD rows) := rfl
  have hp : pln 2 (.lst (rD rows)) = true := by
    unfold pln
    exact plns_map 1 rowD rows fun r hr => by simp [rowD, pln, plns, ok_row (hg r hr)]
  rw [neD_pln (n := 2) (m := M) (x := .loc w) (y := .lst (rD rows)) (by decide) (by rw [hv]; exact hp) (by rw [hv2]; exact hp) (.inl rfl), hv, hv2]
  simp
theorem step_b1_ok (S : ST m p b c i j bs cs K) (hK : K ≤ 190) (hne : keys bs ≠ []) (x4 x6 : Option Dv) (so : Int) :
    ∃ bs' cs' m', step_b1 [some (.loc p), some (.loc i), some (.loc j), some (.int (K : Int)), x4, some (.lst (((keys bs).mergeSort ile).map Dv.int)), x6, some (.int so), none, none, none, none, none, none, none] m = .rt (.bl true) m' ∧ ST m' p b c i j bs' cs' (K + 1) ∧ m.length ≤ m'.length ∧ (K : Int) + 1 ∈ keys bs' := by
  obtain ⟨l1, l2, l3⟩ := S.T.lens (N := 200) (by omega)
  have hl : ((keys bs).mergeSort ile).length = bs.length := by rw [List.length_mergeSort, keys_len]
  have hne2 : (keys bs).mergeSort ile ≠ [] := fun z => hne (by have := congrArg List.length z; rw [List.length_mergeSort] at this; exact List.eq_nil_of_length_eq_zero this)
  obtain ⟨rows, e1, hr1, hr2⟩ := rows_by_ok so hne2 (by omega) m
  have hr3 : ∀ r ∈ rows, ∃ x, valG bs r.2 = some x := fun r hr => of_mem_keys (List.mem_mergeSort.mp (hr2 r hr).2)
  have hg : ∀ r ∈ rows, gN r.1 := fun r hr => (hr2 r hr).1
  obtain ⟨t0, ht0⟩ : ∃ t, atI (((keys bs).mergeSort ile).map Dv.int) 0 = some t := by
    obtain ⟨t, ht, _⟩ := at_some (xs := ((keys bs).mergeSort ile).map Dv.int) (i := 0) (by omega) (by rw [List.length_map, hl]; have := List.length_pos_iff.mpr hne; rw [keys_len] at this; omega)
    exact ⟨t, ht⟩
  have S1 := S.app [.lst (rD rows)]
  have hlt := S.lt
  have lp := hlt p (.inl rfl)
  have lb := hlt b (.inr (.inl rfl))
  have lc := hlt c (.inr (.inr (.inl rfl)))
  have li := hlt i (.inr (.inr (.inr (.inl rfl))))
  have lj := hlt j (.inr (.inr (.inr (.inr rfl))))
  have hw1 : (m ++ [MO.lst (rD rows)])[m.length]? = some (.lst (rD rows)) := by simp
  have hlm1 : (m ++ [MO.lst (rD rows)]).length = m.length + 1 := by simp
  obtain ⟨m2, e2, P2, F2⟩ := branchL_ok S1.P rows hw1 (by omega) (by omega) (by omega) hr3 S.T.hk (by omega) (by omega) (by omega)
  have hw2 : m2[m.length]? = some (.lst (rD rows)) := by rw [F2.2 m.length (by omega) (by omega) (by omega) (by omega)]; exact hw1
  have hne' := neD_rowsL hg hw2
  have hl2 := F2.1
  have G2 := PAt.frG F2 S1.G S.ip S.ib S.ic S.jp S.jb S.jc
  -- the handed list grows
  have P3 := P2.keep (m' := m2.set m.length (.lst (rD rows ++ [.tup [.str "zzz", t0]]))) (p' := m.length) (fun n _ hn => List.getElem?_set_ne (Ne.symm hn)) (by omega) (by omega) (by omega)
  have G3 := G2.keep (m' := m2.set m.length (.lst (rD rows ++ [.tup [.str "zzz", t0]]))) (List.getElem?_set_ne (by omega)) (List.getElem?_set_ne (by omega))
  have hl3 : (m2.set m.length (.lst (rD rows ++ [.tup [.str "zzz", t0]]))).length = m2.length := by simp
  generalize hm3 : m2.set m.length (.lst (rD rows ++ [.tup [.str "zzz", t0]])) = m3 at P3 G3 hl3
  have T1 := TB.held rows cs S.T hr3
  have T2 := T1.new (by omega) (x := .br rows) hr1 hg
  obtain ⟨a', e3⟩ := held_loop (i := i) (some (.loc p)) (some (.loc i)) (some (.int (K : Int))) x4 (some (.lst (((keys bs).mergeSort ile).map Dv.int))) x6 (some (.int so)) none none none (some (.lst (rD rows))) (some (.loc m.length)) (some (.int ((K : Int) + 1))) rows m3 cs none G3 (fun r hr => by
    obtain ⟨x, hx⟩ := hr3 r hr
    exact S.T.hk _ x hx) (by omega)
  have G4 := G3.setC (heldAll cs rows)
  have P4 := P3.keep (m' := m3.set j (.dic (kC (heldAll cs rows)))) (p' := j) (fun n _ hn => List.getElem?_set_ne (Ne.symm hn)) S.jp.symm S.jb.symm S.jc.symm
  have hl4 : (m3.set j (.dic (kC (heldAll cs rows)))).length = m3.length := by simp
  generalize m3.set j (.dic (kC (heldAll cs rows))) = m4 at e3 G4 P4 hl4
  have G5 := G4.setB (putG bs ((K : Int) + 1) (.br rows))
  have P5 := P4.keep (m' := m4.set i (.dic (kB (putG bs ((K : Int) + 1) (.br rows))))) (p' := i) (fun n _ hn => List.getElem?_set_ne (Ne.symm hn)) S.ip.symm S.ib.symm S.ic.symm
  have hl5 : (m4.set i (.dic (kB (putG bs ((K : Int) + 1) (.br rows))))).length = m4.length := by simp
  generalize hm5 : m4.set i (.dic (kB (putG bs ((K : Int) + 1) (.br rows)))) = m5 at G5 P5 hl5
  have G6 := G5.setC (putG (heldAll cs rows) ((K : Int) + 1) 0)
  have P6 := P5.keep (m' := m5.set j (.dic (kC (putG (heldAll cs rows) ((K : Int) + 1) 0)))) (p' := j) (fun n _ hn => List.getElem?_set_ne (Ne.symm hn)) S.jp.symm S.jb.symm S.jc.symm
  have hl6 : (m5.set j (.dic (kC (putG (heldAll cs rows) ((K : Int) + 1) 0)))).length = m5.length := by simp
  generalize hm6 : m5.set j (.dic (kC (putG (heldAll cs rows) ((K : Int) + 1) 0))) = m6 at G6 P6 hl6
  have ek : (((K + 1 : Nat) : Int)) = (K : Int) + 1 := by omega
  refine ⟨_, _, m6, ?_, ⟨by rw [ek]; exact P6, G6, by rw [ek]; exact T2, S.ip, S.ib, S.ic, S.jp, S.jb, S.jc⟩, by omega, mem_keys_put.mpr (.inl rfl)⟩
  have hpB : putG (kB bs) (.inl ((K : Int) + 1)) (.tup [.str "branch", .lst (rD rows)]) = kB (putG bs ((K : Int) + 1) (.br rows)) := putG_kB bs ((K : Int) + 1) (.br rows)
  have hpC : putG (kC (heldAll cs rows)) (.inl ((K : Int) + 1)) (.int 0) = kC (putG (heldAll cs rows) ((K : Int) + 1) 0) := putG_kC _ _ _
  have hbl : (kB bs).length < 16777216 := by rw [length_kmap]; omega
  have hcl : (kC (heldAll cs rows)).length < 16777216 := by
    rw [length_kmap]
    have := (T1.lens (N := 200) (by omega)).2.1
    omega
  have hi4 := G4.hi
  have hj5 := G5.hj
  have hp1 := S1.P.hp
  have hrl : (rD rows).length < 16777216 := by rw [List.length_map]; omega
  have hrl2 : (rD rows).length ≤ 16777216 := by omega
  generalize ((keys bs).mergeSort ile).map Dv.int = tl at *
  generalize kC (putG (heldAll cs rows) ((K : Int) + 1) 0) = c6 at *
  generalize kC (heldAll cs rows) = c5 at *
  generalize kB (putG bs ((K : Int) + 1) (.br rows)) = b5 at *
  generalize kB bs = b4 at *
  generalize rD rows = rr at *
  generalize hm1 : m ++ [MO.lst rr] = m1 at *
  unfold step_b1
  simp [e1, hrl2, hm1, ↓hp1, ↓e2, ↓hne', ↓hw2, hrl, ht0, ↓hm3, ↓e3, ↓hi4, hbl, hpB, ↓hm5, ↓hj5, hcl, hpC, ↓hm6, count_i]
def miss (bs : List (Int × Bx)) (K : Nat) : List Int := ((List.range (K + 1)).map fun i : Nat => (1 : Int) + i).filter fun x => decide (x ∉ keys bs)
theorem step_c_ok (S : ST m p b c i j bs cs K) (hK : K ≤ 190) (hne : keys bs ≠ []) (x4 : Option Dv) (wy so : Int) (hw : wy = 3 ∨ wy = 4 ∨ wy = 5) :
    ∃ bs' cs' m', step_c [some (.loc p), some (.loc i), some (.loc j), some (.int (K : Int)), x4, some (.lst (((keys bs).mergeSort ile).map Dv.int)), some (.int wy), some (.int so), none, none, none, none, none, none, none] m = .rt (.bl true) m' ∧ ST m' p b c i j bs' cs' K ∧ m.length ≤ m'.length := by
  obtain ⟨l1, l2, l3⟩ := S.T.lens (N := 200) (by omega)
  have hl : ((keys bs).mergeSort ile).length = bs.length := by rw [List.length_mergeSort, keys_len]
  have hbp : 0 < bs.length := by have := List.length_pos_iff.mpr hne; rw [keys_len] at this; exact this
  obtain ⟨q, hq, hat⟩ := there_at hne so
  obtain ⟨x, hx⟩ := of_mem_keys hq
  obtain ⟨n, hn⟩ := S.T.hk q x hx
  have hfew := S.T.few q x hx
  have htl : (((keys bs).mergeSort ile).map Dv.int).length = bs.length := by rw [List.length_map, hl]
  have hlp : 0 < (((keys bs).mergeSort ile).map Dv.int).length := by rw [htl]; exact hbp
  have hli : (((keys bs).mergeSort ile).map Dv.int).length ≤ 16777216 := by rw [htl]; omega
  rw [hl] at hat
  rw [htl] at hlp
  have hbl : bs.length ≤ 16777216 := by omega
  have hcl : cs.length < 16777216 := by omega
  have hcl2 : (kC cs).length < 16777216 := by rw [length_kmap]; exact hcl
  rcases hw with rfl | rfl | rfl
  · -- held
    have G1 := S.G.setC (putG cs q (n + 1))
    have P1 := S.P.keep (m' := m.set j (.dic (kC (putG cs q (n + 1))))) (p' := j) (fun k _ hk => List.getElem?_set_ne (Ne.symm hk)) S.jp.symm S.jb.symm S.jc.symm
    obtain ⟨m2, e2, P2, F2⟩ := hold_ok P1 hx hn (by omega)
    have G2 := PAt.frG F2 G1 S.ip S.ib S.ic S.jp S.jb S.jc
    have hc := content_ok P2 hx (fun rows e => by rw [e] at hfew; simp only [Bx.rows] at hfew; omega)
    have hal := alike_ok (S.T.gn q x hx) (by omega) m2
    have hl2 := F2.1
    have hp1 := P1.hp
    have hp2 := P2.hp
    have hi2 := G2.hi
    rw [List.length_set] at hl2
    refine ⟨bs, putG cs q (n + 1), m2, ?_, ⟨P2, G2, S.T.cnt hn _, S.ip, S.ib, S.ic, S.jp, S.jb, S.jc⟩, hl2⟩
    have hpC : putG (kC cs) (.inl q) (.int (n + 1)) = kC (putG cs q (n + 1)) := putG_kC _ _ _
    have hv : valG (kB bs) (.inl q) = some (bxD x) := by rw [valG_kB, hx] <;> rfl
    generalize bxD x = bx at hc hal hv
    generalize hm1 : m.set j (.dic (kC (putG cs q (n + 1)))) = m1 at *
    generalize ((keys bs).mergeSort ile).map Dv.int = tl at *
    unfold step_c
    simp [htl, hbl, hlp, hbp, hat, ↓S.G.hj, valG_kC, hn, hcl, hcl2, hpC, ↓hm1, ↓hp1, ↓e2, ↓hp2, hc, ↓hi2, hv, hal]
  · -- let go
    obtain ⟨bs', cs', g, m1, g1, e1, P1, F1⟩ := let_go_ok S.P hx S.T.hk (by omega) (by omega)
    have G1 := PAt.frG F1 S.G S.ip S.ib S.ic S.jp S.jb S.jc
    obtain ⟨bs2, cs2, g2, m2, g3, e2, G2, hl2, F2⟩ := gone_ok G1 S.T (by omega) q
    rw [g1] at g3
    cases g3
    have hp := F2 p P1.lp S.ip.symm S.jp.symm
    have hb := F2 b P1.lb S.ib.symm S.jb.symm
    have hc := F2 c P1.lc S.ic.symm S.jc.symm
    have P2 : PAt m2 p b c bs' cs' (K : Int) := ⟨hp.trans P1.hp, hb.trans P1.hb, hc.trans P1.hc, P1.pb, P1.pc, P1.bc⟩
    have hl1 := F1.1
    refine ⟨bs', cs', m2, ?_, ⟨P2, G2, lg_TB _ _ _ _ _ _ _ _ S.T g1, S.ip, S.ib, S.ic, S.jp, S.jb, S.jc⟩, by omega⟩
    generalize ((keys bs).mergeSort ile).map Dv.int = tl at *
    unfold step_c
    simp [htl, hbl, hlp, hbp, hat, ↓S.P.hp, ↓e1, ↓e2, count_i]
  · -- what is not there
    have hlast : (K : Int) + 1 ∈ miss bs K := by
      refine List.mem_filter.mpr ⟨List.mem_map.mpr ⟨K, List.mem_range.mpr (by omega), by omega⟩, ?_⟩
      have : (K : Int) + 1 ∉ keys bs := fun z => by have := (S.T.le _ z).2; omega
      simpa using this
    have hE := eLc_ok (it := iR2 (aCons (eC (.int 1)) (aCons (eBin addD (eVar 3) (eC (.int 2))) aNil))) (j := 8) (t := lt_l_step_3) (e := le_l_step_2) (l := [some (.loc p), some (.loc i), some (.loc j), some (.int (K : Int)), x4, some (.lst (((keys bs).mergeSort ile).map Dv.int)), some (.int 5), some (.int so), some (.int q), none, none, none, none, none, none]) (m := m) (m1 := m) (ds := rng 1 (K + 1))
      (by
        have u1 : (K : Int) + 2 < 4611686018427387904 := by omega
        have u2 : -4611686018427387904 ≤ (K : Int) + 2 := by omega
        have u3 : ((K : Int) + 2 - 1).toNat = K + 1 := by omega
        simp [u1, u2, u3])
      (fun d => match d with | .int x => decide (x ∉ keys bs) | _ => false) id
      (fun y hy acc => by
        obtain ⟨k, _, rfl⟩ := List.mem_map.mp hy
        have h2 : (m ++ [MO.lst acc])[i]? = some (.dic (kB bs)) := by rw [List.getElem?_append_left (lt_of_some S.G.hi)]; exact S.G.hi
        have h3 : (!(valG bs ((1 : Int) + (k : Nat))).isSome) = decide ((1 : Int) + (k : Nat) ∉ keys bs) := by
          cases hv : valG bs ((1 : Int) + (k : Nat)) with
          | none => simp [valG_none.mp hv]
          | some z => simp [mem_keys_of hv]
        unfold lt_l_step_3
        simp [↓h2, valG_kB, h3])
      (fun y hy _ acc => by unfold le_l_step_2; simp) (by rw [rng_length]; simp; omega)
    have hmm : ((rng 1 (K + 1)).filter (fun d => match d with | .int x => decide (x ∉ keys bs) | _ => false)).map id = (miss bs K).map Dv.int := by
      rw [List.map_id]
      unfold miss rng
      have : (List.range (K + 1)).map (fun i : Nat => Dv.int (1 + (i : Nat))) = ((List.range (K + 1)).map fun i : Nat => (1 : Int) + i).map Dv.int := by rw [List.map_map] <;> rfl
      rw [this, List.filter_map]
      rfl
    rw [hmm] at hE
    have hE := hE (clos_map _ _ (fun _ => rfl) _)
    have hml : 0 < (miss bs K).length := List.length_pos_iff.mpr fun z => by rw [z] at hlast; cases hlast
    have hml2 : (miss bs K).length ≤ K + 1 := by
      unfold miss
      refine Nat.le_trans (List.length_filter_le _ _) ?_
      simp
    have hmp : (0 : Int) < (miss bs K).length := by omega
    obtain ⟨y, hy, hym⟩ := at_some (xs := (miss bs K).map Dv.int) (i := so % ((miss bs K).length : Int)) (Int.emod_nonneg _ (by omega)) (by rw [List.length_map]; exact Int.emod_lt_of_pos _ hmp)
    obtain ⟨z, hz, rfl⟩ := List.mem_map.mp hym
    have hzb : valG bs z = none := by
      rw [valG_none]
      have := (List.mem_filter.mp hz).2
      simpa using this
    have hr := refused_ok S hx hzb (so / 64)
    have hML : ((miss bs K).map Dv.int).length = (miss bs K).length := List.length_map _
    have hml3 : (miss bs K).length ≤ 16777216 := by omega
    refine ⟨bs, cs, m, ?_, S, Nat.le_refl _⟩
    generalize (miss bs K).map Dv.int = ml at *
    generalize ((keys bs).mergeSort ile).map Dv.int = tl at *
    unfold step_c
    simp [htl, hbl, hlp, hbp, hat, ↓hE, hML, hml3, hml, hmp, hy, hr]
end
section
variable {m : Mem} {p b c i j : Nat} {bs : List (Int × Bx)} {cs : List (Int × Int)} {K : Nat}
theorem step_ok (S : ST m p b c i j bs cs K) (hK : K ≤ 190) (ce : Int) :
    ∃ bs' cs' K' m', m_l_step [.loc p, .loc i, .loc j, .int (K : Int), .int ce] m = .ok (.bl true) m' ∧ ST m' p b c i j bs' cs' K' ∧ (K' = K ∨ (K' = K + 1 ∧ (K' : Int) ∈ keys bs')) := by
  obtain ⟨l1, l2, l3⟩ := S.T.lens (N := 200) (by omega)
  have hs := sortKiD_ok (f := bxD) S.G.hi
  have heq := eqD_ints ((keys bs).mergeSort ile) [] m
  have heq : eqD (.lst (((keys bs).mergeSort ile).map Dv.int)) (.lst []) m = .ok (.bl (decide (((keys bs).mergeSort ile) = []))) m := heq
  have hnil : ((keys bs).mergeSort ile = []) ↔ keys bs = [] := by
    constructor
    · intro z
      have := congrArg List.length z
      rw [List.length_mergeSort] at this
      exact List.eq_nil_of_length_eq_zero this
    · intro z
      rw [z]
      simp
  have ek : (((K + 1 : Nat) : Int)) = (K : Int) + 1 := by omega
  by_cases hA : ce % 6 = 0 ∨ keys bs = []
  · obtain ⟨m3, e3, S3, hl3⟩ := step_leaf S hK (ce / 6 % 1999999999999999999999999999999 - 1000000000000000000000000000000 + 1)
    obtain ⟨m4, e4, S4⟩ := S.fin S3 hl3 (.bl true)
    have hj1 := (S.G.setB (putG bs ((K : Int) + 1) (.leaf (ce / 6 % 1999999999999999999999999999999 - 1000000000000000000000000000000 + 1)))).hj
    have hp2 : ((m.set i (.dic (kB (putG bs ((K : Int) + 1) (.leaf (ce / 6 % 1999999999999999999999999999999 - 1000000000000000000000000000000 + 1)))))).set j (.dic (kC (putG cs ((K : Int) + 1) 0))))[p]? = some (.ins 0 [.loc b, .loc c, .int (K : Int)]) := by
      rw [List.getElem?_set_ne S.jp, List.getElem?_set_ne S.ip]
      exact S.P.hp
    have hpB : putG (kB bs) (.inl ((K : Int) + 1)) (.tup [.str "leaf", .int (ce / 6 % 1999999999999999999999999999999 - 1000000000000000000000000000000 + 1)]) = kB (putG bs ((K : Int) + 1) (.leaf (ce / 6 % 1999999999999999999999999999999 - 1000000000000000000000000000000 + 1))) := putG_kB bs ((K : Int) + 1) (.leaf _)
    have hpC : putG (kC cs) (.inl ((K : Int) + 1)) (.int 0) = kC (putG cs ((K : Int) + 1) 0) := putG_kC _ _ _
    have hbl : (kB bs).length < 16777216 := by rw [length_kmap]; omega
    have hcl : (kC cs).length < 16777216 := by rw [length_kmap]; omega
    have hkey : ((K + 1 : Nat) : Int) ∈ keys (putG bs ((K : Int) + 1) (.leaf (ce / 6 % 1999999999999999999999999999999 - 1000000000000000000000000000000 + 1))) := by rw [ek]; exact mem_keys_put.mpr (.inl rfl)
    refine ⟨_, _, K + 1, m4, ?_, S4, .inr ⟨rfl, hkey⟩⟩
    have hi0 := S.G.hi
    have hm2 : ∀ M, mulD (.int 2) (.int 1000000000000000000000000000000) M = .ok (.int 2000000000000000000000000000000) M := fun M => mulD_l (i := 2) (j := 1000000000000000000000000000000) (by omega) M
    generalize ((keys bs).mergeSort ile).map Dv.int = tl at *
    generalize kB (putG bs ((K : Int) + 1) (.leaf (ce / 6 % 1999999999999999999999999999999 - 1000000000000000000000000000000 + 1))) = b5 at *
    generalize kC (putG cs ((K : Int) + 1) 0) = c5 at *
    generalize kB bs = b4 at *
    generalize kC cs = c4 at *
    generalize hM1 : m.set i (.dic b5) = m1 at *
    generalize hM2 : m1.set j (.dic c5) = m2 at *
    unfold m_l_step mkFn
    rw [bdc_l_step_eq]
    unfold bdc_l_step
    by_cases z : ce % 6 = 0
    · simp [hs, z, ↓hm2, ↓hi0, hbl, hpB, ↓hM1, ↓hj1, hcl, hpC, ↓hM2, ↓hp2, e3, count_i, e4]
    · have hz : keys bs = [] := hA.resolve_left z
      have hz2 := hnil.mpr hz
      simp [hs, z, heq, hz2, ↓hm2, ↓hi0, hbl, hpB, ↓hM1, ↓hj1, hcl, hpC, ↓hM2, ↓hp2, e3, count_i, e4]
  · have z : ¬ ce % 6 = 0 := fun q => hA (.inl q)
    have hne : keys bs ≠ [] := fun q => hA (.inr q)
    have hz2 : ¬ ((keys bs).mergeSort ile = []) := fun q => hne (hnil.mp q)
    by_cases hB : ce % 6 < 3
    · obtain ⟨bs', cs', m', e, S', hl', hkey⟩ := step_b1_ok S hK hne (some (.int ce)) (some (.int (ce % 6))) (ce / 6)
      obtain ⟨m4, e4, S4⟩ := S.fin S' hl' (.bl true)
      refine ⟨bs', cs', K + 1, m4, ?_, S4, .inr ⟨rfl, by rw [ek]; exact hkey⟩⟩
      generalize ((keys bs).mergeSort ile).map Dv.int = tl at *
      unfold m_l_step mkFn
      rw [bdc_l_step_eq]
      unfold bdc_l_step
      simp [hs, z, heq, hz2, hB, e, e4]
    · obtain ⟨bs', cs', m', e, S', hl'⟩ := step_c_ok S hK hne (some (.int ce)) (ce % 6) (ce / 6) (by omega)
      obtain ⟨m4, e4, S4⟩ := S.fin S' hl' (.bl true)
      refine ⟨bs', cs', K, m4, ?_, S4, .inl rfl⟩
      generalize ((keys bs).mergeSort ile).map Dv.int = tl at *
      unfold m_l_step mkFn
      rw [bdc_l_step_eq]
      unfold bdc_l_step
      simp [hs, z, heq, hz2, hB, e, e4]
end
theorem maxI_eq {xs : List Int} {M : Int} (h : ∀ y ∈ xs, y ≤ M) (hm : M ∈ xs) : maxI xs = M := Int.le_antisymm (h _ (maxI_mem fun z => by rw [z] at hm; cases hm)) (le_maxI_of hm)
theorem cutL_ints (xs : List Int) (lo hi : Option Int) : cutL (xs.map Dv.int) lo hi = (cutL xs lo hi).map Dv.int := by
  unfold cutL
  rw [List.length_map, List.map_take, List.map_drop]
section
variable {m : Mem} {p b c i j : Nat} {bs : List (Int × Bx)} {cs : List (Int × Int)} {K : Nat}
theorem contentN_leaf {k : Int} (P : PAt m p b c bs cs k) {i v : Int} (h : valG bs i = some (.leaf v)) : m_Pile_contentN [.loc p, .int i] m = .ok (bxD (.leaf v)) m := by
  unfold m_Pile_contentN mkFn bd_Pile_contentN
  simp [P.hp, need_ok P h, P.hb, valG_kB, h, bxD]
theorem contentN_br {k : Int} (P : PAt m p b c bs cs k) {i : Int} {rows : List (Str × Int)} (h : valG bs i = some (.br rows)) (hl : rows.length ≤ 1000) : m_Pile_contentN [.loc p, .int i] m = .ok (.tup [.str "branch", .loc m.length]) (m ++ [.lst (rD rows)]) := by
  have e : ¬ (("branch" : Str) = "leaf") := by decide +kernel
  have hl' : rows.length ≤ 16777216 := by omega
  have hF : fin m (.rt (.tup [.str "branch", .loc m.length]) (m ++ [.lst (rD rows)])) = .ok (.tup [.str "branch", .loc m.length]) (m ++ [.lst (rD rows)]) := by
    rw [fin_rt_eq, if_neg]
    rintro ⟨_, z⟩
    simp at z
  unfold m_Pile_contentN mkFn bd_Pile_contentN
  simp [P.hp, need_ok P h, P.hb, valG_kB, h, bxD, e, hl', ↓hF]
theorem deed (S : ST m p b c i j bs cs K) (hK : K ≤ 150) (x0 x6 x7 : Option Dv) (ce : Int) :
    ∃ bs' cs', ∃ K' : Nat, ∃ m' x6' x7', lf_law_2 [x0, some (.loc p), some (.loc i), some (.loc j), some (.int (K : Int)), some (.int ce), x6, x7] m = .nx [x0, some (.loc p), some (.loc i), some (.loc j), some (.int (K' : Int)), some (.int ce), x6', x7'] m' ∧ ST m' p b c i j bs' cs' K' ∧ K' ≤ K + 1 := by
  obtain ⟨bs1, cs1, K1, m1, e1, S1, hk1⟩ := step_ok S (by omega) ce
  have hK1 : K1 ≤ K + 1 := by rcases hk1 with h | ⟨h, _⟩ <;> omega
  obtain ⟨l1, l2, l3⟩ := S1.T.lens (N := 200) (by omega)
  have hLK : listKD [.loc i] m1 = .ok (.lst ((keys bs1).map Dv.int)) m1 := by
    have e : dcAt m1 (.loc i) = some (.k (kB bs1)) := by rw [dcAt_r, S1.G.hi]
    have e2 : ((kB bs1).map (·.1)).map keyV = (keys bs1).map Dv.int := by
      have := keys_kmap (κ' := Key) Sum.inl bxD bs1
      unfold keys at this
      rw [this, List.map_map]
      rfl
    unfold listKD
    simp only [e, e2]
    unfold mkLst
    rw [if_pos]
    rw [List.length_map, keys_len]
    simp; omega
  have hmax : ∀ M, maxLD [.lst (.int (K : Int) :: (keys bs1).map Dv.int)] M = .ok (.int (K1 : Int)) M := fun M => by
    have h1 : intsD (Dv.int (K : Int) :: (keys bs1).map Dv.int) = some ((K : Int) :: keys bs1) := intsD_map ((K : Int) :: keys bs1)
    have h2 : maxI ((K : Int) :: keys bs1) = (K1 : Int) := maxI_eq (fun y hy => by
      rcases List.mem_cons.mp hy with rfl | hy
      · rcases hk1 with h | ⟨h, _⟩ <;> omega
      · exact (S1.T.le y hy).2) (by
      rcases hk1 with h | ⟨_, h⟩
      · rw [h]; exact .head _
      · exact .tail _ h)
    rw [maxLD_r]
    show (match intsD (Dv.int (K : Int) :: (keys bs1).map Dv.int) with | some [] => Res.bad | some ns => Res.ok (Dv.int (maxI ns)) M | none => Res.bad) = _
    rw [h1]
    show Res.ok (Dv.int (maxI ((K : Int) :: keys bs1))) M = _
    rw [h2]
  have hdue := as_due_ok S1 (by omega)
  have hs := sortKiD_ok (f := bxD) S1.G.hi
  have hcut := cutL_ints ((keys bs1).mergeSort ile) (some (-1)) none
  have hmem : ∀ q ∈ cutL ((keys bs1).mergeSort ile) (some (-1)) none, q ∈ keys bs1 := fun q hq => by
    unfold cutL at hq
    exact List.mem_mergeSort.mp (List.mem_of_mem_drop (List.mem_of_mem_take hq))
  generalize cutL ((keys bs1).mergeSort ile) (some (-1)) none = ys at hcut hmem
  obtain ⟨l2, m2, e2, x6', x7', rfl, S2⟩ := forM_inv (tg := tgN 6) (body := lf_law_1) (ds := ys.map Dv.int)
    (fun _ l m' => ∃ x6 x7, l = [x0, some (.loc p), some (.loc i), some (.loc j), some (.int (K1 : Int)), some (.int ce), x6, x7] ∧ ST m' p b c i j bs1 cs1 K1)
    (by
      rintro k hk l M ⟨x6, x7, rfl, SM⟩
      rw [List.length_map] at hk
      have e : (ys.map Dv.int)[k]'(by rw [List.length_map]; exact hk) = .int ys[k] := by simp
      rw [e]
      have hq := hmem _ (List.getElem_mem hk)
      generalize ys[k] = q at hq
      obtain ⟨x, hx⟩ := of_mem_keys hq
      have hfew := SM.T.few q x hx
      have hgn := SM.T.gn q x hx
      cases x with
      | leaf v =>
        have hc := contentN_leaf SM.P hx
        have hal := alike_leaf v M
        have hv : valG (kB bs1) (.inl q) = some (bxD (.leaf v)) := by rw [valG_kB, hx] <;> rfl
        have e4 : ¬ (("leaf" : Str) = "branch") := by decide +kernel
        have hi := SM.G.hi
        have hix : ∀ M, ixD (bxD (.leaf v)) (.int 0) M = .ok (.str "leaf") M := fun M => by simp [bxD]
        refine ⟨_, [x0, some (.loc p), some (.loc i), some (.loc j), some (.int (K1 : Int)), some (.int ce), some (.int q), some (bxD (.leaf v))], M, rfl, .inl ?_, _, _, rfl, SM⟩
        generalize bxD (.leaf v) = bx at *
        unfold lf_law_1
        simp [↓SM.P.hp, hc, ↓hi, hv, hal, hix, e4]
      | br rows =>
        have hfew : rows.length ≤ 100 := hfew
        have hc := contentN_br SM.P hx (by omega)
        have hw : (M ++ [MO.lst (rD rows)])[M.length]? = some (.lst (rD rows)) := by simp
        have hal := alike_brL (rows := rows) hgn (by omega) hw
        have hv : valG (kB bs1) (.inl q) = some (bxD (.br rows)) := by rw [valG_kB, hx] <;> rfl
        have S3 := SM.app [.lst (rD rows)]
        have S4 := SM.app [.lst (rD rows ++ [.tup [.str "more", .int 1]])]
        have hi3 := S3.G.hi
        have hset : (M ++ [MO.lst (rD rows)]).set M.length (.lst (rD rows ++ [.tup [.str "more", .int 1]])) = M ++ [MO.lst (rD rows ++ [.tup [.str "more", .int 1]])] := by simp
        have hrl : (rD rows).length < 16777216 := by rw [List.length_map]; omega
        have hix : ∀ M, ixD (bxD (.br rows)) (.int 0) M = .ok (.str "branch") M := fun M => by simp [bxD]
        refine ⟨_, [x0, some (.loc p), some (.loc i), some (.loc j), some (.int (K1 : Int)), some (.int ce), some (.int q), some (.tup [.str "branch", .loc M.length])], M ++ [MO.lst (rD rows ++ [.tup [.str "more", .int 1]])], rfl, .inl ?_, _, _, rfl, S4⟩
        generalize bxD (.br rows) = bx at *
        generalize rD rows = rr at *
        generalize hM1 : M ++ [MO.lst rr] = M1 at *
        unfold lf_law_1
        simp [↓SM.P.hp, hc, hM1, ↓hi3, hv, hal, hix, ↓hw, hrl, ↓hset])
    [x0, some (.loc p), some (.loc i), some (.loc j), some (.int (K1 : Int)), some (.int ce), x6, x7] m1 ⟨_, _, rfl, S1⟩
  refine ⟨bs1, cs1, K1, m2, x6', x7', ?_, S2, hK1⟩
  have hkl : ((keys bs1).map Dv.int).length ≤ 16777215 := by rw [List.length_map, keys_len]; omega
  have hkl2 : 1 + ((keys bs1).map Dv.int).length ≤ 16777216 := by omega
  have hkl3 : ((keys bs1).map Dv.int).length + 1 ≤ 16777216 := by omega
  generalize (keys bs1).map Dv.int = kl at *
  generalize hys : ys.map Dv.int = yl at *
  generalize hsl : ((keys bs1).mergeSort ile).map Dv.int = sl at *
  unfold lf_law_2
  simp [e1, ↓hLK, hkl2, hkl3, ↓hmax, hdue, hs, hcut, e2]
end
/-! ### a chain -/
theorem iext : ∀ {xs ys : List Int}, xs.Pairwise (· < ·) → ys.Pairwise (· < ·) → (∀ i, i ∈ xs ↔ i ∈ ys) → xs = ys
  | [], [], _, _, _ => rfl
  | [], y :: ys, _, _, h => by have := (h y).mpr (.head _); cases this
  | x :: xs, [], _, _, h => by have := (h x).mp (.head _); cases this
  | x :: xs, y :: ys, h1, h2, h => by
    obtain ⟨a1, a2⟩ := List.pairwise_cons.mp h1
    obtain ⟨b1, b2⟩ := List.pairwise_cons.mp h2
    have e : x = y := by
      have p := (h x).mp (.head _)
      have q := (h y).mpr (.head _)
      rcases List.mem_cons.mp p with p | p
      · exact p
      · rcases List.mem_cons.mp q with q | q
        · exact q.symm
        · have := b1 x p; have := a1 y q; omega
    subst e
    rw [iext a2 b2 fun i => ?_]
    constructor
    · intro hi
      rcases List.mem_cons.mp ((h i).mp (.tail _ hi)) with e | e
      · subst e; exact absurd (a1 _ hi) (by omega)
      · exact e
    · intro hi
      rcases List.mem_cons.mp ((h i).mpr (.tail _ hi)) with e | e
      · subst e; exact absurd (b1 _ hi) (by omega)
      · exact e
theorem sort_lt {xs : List Int} (nd : xs.Nodup) : (xs.mergeSort ile).Pairwise (· < ·) := by
  have h1 : (xs.mergeSort ile).Pairwise fun a b => ile a b = true := List.pairwise_mergeSort (fun a b c h1 h2 => by unfold ile at *; simp at *; omega) (fun a b => by unfold ile; simp; omega) xs
  have h2 : (xs.mergeSort ile).Nodup := (List.mergeSort_perm xs ile).nodup_iff.mpr nd
  rw [List.nodup_iff_pairwise_ne] at h2
  exact (List.pairwise_and_iff.mpr ⟨h1, h2⟩).imp fun {a b} ⟨x, y⟩ => by unfold ile at x; simp at x; omega
structure CH (bs : List (Int × Bx)) (k nm : Nat) : Prop where
  ks : ∀ i, i ∈ keys bs ↔ 1 ≤ i ∧ i ≤ (k : Int) + 1
  dn : ∀ i x, valG bs i = some x → ∀ r ∈ x.rows, r.2 < i
  rf : ∀ i : Int, 1 ≤ i → i ≤ (k : Int) → 1 ≤ refs bs i
  few : ∀ i x, valG bs i = some x → x.rows.length ≤ 100
  one : refs bs 1 = if k = 0 then 0 else nm
theorem chain_gone {bs : List (Int × Bx)} {cs : List (Int × Int)} {k nm : Nat} (E : Exa bs cs []) (C : CH bs k nm) (hs : sz bs < 100000) :
    ∃ cs', lg fuelN [(k : Int) + 1] bs cs 0 = some ([], cs', (bs.length : Int)) := by
  have ht : (k : Int) + 1 ∈ keys bs := (C.ks _).mpr (by omega)
  obtain ⟨x, hx⟩ := of_mem_keys ht
  have hcnt := E.ex _ ht
  have h0 : refs bs ((k : Int) + 1) = 0 := by
    rcases Nat.eq_zero_or_pos (refs bs ((k : Int) + 1)) with z | z
    · exact z
    · obtain ⟨q, hq, hin⟩ := refs_of z
      have hv := valG_of_mem E.nd (show (q.1, q.2) ∈ bs from hq)
      rw [inner_rows] at hin
      obtain ⟨r, hr, hr2⟩ := List.mem_map.mp hin
      have h1 := C.dn _ _ hv r hr
      have h2 := ((C.ks _).mp (mem_keys_of hv)).2
      omega
  have hc0 : valG cs ((k : Int) + 1) = some 0 := by rw [hcnt, h0] <;> rfl
  have E2 := E.held ht hc0
  have P2 : Pos bs [(k : Int) + 1] := fun i hi => by
    have h1 := (C.ks i).mp hi
    by_cases z : i = (k : Int) + 1
    · rw [z]; simp
    · have := C.rf i h1.1 (by omega)
      omega
  obtain ⟨f, hf⟩ : ∃ f, fuelN = f + 1 := ⟨fuelN - 1, by decide⟩
  obtain ⟨keep, cs', g', e1, e2, e3, e4⟩ := lg_exact [] fuelN [(k : Int) + 1] bs (putG cs ((k : Int) + 1) (0 + 1)) 0 E2 P2 (by simp [fuelN]; omega)
  have hnil : bs.filter (fun p => keep p.1) = [] := by
    generalize hB : bs.filter (fun p => keep p.1) = B at e3 e4
    have hkB : ∀ i, i ∈ keys B → ∃ y, valG B i = some y ∧ valG bs i = some y := fun i hi => by
      obtain ⟨y, hy⟩ := of_mem_keys hi
      refine ⟨y, hy, ?_⟩
      rw [← hB, valG_filter] at hy
      split at hy
      · exact hy
      · cases hy
    -- a key above each key
    have hup : ∀ i, i ∈ keys B → ∃ i', i' ∈ keys B ∧ i < i' := fun i hi => by
      have h1 := e4 i hi
      rw [List.count_nil] at h1
      obtain ⟨q, hq, hin⟩ := refs_of (bs := B) (i := i) (by omega)
      have hv := valG_of_mem e3.nd (show (q.1, q.2) ∈ B from hq)
      obtain ⟨y, hy1, hy2⟩ := hkB q.1 (mem_keys_of hv)
      rw [hv] at hy1
      cases hy1
      rw [inner_rows] at hin
      obtain ⟨r, hr, hr2⟩ := List.mem_map.mp hin
      exact ⟨q.1, mem_keys_of hv, by have := C.dn _ _ hy2 r hr; omega⟩
    have hno : ∀ n : Nat, ∀ i, i ∈ keys B → (k : Int) + 2 - i < n → False := by
      intro n
      induction n with
      | zero =>
        intro i hi hn
        obtain ⟨y, _, hy⟩ := hkB i hi
        have := ((C.ks i).mp (mem_keys_of hy)).2
        omega
      | succ n ih =>
        intro i hi hn
        obtain ⟨i', h1, h2⟩ := hup i hi
        exact ih i' h1 (by omega)
    cases B with
    | nil => rfl
    | cons q r => exact (hno ((k : Int) + 2 - q.1 + 1).toNat q.1 (.head _) (by
        obtain ⟨y, _, hy⟩ := hkB q.1 (.head _)
        have := ((C.ks q.1).mp (mem_keys_of hy))
        omega)).elim
  rw [hnil] at e1 e2
  refine ⟨cs', ?_⟩
  have hg : g' = (bs.length : Int) := by simp at e2; omega
  rw [hg] at e1
  rw [← e1, hf]
  unfold lg
  have gl : [(k : Int) + 1].getLast? = some ((k : Int) + 1) := rfl
  simp only [gl, hc0, valG_put, if_pos, hx, drop_put]
  simp
def letr (a : Nat) : Str := ⟨#[97 + a]⟩
theorem chain_rows (l : Lc) (m : Mem) (nm : Nat) (h1 : l[1]? = some (some (.int (nm : Int)))) (box : Int) (h3 : l[3]? = some (some (.int box))) (hl : l.length = 6) (hn : nm ≤ 3) :
    eLc (iR1 (aCons (eVar 1) aNil)) 5 tYesM le_l_chain_1 l m = .ok (.lst (rD ((List.range nm).map fun a : Nat => (letr a, box)))) m := by
  have e1 : ("abcdefghijklm" : Str).cps.toList = [97, 98, 99, 100, 101, 102, 103, 104, 105, 106, 107, 108, 109] := by decide +kernel
  have l1 : ("abcdefghijklm" : Str).length ≤ 16777216 := by decide +kernel
  have u1 : (nm : Int) < 4611686018427387904 := by omega
  have u2 : -4611686018427387904 ≤ (nm : Int) := by omega
  have := eLc_map (it := iR1 (aCons (eVar 1) aNil)) (j := 5) (e := le_l_chain_1) (l := l) (m := m) (m1 := m) (ds := rng 0 nm) (by simp [h1, u1, u2]) (fun d => match d with | .int a => rowD (letr a.toNat, box) | d => d)
    (fun x hx acc => by
      obtain ⟨a, ha, rfl⟩ := List.mem_map.mp hx
      have ha := List.mem_range.mp ha
      have hlt : a < ("abcdefghijklm" : Str).cps.toList.length := by rw [e1]; simp; omega
      have hat : atI ("abcdefghijklm" : Str).cps.toList ((0 : Int) + (a : Nat)) = some (97 + a) := by
        have e0 : (0 : Int) + (a : Nat) = (a : Int) := by omega
        rw [e0]
        refine atI_nat ?_
        rw [e1]
        have : a = 0 ∨ a = 1 ∨ a = 2 := by omega
        rcases this with rfl | rfl | rfl <;> rfl
      have h3' : ((l.set 5 none).set 5 (some (.int ((0 : Int) + (a : Nat)))))[3]? = some (some (.int box)) := by simp [h3]
      have h5' : ((l.set 5 none).set 5 (some (.int ((0 : Int) + (a : Nat)))))[5]? = some (some (.int ((0 : Int) + (a : Nat)))) := by simp [hl]
      have e0 : ((0 : Int) + (a : Nat)).toNat = a := by omega
      generalize (l.set 5 none).set 5 (some (.int ((0 : Int) + (a : Nat)))) = l2 at h3' h5'
      unfold le_l_chain_1
      simp only [e0]
      have hat2 : atI ("abcdefghijklm" : Str).cps.toList (a : Int) = some (97 + a) := by simpa using hat
      simp [h5', h3', l1, hat2, rowD, letr]) (by rw [rng_length]; simp; omega) (by unfold rng; rw [List.map_map]; exact clos_map _ _ (fun _ => by simp [rowD]) _)
  rw [this]
  have hm : (rng 0 nm).map (fun d => match d with | .int a => rowD (letr a.toNat, box) | d => d) = rD ((List.range nm).map fun a : Nat => (letr a, box)) := by
    show _ = ((List.range nm).map fun a : Nat => (letr a, box)).map rowD
    unfold rng
    rw [List.map_map, List.map_map]
    apply List.map_congr_left
    intro a _
    have e0 : ((0 : Int) + (a : Nat)).toNat = a := by omega
    show rowD (letr ((0 : Int) + (a : Nat)).toNat, box) = _
    rw [e0]
    rfl
  rw [hm]
theorem chain_ok {mn nm : Nat} (h1 : mn ≤ 60) (h2 : 1 ≤ nm ∧ nm ≤ 3) : m_l_chain [.int (mn : Int), .int (nm : Int)] [] = .ok (.bl true) [] := by
  obtain ⟨m1, i1, P0, _⟩ := init_ok (m := [])
  simp only [List.length_nil, List.nil_append, Nat.zero_add] at i1 P0
  obtain ⟨m2, i2, P2, _⟩ := leaf_ok P0 7 (by simp) (by simp)
  have E0 : Exa [] [] [] := ⟨List.nodup_nil, List.nodup_nil, fun i => Iff.rfl, fun i hi => (by cases hi), fun i hi => (by cases hi), fun i x h => (by cases h)⟩
  obtain ⟨E1, r1, r2⟩ := E0.make (k := (0 : Int) + 1) (x := .leaf 7) (by simp [keys]) (fun r hr => by cases hr)
  have C1 : CH (putG [] ((0 : Int) + 1) (.leaf 7)) 0 nm := by
    refine ⟨fun i => ?_, fun i x h r hr => ?_, fun i a b => by omega, fun i x h => ?_, ?_⟩
    · rw [mem_keys_put]
      simp [keys]
      omega
    · rw [valG_put] at h
      split at h
      · cases h; cases hr
      · cases h
    · rw [valG_put] at h
      split at h
      · cases h; exact Nat.zero_le _
      · cases h
    · have := r2 1
      simpa [refs, Bx.rows] using this
  obtain ⟨l3, m3, e3, bs, cs, x4, x5, rfl, P3, E3, C3, hbl⟩ := forM_inv (tg := tgN 4) (body := lf_l_chain_2) (ds := rng 0 mn)
    (fun k l m' => ∃ bs cs x4 x5, l = [some (.int (mn : Int)), some (.int (nm : Int)), some (.loc 0), some (.int ((k : Int) + 1)), x4, x5] ∧ PAt m' 0 1 2 bs cs ((k : Int) + 1) ∧ Exa bs cs [] ∧ CH bs k nm ∧ bs.length = k + 1)
    (by
      rintro k hk l m' ⟨bs, cs, x4, x5, rfl, P, E, C, hb⟩
      rw [rng_length] at hk
      have e : (rng 0 mn)[k]'(by rw [rng_length]; exact hk) = .int k := by simp [rng]
      rw [e]
      have hr : ∀ r ∈ (List.range nm).map (fun a : Nat => (letr a, (k : Int) + 1)), r.2 = (k : Int) + 1 := fun r hr => by
        obtain ⟨a, _, rfl⟩ := List.mem_map.mp hr
        rfl
      have hkk : (k : Int) + 1 ∈ keys bs := (C.ks _).mpr (by omega)
      have hcl : cs.length ≤ k + 1 := by
        have := nodup_len (k + 1) (keys cs) E.ndc fun i hi => by
          have := (C.ks i).mp ((E.kc i).mp hi)
          omega
        rwa [keys_len] at this
      have hrows := chain_rows [some (.int (mn : Int)), some (.int (nm : Int)), some (.loc 0), some (.int ((k : Int) + 1)), some (.int k), x5] m' nm rfl ((k : Int) + 1) rfl rfl h2.2
      obtain ⟨m'', e2, P', _, _⟩ := branch_ok P ((List.range nm).map fun a : Nat => (letr a, (k : Int) + 1)) (fun r h => by rw [hr r h]; exact of_mem_keys hkk) (fun i x h => ⟨_, E.ex i (mem_keys_of h)⟩) (by omega) (by omega) (by simp; omega)
      have hnk : (k : Int) + 1 + 1 ∉ keys bs := fun z => by have := (C.ks _).mp z; omega
      obtain ⟨E', _, href⟩ := E.make (k := (k : Int) + 1 + 1) (x := .br ((List.range nm).map fun a : Nat => (letr a, (k : Int) + 1))) hnk (fun r h => by rw [hr r h]; exact hkk)
      have hcnt : ∀ i : Int, (((Bx.br ((List.range nm).map fun a : Nat => (letr a, (k : Int) + 1))).rows.map (·.2)).count i) = if i = (k : Int) + 1 then nm else 0 := fun i => by
        have : ((Bx.br ((List.range nm).map fun a : Nat => (letr a, (k : Int) + 1))).rows.map (·.2)) = List.replicate nm ((k : Int) + 1) := by
          show ((List.range nm).map fun a : Nat => (letr a, (k : Int) + 1)).map (·.2) = _
          rw [List.map_map]
          refine List.eq_replicate_iff.mpr ⟨by simp, fun b hb => ?_⟩
          obtain ⟨a, _, rfl⟩ := List.mem_map.mp hb
          rfl
        rw [this, List.count_replicate]
        by_cases z : i = (k : Int) + 1
        · simp [z]
        · have z2 : ¬ (k : Int) + 1 = i := fun q => z q.symm
          simp [z, z2]
      have ek : (((k + 1 : Nat) : Int)) + 1 = (k : Int) + 1 + 1 := by omega
      refine ⟨_, [some (.int (mn : Int)), some (.int (nm : Int)), some (.loc 0), some (.int ((k : Int) + 1 + 1)), some (.int k), x5], m'', rfl, .inl ?_, _, _, some (.int k), x5, by rw [ek], by rw [ek]; exact P', E', ⟨fun i => ?_, fun i x h r hr' => ?_, fun i a b => ?_, fun i x h => ?_, ?_⟩, ?_⟩
      · generalize rD ((List.range nm).map fun a : Nat => (letr a, (k : Int) + 1)) = rr at *
        unfold lf_l_chain_2
        simp [↓hrows, P.hp, e2]
      · rw [mem_keys_put, C.ks]
        omega
      · rw [valG_put] at h
        split at h
        · rename_i z
          cases h
          rw [hr r hr', z]
          omega
        · exact C.dn i x h r hr'
      · rw [href i, hcnt i]
        by_cases z : i = (k : Int) + 1
        · rw [if_pos z]; omega
        · have := C.rf i a (by omega)
          omega
      · rw [valG_put] at h
        split at h
        · cases h
          show ((List.range nm).map _).length ≤ 100
          simp; omega
        · exact C.few i x h
      · rw [href 1, hcnt 1, C.one]
        by_cases z : k = 0
        · subst z; simp
        · have z2 : ¬ (1 : Int) = (k : Int) + 1 := by omega
          rw [if_neg z, if_neg z2, if_neg (by omega)]
          rfl
      · rw [put_end _ hnk, List.length_append, hb] <;> rfl)
    [some (.int (mn : Int)), some (.int (nm : Int)), some (.loc 0), some (.int (((0 : Nat) : Int) + 1)), none, none] m2 ⟨_, _, none, none, rfl, P2, E1, C1, rfl⟩
  rw [rng_length] at P3 C3 hbl e3
  have hcl : cs.length ≤ mn + 1 := by
    have := nodup_len (mn + 1) (keys cs) E3.ndc fun i hi => by
      have := (C3.ks i).mp ((E3.kc i).mp hi)
      omega
    rwa [keys_len] at this
  have hsz := sz_le (bs := bs) fun q hq => by
    have := C3.few q.1 q.2 (valG_of_mem E3.nd (show (q.1, q.2) ∈ bs from hq))
    omega
  obtain ⟨cs', hlg⟩ := chain_gone E3 C3 (by omega)
  have hk := kept_ok P3
  have hsorted : (keys bs).mergeSort ile = (List.range (mn + 1)).map fun k : Nat => (k : Int) + 1 := iext (sort_lt E3.nd) (by
    rw [List.pairwise_map]
    exact List.pairwise_lt_range.imp fun {a b} h => by omega) fun i => by
    rw [List.mem_mergeSort, C3.ks]
    constructor
    · rintro ⟨a, b⟩
      exact List.mem_map.mpr ⟨(i - 1).toNat, List.mem_range.mpr (by omega), by omega⟩
    · intro h
      obtain ⟨k, hk, rfl⟩ := List.mem_map.mp h
      have := List.mem_range.mp hk
      omega
  rw [hsorted] at hk
  have u1 : (mn : Int) + 1 < 4611686018427387904 := by omega
  have u2 : -4611686018427387904 ≤ (mn : Int) + 1 := by omega
  have u3 : ((mn : Int) + 1).toNat = mn + 1 := by omega
  have hE := eLc_map (it := iR1 (aCons (eBin addD (eVar 0) (eC (.int 1))) aNil)) (j := 4) (e := le_l_chain_3) (l := [some (.int (mn : Int)), some (.int (nm : Int)), some (.loc 0), some (.int ((mn : Int) + 1)), x4, x5]) (m := m3) (m1 := m3) (ds := rng 0 (mn + 1)) (by simp [u1, u2, u3]) (fun d => match d with | .int i => .int (i + 1) | d => d)
    (fun x hx acc => by
      obtain ⟨i, hi, rfl⟩ := List.mem_map.mp hx
      unfold le_l_chain_3
      simp) (by rw [rng_length]; simp; omega) (by unfold rng; rw [List.map_map]; exact clos_map _ _ (fun _ => rfl) _)
  have hm : (rng 0 (mn + 1)).map (fun d => match d with | .int i => Dv.int (i + 1) | d => d) = ((List.range (mn + 1)).map fun k : Nat => (k : Int) + 1).map Dv.int := by
    unfold rng
    rw [List.map_map, List.map_map]
    apply List.map_congr_left
    intro i _
    simp
  rw [hm] at hE
  have hne := neD_ints ((List.range (mn + 1)).map fun k : Nat => (k : Int) + 1) ((List.range (mn + 1)).map fun k : Nat => (k : Int) + 1) m3
  have h1k : (1 : Int) ∈ keys bs := (C3.ks 1).mpr (by omega)
  obtain ⟨y1, hy1⟩ := of_mem_keys h1k
  have hc1 := E3.ex 1 h1k
  rw [List.count_nil, Nat.add_zero, C3.one] at hc1
  have hho := holders_ok P3 hy1 hc1
  obtain ⟨yt, hyt⟩ := of_mem_keys ((C3.ks ((mn : Int) + 1)).mpr (by omega))
  obtain ⟨bs', cs'', g, m4, g1, e4, P4, _⟩ := let_go_ok P3 hyt (fun i x h => ⟨_, E3.ex i (mem_keys_of h)⟩) (by omega) (by omega)
  rw [hlg] at g1
  cases g1
  have hk4 := kept_ok P4
  have hk4 : m_Pile_kept [.loc 0] m4 = .ok (.lst []) m4 := by
    have : (keys ([] : List (Int × Bx))).mergeSort ile = [] := by simp [keys]
    rw [this] at hk4
    exact hk4
  have heq := eqD_ints [] [] m4
  have heq : eqD (.lst []) (.lst []) m4 = .ok (.bl true) m4 := by simpa using heq
  have hF : fin [] (.rt (.bl true) m4) = .ok (.bl true) [] := by rw [fin_rt_eq, if_pos ⟨by simp, rfl⟩]
  have hb2 : (bs.length : Int) = (mn : Int) + 1 := by omega
  rw [hb2] at e4
  have b2 : (mn : Int) < 4611686018427387904 := by omega
  have b3 : -4611686018427387904 ≤ (mn : Int) := by omega
  have hmul : ∀ M, mulD (.int (nm : Int)) (.int (if 0 < mn then 1 else 0)) M = .ok (.int ((if mn = 0 then 0 else nm : Nat) : Int)) M := fun M => by
    rw [mulD_l (by omega)]
    refine congrArg (fun z : Int => Res.ok (Dv.int z) M) ?_
    by_cases z : 0 < mn
    · have z2 : ¬ mn = 0 := by omega
      have a1 : (if 0 < mn then (1 : Int) else 0) = 1 := if_pos z
      have a2 : (if mn = 0 then 0 else nm) = nm := if_neg z2
      rw [a2]
      exact (congrArg (fun t : Int => (nm : Int) * t) a1).trans (Int.mul_one _)
    · have z2 : mn = 0 := by omega
      have a1 : (if 0 < mn then (1 : Int) else 0) = 0 := if_neg z
      have a2 : (if mn = 0 then 0 else nm) = 0 := if_pos z2
      rw [a2]
      exact (congrArg (fun t : Int => (nm : Int) * t) a1).trans (Int.mul_zero _)
  have e3 : Sn.forM (tgN 4) lf_l_chain_2 (rng 0 mn) [some (.int (mn : Int)), some (.int (nm : Int)), some (.loc 0), some (.int 1), none, none] m2 = _ := e3
  have i2 : m_Pile_leaf [.loc 0, .int 7] m1 = .ok (.int 1) m2 := i2
  generalize ((List.range (mn + 1)).map fun k : Nat => (k : Int) + 1).map Dv.int = kl at *
  unfold m_l_chain mkFn bd_l_chain
  simp [i1, ↓P0.hp, i2, b2, b3, e3, ↓P3.hp, hk, ↓hE, hne, hho, ↓hmul, count_i, e4, ↓P4.hp, hk4, heq, hF]
theorem neD_scr_nil (ns : List Int) (m : Mem) : neD (.scr ns) (.lst []) m = .ok (.bl (!decide (ns = []))) m := by
  have sh : ∀ xs : List Int, SeqAt.shaped (PyData.list (xs.map PyData.int)) = true := fun xs => by
    have hp := pln_ints 0 xs
    obtain ⟨a, b, c⟩ := pln_ok [] 1 _ hp
    have e : pyOf (.lst (xs.map Dv.int)) = PyData.list (xs.map PyData.int) := by
      have : ∀ xs : List Int, pyOfs (xs.map Dv.int) = xs.map PyData.int := fun xs => by
        induction xs with
        | nil => rfl
        | cons x r ih => rw [List.map_cons, List.map_cons]; simp [pyOfs, pyOf, ih]
      simp [pyOf, this]
    rw [e] at b c
    unfold SeqAt.shaped
    rw [b, decide_eq_true (Nat.le_trans c (by decide))]
    rfl
  have s1 := sh ns
  have s2 : SeqAt.shaped (PyData.list []) = true := sh []
  have e : eqB m (.scr ns) (.lst []) = some (decide (ns = [])) := by
    unfold eqB
    split
    · rename_i h1 _; cases h1
    · have e1 : toPy m (vw m (.scr ns)) = some (PyData.list (ns.map PyData.int)) := by simp [vw, toPy]
      have e2 : toPy m (vw m (.lst [])) = some (PyData.list []) := by simp [vw, toPy, toPys]
      rw [e1, e2]
      simp only [s1, s2, Bool.and_self, if_true]
      congr 1
      cases ns with
      | nil => simp [PyData.eqv, PyData.eqvAll]
      | cons a r => simp [PyData.eqv, PyData.eqvAll]
  unfold neD
  rw [e]
theorem main (ns : List Int) (hl : ns.length ≤ 63) : ∃ m, m_law [.scr ns] [] = .ok (.bl true) m := by
  obtain ⟨m1, i1, P0, _⟩ := init_ok (m := [])
  simp only [List.length_nil, List.nil_append, Nat.zero_add] at i1 P0
  have hlen : 3 ≤ m1.length := by have := P0.lc; omega
  have P1 := (P0.app [.dic []]).app [.dic []]
  have hi1 : (m1 ++ [MO.dic []] ++ [MO.dic []])[m1.length]? = some (.dic []) := by simp
  have hj1 : (m1 ++ [MO.dic []] ++ [MO.dic []])[m1.length + 1]? = some (.dic []) := by simp
  have S0 : ST (m1 ++ [MO.dic []] ++ [MO.dic []]) 0 1 2 m1.length (m1.length + 1) [] [] 0 := ⟨P1, ⟨hi1, hj1, by omega⟩, ⟨fun x => Iff.rfl, List.nodup_nil, List.nodup_nil, fun x hx => (by cases hx), fun k x h => (by cases h), fun k x h => (by cases h)⟩, by omega, by omega, by omega, by omega, by omega, by omega⟩
  have hcut := cutL_ints ns none (some 40)
  have hcl : (cutL ns none (some 40)).length ≤ 40 := by
    have e : cutL ns none (some 40) = ns.take 40 := cutL_take ns 40
    rw [e, List.length_take]
    omega
  generalize cutL ns none (some 40) = zs at hcut hcl
  obtain ⟨l2, m2, e2, x5, x6, x7, bs, cs, K, rfl, S2, hK⟩ := forM_inv (tg := tgN 5) (body := lf_law_2) (ds := zs.map Dv.int)
    (fun k l m' => ∃ x5 x6 x7 bs cs, ∃ K : Nat, l = [some (.scr ns), some (.loc 0), some (.loc m1.length), some (.loc (m1.length + 1)), some (.int (K : Int)), x5, x6, x7] ∧ ST m' 0 1 2 m1.length (m1.length + 1) bs cs K ∧ K ≤ k)
    (by
      rintro k hk l m' ⟨x5, x6, x7, bs, cs, K, rfl, S, hK⟩
      rw [List.length_map] at hk
      have e : (zs.map Dv.int)[k]'(by rw [List.length_map]; exact hk) = .int zs[k] := by simp
      rw [e]
      obtain ⟨bs', cs', K', m'', x6', x7', e1, S', hK'⟩ := deed S (by omega) (some (.scr ns)) x6 x7 zs[k]
      exact ⟨_, _, m'', rfl, .inl e1, _, x6', x7', bs', cs', K', rfl, S', by omega⟩)
    [some (.scr ns), some (.loc 0), some (.loc m1.length), some (.loc (m1.length + 1)), some (.int ((0 : Nat) : Int)), none, none, none] (m1 ++ [MO.dic []] ++ [MO.dic []]) ⟨none, none, none, [], [], 0, rfl, S0, Nat.le_refl _⟩
  rw [List.length_map] at hK
  obtain ⟨l1, l2', l3⟩ := S2.T.lens (N := 200) (by omega)
  have hs := sortKiD_ok (f := bxD) S2.G.hi
  have hE := eLc_map (it := iSeq (eMk sortKiD (aCons (eVar 2) aNil))) (j := 6) (e := le_law_3) (l := [some (.scr ns), some (.loc 0), some (.loc m1.length), some (.loc (m1.length + 1)), some (.int (K : Int)), x5, x6, x7]) (m := m2) (m1 := m2) (ds := ((keys bs).mergeSort ile).map Dv.int) (by simp [hs])
    (fun _ => .bl true) (fun x hx acc => by
      obtain ⟨q, hq, rfl⟩ := List.mem_map.mp hx
      obtain ⟨y, hy⟩ := of_mem_keys (List.mem_mergeSort.mp hq)
      have S3 := S2.app [.lst acc]
      have hfew := S2.T.few q y hy
      have hc := content_ok S3.P hy (fun rows e => by rw [e] at hfew; simp only [Bx.rows] at hfew; omega)
      have hal := alike_ok (S2.T.gn q y hy) (by omega) (m2 ++ [.lst acc])
      have hi3 := S3.G.hi
      have hp3 := S3.P.hp
      have hv : valG (kB bs) (.inl q) = some (bxD y) := by rw [valG_kB, hy] <;> rfl
      generalize bxD y = by' at *
      unfold le_law_3
      simp [↓hp3, hc, ↓hi3, hv, hal]) (by rw [List.length_map, List.length_mergeSort, keys_len]; simp; omega) (clos_map _ _ (fun _ => rfl) _)
  have hall := allD_true (((keys bs).mergeSort ile).map Dv.int) m2
  obtain ⟨mE, hF⟩ := fin_true [] m2
  refine ⟨mE, ?_⟩
  have e2 : Sn.forM (tgN 5) lf_law_2 (zs.map Dv.int) [some (.scr ns), some (.loc 0), some (.loc m1.length), some (.loc (m1.length + 1)), some (.int 0), none, none, none] (m1 ++ [MO.dic []] ++ [MO.dic []]) = _ := e2
  rw [List.append_assoc] at e2
  have e2 : Sn.forM (tgN 5) lf_law_2 (zs.map Dv.int) [some (.scr ns), some (.loc 0), some (.loc m1.length), some (.loc (m1.length + 1)), some (.int 0), none, none, none] (m1 ++ [MO.dic [], MO.dic []]) = _ := e2
  have hsl : slD (.scr ns) none (some 40) = fun m => .ok (.lst (cutL (ns.map Dv.int) none (some 40))) m := rfl
  generalize hyl : ((keys bs).mergeSort ile).map Dv.int = yl at *
  generalize hzl : zs.map Dv.int = zl at *
  have hne := neD_scr_nil ns []
  have hsl2 : cutL (ns.map Dv.int) none (some 40) = zl := hcut
  by_cases hns : ns = []
  · have hne : neD (.scr ns) (.lst []) [] = .ok (.bl false) [] := by rw [hne]; simp [hns]
    unfold m_law mkFn bd_law
    simp [hne, i1, hsl, hsl2, e2, ↓hE, hall, hF]
  · have hne : neD (.scr ns) (.lst []) [] = .ok (.bl true) [] := by rw [hne]; simp [hns]
    obtain ⟨n0, h0⟩ : ∃ n0 : Int, atI (ns.map Dv.int) 0 = some (.int n0) := by
      obtain ⟨t, ht, hm⟩ := at_some (xs := ns.map Dv.int) (i := 0) (by omega) (by rw [List.length_map]; have := List.length_pos_iff.mpr hns; omega)
      obtain ⟨q, _, rfl⟩ := List.mem_map.mp hm
      exact ⟨q, ht⟩
    have hch := chain_ok (mn := (n0 / 7 % 61).toNat) (nm := (1 + n0 / 427 % 3).toNat) (by omega) (by omega)
    have w1 : (((n0 / 7 % 61).toNat : Nat) : Int) = n0 / 7 % 61 := Int.toNat_of_nonneg (by omega)
    have w2 : (((1 + n0 / 427 % 3).toNat : Nat) : Int) = 1 + n0 / 427 % 3 := Int.toNat_of_nonneg (by omega)
    rw [w1, w2] at hch
    unfold m_law mkFn bd_law
    simp [hne, h0, hch, i1, hsl, hsl2, e2, ↓hE, hall, hF]
end Law
/-! Z_k08 -/
set_option Elab.async false
set_option linter.all false
set_option maxRecDepth 100000
set_option autoImplicit false
set_option maxHeartbeats 4000000
namespace Law
open PySem PySem.Spec PyProof.Rows L2 Sn
theorem all_mk {l : PySem.W.OpenLaw} {w : World} {K : PySem.W.Frag} {h : Heap} {mg : Str → Option Value} {fa : Addr} (X : K.In h) (G : h.Ns mainGlobals mg) (hfa : mg "law" = some (.ref fa))
    {c_Pile : Addr} {f_Pile_init : Addr} {od_Pile_init an_Pile_init : Option Addr} {sl_Pile_init : Array (Option Value)} {oc_Pile_init kV_Pile_init dc_Pile_init pm_Pile_init cd_Pile_init ct_Pile_init : Value} {f_Pile_fresh : Addr} {od_Pile_fresh an_Pile_fresh : Option Addr} {sl_Pile_fresh : Array (Option Value)} {oc_Pile_fresh kV_Pile_fresh dc_Pile_fresh pm_Pile_fresh cd_Pile_fresh ct_Pile_fresh : Value} {f_Pile_leaf : Addr} {od_Pile_leaf an_Pile_leaf : Option Addr} {sl_Pile_leaf : Array (Option Value)} {oc_Pile_leaf kV_Pile_leaf dc_Pile_leaf pm_Pile_leaf cd_Pile_leaf ct_Pile_leaf : Value} {f_Pile_need : Addr} {od_Pile_need an_Pile_need : Option Addr} {sl_Pile_need : Array (Option Value)} {oc_Pile_need kV_Pile_need dc_Pile_need pm_Pile_need cd_Pile_need ct_Pile_need : Value} {f_Pile_hold : Addr} {od_Pile_hold an_Pile_hold : Option Addr} {sl_Pile_hold : Array (Option Value)} {oc_Pile_hold kV_Pile_hold dc_Pile_hold pm_Pile_hold cd_Pile_hold ct_Pile_hold : Value} {f_Pile_branch : Addr} {od_Pile_branch an_Pile_branch : Option Addr} {sl_Pile_branch : Array (Option Value)} {oc_Pile_branch kV_Pile_branch dc_Pile_branch pm_Pile_branch cd_Pile_branch ct_Pile_branch : Value} {f_l_whole : Addr} {od_l_whole an_l_whole : Option Addr} {sl_l_whole : Array (Option Value)} {oc_l_whole kV_l_whole dc_l_whole pm_l_whole cd_l_whole ct_l_whole : Value} {f_l_count : Addr} {od_l_count an_l_count : Option Addr} {sl_l_count : Array (Option Value)} {oc_l_count kV_l_count dc_l_count pm_l_count cd_l_count ct_l_count : Value} {f_Pile_kept : Addr} {od_Pile_kept an_Pile_kept : Option Addr} {sl_Pile_kept : Array (Option Value)} {oc_Pile_kept kV_Pile_kept dc_Pile_kept pm_Pile_kept cd_Pile_kept ct_Pile_kept : Value} {f_Pile_let_go : Addr} {od_Pile_let_go an_Pile_let_go : Option Addr} {sl_Pile_let_go : Array (Option Value)} {oc_Pile_let_go kV_Pile_let_go dc_Pile_let_go pm_Pile_let_go cd_Pile_let_go ct_Pile_let_go : Value} {f_Pile_holders : Addr} {od_Pile_holders an_Pile_holders : Option Addr} {sl_Pile_holders : Array (Option Value)} {oc_Pile_holders kV_Pile_holders dc_Pile_holders pm_Pile_holders cd_Pile_holders ct_Pile_holders : Value} {f_l_chain : Addr} {od_l_chain an_l_chain : Option Addr} {sl_l_chain : Array (Option Value)} {oc_l_chain kV_l_chain dc_l_chain pm_l_chain cd_l_chain ct_l_chain : Value} {f_Pile_content : Addr} {od_Pile_content an_Pile_content : Option Addr} {sl_Pile_content : Array (Option Value)} {oc_Pile_content kV_Pile_content dc_Pile_content pm_Pile_content cd_Pile_content ct_Pile_content : Value} {f_l_refused : Addr} {od_l_refused an_l_refused : Option Addr} {sl_l_refused : Array (Option Value)} {oc_l_refused kV_l_refused dc_l_refused pm_l_refused cd_l_refused ct_l_refused : Value} {f_l_rows_by : Addr} {od_l_rows_by an_l_rows_by : Option Addr} {sl_l_rows_by : Array (Option Value)} {oc_l_rows_by kV_l_rows_by dc_l_rows_by pm_l_rows_by cd_l_rows_by ct_l_rows_by : Value} {f_l_alike : Addr} {od_l_alike an_l_alike : Option Addr} {sl_l_alike : Array (Option Value)} {oc_l_alike kV_l_alike dc_l_alike pm_l_alike cd_l_alike ct_l_alike : Value} {f_l_gone : Addr} {od_l_gone an_l_gone : Option Addr} {sl_l_gone : Array (Option Value)} {oc_l_gone kV_l_gone dc_l_gone pm_l_gone cd_l_gone ct_l_gone : Value} {f_l_step : Addr} {od_l_step an_l_step : Option Addr} {sl_l_step : Array (Option Value)} {oc_l_step kV_l_step dc_l_step pm_l_step cd_l_step ct_l_step : Value} {f_l_as_due : Addr} {od_l_as_due an_l_as_due : Option Addr} {sl_l_as_due : Array (Option Value)} {oc_l_as_due kV_l_as_due dc_l_as_due pm_l_as_due cd_l_as_due ct_l_as_due : Value} {f_law : Addr} {od_law an_law : Option Addr} {sl_law : Array (Option Value)} {oc_law kV_law dc_law pm_law cd_law ct_law : Value} {x_NoBox : Addr}
    (n_Pile : PySem.W.nsIn K mainGlobals "Pile" = some (some (.ref c_Pile)))
    (a_Pile_init : PySem.W.findIn K (.ref c_Pile) "__init__" = some (some (.ref f_Pile_init)))
    (i_Pile_init : PySem.W.isFn K (.ref f_Pile_init) = true)
    (l_Pile_init : K.lookup f_Pile_init = some ⟨oc_Pile_init, od_Pile_init, .func (PySem.W.fnOf "__init__" "Pile.__init__" (defArgs s_Pile_init) (defBody s_Pile_init) (defScope s_Pile_init) .none kV_Pile_init dc_Pile_init pm_Pile_init an_Pile_init cd_Pile_init ct_Pile_init), sl_Pile_init⟩)
    (c_Pile_init : PySem.W.codeIn K cd_Pile_init "Pile.__init__" = true)
    (k_Pile_init : PySem.W.keepIn K (.ref f_Pile_init) = true)
    (a_Pile_fresh : PySem.W.findIn K (.ref c_Pile) "fresh" = some (some (.ref f_Pile_fresh)))
    (i_Pile_fresh : PySem.W.isFn K (.ref f_Pile_fresh) = true)
    (l_Pile_fresh : K.lookup f_Pile_fresh = some ⟨oc_Pile_fresh, od_Pile_fresh, .func (PySem.W.fnOf "fresh" "Pile.fresh" (defArgs s_Pile_fresh) (defBody s_Pile_fresh) (defScope s_Pile_fresh) .none kV_Pile_fresh dc_Pile_fresh pm_Pile_fresh an_Pile_fresh cd_Pile_fresh ct_Pile_fresh), sl_Pile_fresh⟩)
    (c_Pile_fresh : PySem.W.codeIn K cd_Pile_fresh "Pile.fresh" = true)
    (k_Pile_fresh : PySem.W.keepIn K (.ref f_Pile_fresh) = true)
    (a_Pile_leaf : PySem.W.findIn K (.ref c_Pile) "leaf" = some (some (.ref f_Pile_leaf)))
    (i_Pile_leaf : PySem.W.isFn K (.ref f_Pile_leaf) = true)
    (l_Pile_leaf : K.lookup f_Pile_leaf = some ⟨oc_Pile_leaf, od_Pile_leaf, .func (PySem.W.fnOf "leaf" "Pile.leaf" (defArgs s_Pile_leaf) (defBody s_Pile_leaf) (defScope s_Pile_leaf) .none kV_Pile_leaf dc_Pile_leaf pm_Pile_leaf an_Pile_leaf cd_Pile_leaf ct_Pile_leaf), sl_Pile_leaf⟩)
    (c_Pile_leaf : PySem.W.codeIn K cd_Pile_leaf "Pile.leaf" = true)
    (k_Pile_leaf : PySem.W.keepIn K (.ref f_Pile_leaf) = true)
    (a_Pile_need : PySem.W.findIn K (.ref c_Pile) "need" = some (some (.ref f_Pile_need)))
    (i_Pile_need : PySem.W.isFn K (.ref f_Pile_need) = true)
    (l_Pile_need : K.lookup f_Pile_need = some ⟨oc_Pile_need, od_Pile_need, .func (PySem.W.fnOf "need" "Pile.need" (defArgs s_Pile_need) (defBody s_Pile_need) (defScope s_Pile_need) .none kV_Pile_need dc_Pile_need pm_Pile_need an_Pile_need cd_Pile_need ct_Pile_need), sl_Pile_need⟩)
    (c_Pile_need : PySem.W.codeIn K cd_Pile_need "Pile.need" = true)
    (k_Pile_need : PySem.W.keepIn K (.ref f_Pile_need) = true)
    (a_Pile_hold : PySem.W.findIn K (.ref c_Pile) "hold" = some (some (.ref f_Pile_hold)))
    (i_Pile_hold : PySem.W.isFn K (.ref f_Pile_hold) = true)
    (l_Pile_hold : K.lookup f_Pile_hold = some ⟨oc_Pile_hold, od_Pile_hold, .func (PySem.W.fnOf "hold" "Pile.hold" (defArgs s_Pile_hold) (defBody s_Pile_hold) (defScope s_Pile_hold) .none kV_Pile_hold dc_Pile_hold pm_Pile_hold an_Pile_hold cd_Pile_hold ct_Pile_hold), sl_Pile_hold⟩)
    (c_Pile_hold : PySem.W.codeIn K cd_Pile_hold "Pile.hold" = true)
    (k_Pile_hold : PySem.W.keepIn K (.ref f_Pile_hold) = true)
    (a_Pile_branch : PySem.W.findIn K (.ref c_Pile) "branch" = some (some (.ref f_Pile_branch)))
    (i_Pile_branch : PySem.W.isFn K (.ref f_Pile_branch) = true)
    (l_Pile_branch : K.lookup f_Pile_branch = some ⟨oc_Pile_branch, od_Pile_branch, .func (PySem.W.fnOf "branch" "Pile.branch" (defArgs s_Pile_branch) (defBody s_Pile_branch) (defScope s_Pile_branch) .none kV_Pile_branch dc_Pile_branch pm_Pile_branch an_Pile_branch cd_Pile_branch ct_Pile_branch), sl_Pile_branch⟩)
    (c_Pile_branch : PySem.W.codeIn K cd_Pile_branch "Pile.branch" = true)
    (k_Pile_branch : PySem.W.keepIn K (.ref f_Pile_branch) = true)
    (a_l_whole : PySem.W.nsIn K mainGlobals "_law_whole" = some (some (.ref f_l_whole)))
    (l_l_whole : K.lookup f_l_whole = some ⟨oc_l_whole, od_l_whole, .func (PySem.W.fnOf "_law_whole" "_law_whole" (defArgs s_l_whole) (defBody s_l_whole) (defScope s_l_whole) .none kV_l_whole dc_l_whole pm_l_whole an_l_whole cd_l_whole ct_l_whole), sl_l_whole⟩)
    (c_l_whole : PySem.W.codeIn K cd_l_whole "_law_whole" = true)
    (k_l_whole : PySem.W.keepIn K (.ref f_l_whole) = true)
    (a_l_count : PySem.W.nsIn K mainGlobals "_law_count" = some (some (.ref f_l_count)))
    (l_l_count : K.lookup f_l_count = some ⟨oc_l_count, od_l_count, .func (PySem.W.fnOf "_law_count" "_law_count" (defArgs s_l_count) (defBody s_l_count) (defScope s_l_count) .none kV_l_count dc_l_count pm_l_count an_l_count cd_l_count ct_l_count), sl_l_count⟩)
    (c_l_count : PySem.W.codeIn K cd_l_count "_law_count" = true)
    (k_l_count : PySem.W.keepIn K (.ref f_l_count) = true)
    (a_Pile_kept : PySem.W.findIn K (.ref c_Pile) "kept" = some (some (.ref f_Pile_kept)))
    (i_Pile_kept : PySem.W.isFn K (.ref f_Pile_kept) = true)
    (l_Pile_kept : K.lookup f_Pile_kept = some ⟨oc_Pile_kept, od_Pile_kept, .func (PySem.W.fnOf "kept" "Pile.kept" (defArgs s_Pile_kept) (defBody s_Pile_kept) (defScope s_Pile_kept) .none kV_Pile_kept dc_Pile_kept pm_Pile_kept an_Pile_kept cd_Pile_kept ct_Pile_kept), sl_Pile_kept⟩)
    (c_Pile_kept : PySem.W.codeIn K cd_Pile_kept "Pile.kept" = true)
    (k_Pile_kept : PySem.W.keepIn K (.ref f_Pile_kept) = true)
    (a_Pile_let_go : PySem.W.findIn K (.ref c_Pile) "let_go" = some (some (.ref f_Pile_let_go)))
    (i_Pile_let_go : PySem.W.isFn K (.ref f_Pile_let_go) = true)
    (l_Pile_let_go : K.lookup f_Pile_let_go = some ⟨oc_Pile_let_go, od_Pile_let_go, .func (PySem.W.fnOf "let_go" "Pile.let_go" (defArgs s_Pile_let_go) (defBody s_Pile_let_go) (defScope s_Pile_let_go) .none kV_Pile_let_go dc_Pile_let_go pm_Pile_let_go an_Pile_let_go cd_Pile_let_go ct_Pile_let_go), sl_Pile_let_go⟩)
    (c_Pile_let_go : PySem.W.codeIn K cd_Pile_let_go "Pile.let_go" = true)
    (k_Pile_let_go : PySem.W.keepIn K (.ref f_Pile_let_go) = true)
    (a_Pile_holders : PySem.W.findIn K (.ref c_Pile) "holders" = some (some (.ref f_Pile_holders)))
    (i_Pile_holders : PySem.W.isFn K (.ref f_Pile_holders) = true)
    (l_Pile_holders : K.lookup f_Pile_holders = some ⟨oc_Pile_holders, od_Pile_holders, .func (PySem.W.fnOf "holders" "Pile.holders" (defArgs s_Pile_holders) (defBody s_Pile_holders) (defScope s_Pile_holders) .none kV_Pile_holders dc_Pile_holders pm_Pile_holders an_Pile_holders cd_Pile_holders ct_Pile_holders), sl_Pile_holders⟩)
    (c_Pile_holders : PySem.W.codeIn K cd_Pile_holders "Pile.holders" = true)
    (k_Pile_holders : PySem.W.keepIn K (.ref f_Pile_holders) = true)
    (a_l_chain : PySem.W.nsIn K mainGlobals "_law_chain" = some (some (.ref f_l_chain)))
    (l_l_chain : K.lookup f_l_chain = some ⟨oc_l_chain, od_l_chain, .func (PySem.W.fnOf "_law_chain" "_law_chain" (defArgs s_l_chain) (defBody s_l_chain) (defScope s_l_chain) .none kV_l_chain dc_l_chain pm_l_chain an_l_chain cd_l_chain ct_l_chain), sl_l_chain⟩)
    (c_l_chain : PySem.W.codeIn K cd_l_chain "_law_chain" = true)
    (k_l_chain : PySem.W.keepIn K (.ref f_l_chain) = true)
    (a_Pile_content : PySem.W.findIn K (.ref c_Pile) "content" = some (some (.ref f_Pile_content)))
    (i_Pile_content : PySem.W.isFn K (.ref f_Pile_content) = true)
    (l_Pile_content : K.lookup f_Pile_content = some ⟨oc_Pile_content, od_Pile_content, .func (PySem.W.fnOf "content" "Pile.content" (defArgs s_Pile_content) (defBody s_Pile_content) (defScope s_Pile_content) .none kV_Pile_content dc_Pile_content pm_Pile_content an_Pile_content cd_Pile_content ct_Pile_content), sl_Pile_content⟩)
    (c_Pile_content : PySem.W.codeIn K cd_Pile_content "Pile.content" = true)
    (k_Pile_content : PySem.W.keepIn K (.ref f_Pile_content) = true)
    (a_l_refused : PySem.W.nsIn K mainGlobals "_law_refused" = some (some (.ref f_l_refused)))
    (l_l_refused : K.lookup f_l_refused = some ⟨oc_l_refused, od_l_refused, .func (PySem.W.fnOf "_law_refused" "_law_refused" (defArgs s_l_refused) (defBody s_l_refused) (defScope s_l_refused) .none kV_l_refused dc_l_refused pm_l_refused an_l_refused cd_l_refused ct_l_refused), sl_l_refused⟩)
    (c_l_refused : PySem.W.codeIn K cd_l_refused "_law_refused" = true)
    (k_l_refused : PySem.W.keepIn K (.ref f_l_refused) = true)
    (a_l_rows_by : PySem.W.nsIn K mainGlobals "_law_rows_by" = some (some (.ref f_l_rows_by)))
    (l_l_rows_by : K.lookup f_l_rows_by = some ⟨oc_l_rows_by, od_l_rows_by, .func (PySem.W.fnOf "_law_rows_by" "_law_rows_by" (defArgs s_l_rows_by) (defBody s_l_rows_by) (defScope s_l_rows_by) .none kV_l_rows_by dc_l_rows_by pm_l_rows_by an_l_rows_by cd_l_rows_by ct_l_rows_by), sl_l_rows_by⟩)
    (c_l_rows_by : PySem.W.codeIn K cd_l_rows_by "_law_rows_by" = true)
    (k_l_rows_by : PySem.W.keepIn K (.ref f_l_rows_by) = true)
    (a_l_alike : PySem.W.nsIn K mainGlobals "_law_alike" = some (some (.ref f_l_alike)))
    (l_l_alike : K.lookup f_l_alike = some ⟨oc_l_alike, od_l_alike, .func (PySem.W.fnOf "_law_alike" "_law_alike" (defArgs s_l_alike) (defBody s_l_alike) (defScope s_l_alike) .none kV_l_alike dc_l_alike pm_l_alike an_l_alike cd_l_alike ct_l_alike), sl_l_alike⟩)
    (c_l_alike : PySem.W.codeIn K cd_l_alike "_law_alike" = true)
    (k_l_alike : PySem.W.keepIn K (.ref f_l_alike) = true)
    (a_l_gone : PySem.W.nsIn K mainGlobals "_law_gone" = some (some (.ref f_l_gone)))
    (l_l_gone : K.lookup f_l_gone = some ⟨oc_l_gone, od_l_gone, .func (PySem.W.fnOf "_law_gone" "_law_gone" (defArgs s_l_gone) (defBody s_l_gone) (defScope s_l_gone) .none kV_l_gone dc_l_gone pm_l_gone an_l_gone cd_l_gone ct_l_gone), sl_l_gone⟩)
    (c_l_gone : PySem.W.codeIn K cd_l_gone "_law_gone" = true)
    (k_l_gone : PySem.W.keepIn K (.ref f_l_gone) = true)
    (a_l_step : PySem.W.nsIn K mainGlobals "_law_step" = some (some (.ref f_l_step)))
    (l_l_step : K.lookup f_l_step = some ⟨oc_l_step, od_l_step, .func (PySem.W.fnOf "_law_step" "_law_step" (defArgs s_l_step) (defBody s_l_step) (defScope s_l_step) .none kV_l_step dc_l_step pm_l_step an_l_step cd_l_step ct_l_step), sl_l_step⟩)
    (c_l_step : PySem.W.codeIn K cd_l_step "_law_step" = true)
    (k_l_step : PySem.W.keepIn K (.ref f_l_step) = true)
    (a_l_as_due : PySem.W.nsIn K mainGlobals "_law_as_due" = some (some (.ref f_l_as_due)))
    (l_l_as_due : K.lookup f_l_as_due = some ⟨oc_l_as_due, od_l_as_due, .func (PySem.W.fnOf "_law_as_due" "_law_as_due" (defArgs s_l_as_due) (defBody s_l_as_due) (defScope s_l_as_due) .none kV_l_as_due dc_l_as_due pm_l_as_due an_l_as_due cd_l_as_due ct_l_as_due), sl_l_as_due⟩)
    (c_l_as_due : PySem.W.codeIn K cd_l_as_due "_law_as_due" = true)
    (k_l_as_due : PySem.W.keepIn K (.ref f_l_as_due) = true)
    (a_law : PySem.W.nsIn K mainGlobals "law" = some (some (.ref f_law)))
    (l_law : K.lookup f_law = some ⟨oc_law, od_law, .func (PySem.W.fnOf "law" "law" (defArgs s_law) (defBody s_law) (defScope s_law) .none kV_law dc_law pm_law an_law cd_law ct_law), sl_law⟩)
    (c_law : PySem.W.codeIn K cd_law "law" = true)
    (k_law : PySem.W.keepIn K (.ref f_law) = true)
    (pg_Pile : PySem.W.plainGet K c_Pile Str.empty = true)
    (hd_Pile : PySem.W.hasDictIn K c_Pile = true)
    (po_Pile : PySem.W.plainOver K c_Pile = true)
    (sa_Pile : PySem.W.findIn K (.ref c_Pile) "__setattr__" = some (some (.builtin "object.__setattr__")))
    (mk_Pile : PySem.W.makesIn K c_Pile = true)
    (kc_Pile : PySem.W.keepIn K (.ref c_Pile) = true)
    (na_boxes : PySem.W.findIn K (.ref c_Pile) "boxes" = some none)
    (na_counts : PySem.W.findIn K (.ref c_Pile) "counts" = some none)
    (na_made : PySem.W.findIn K (.ref c_Pile) "made" = some none)
    (z_all : PySem.W.nsIn K mainGlobals "all" = some none)
    (z_bool : PySem.W.nsIn K mainGlobals "bool" = some none)
    (z_int : PySem.W.nsIn K mainGlobals "int" = some none)
    (z_isinstance : PySem.W.nsIn K mainGlobals "isinstance" = some none)
    (z_len : PySem.W.nsIn K mainGlobals "len" = some none)
    (z_list : PySem.W.nsIn K mainGlobals "list" = some none)
    (z_max : PySem.W.nsIn K mainGlobals "max" = some none)
    (z_range : PySem.W.nsIn K mainGlobals "range" = some none)
    (z_set : PySem.W.nsIn K mainGlobals "set" = some none)
    (z_sorted : PySem.W.nsIn K mainGlobals "sorted" = some none)
    (z_str : PySem.W.nsIn K mainGlobals "str" = some none)
    (z_tuple : PySem.W.nsIn K mainGlobals "tuple" = some none)
    (n_NoBox : PySem.W.nsIn K mainGlobals "NoBox" = some (some (.ref x_NoBox)))
    (xx_NoBox : PySem.W.excIn K x_NoBox [.type "ValueError", .type "Exception", .type "BaseException", .type "object"] "ValueError.__new__" = true)
    (kk_NoBox : PySem.W.keepIn K (.ref x_NoBox) = true)
    (bs_NoBox : PySem.W.subIn K (.ref x_NoBox) (.type "BaseException") = some true)
    (ty_NoBox : PySem.W.typeIn K (.ref x_NoBox) = some (.type "type"))
    (ic_NoBox : PySem.W.isClsIn K x_NoBox = true)
    (hd_NoBox : PySem.W.hasDictIn K x_NoBox = true)
    (su_NoBox_NoBox : PySem.W.subIn K (.ref x_NoBox) (.ref x_NoBox) = some true) :
    ∃ fd : FuncData, (∀ (s : Shared) (v : Value), BindsTo s fd ⟨[v], []⟩ [("_law_script", v)]) ∧ ∀ base : Heap, K.In base → base.Ns mainGlobals mg → FnOk l.prog w K mg base (L2N.CX l.prog w) 6 fa fd ["_law_script"] (spLaw K) := by
  have e := hfa.symm.trans (PySem.W.mg_of X G a_law)
  cases e
  have T : Txt K mg (Ad.mk f_Pile_init (PySem.W.fnOf "__init__" "Pile.__init__" (defArgs s_Pile_init) (defBody s_Pile_init) (defScope s_Pile_init) .none kV_Pile_init dc_Pile_init pm_Pile_init an_Pile_init cd_Pile_init ct_Pile_init) f_Pile_fresh (PySem.W.fnOf "fresh" "Pile.fresh" (defArgs s_Pile_fresh) (defBody s_Pile_fresh) (defScope s_Pile_fresh) .none kV_Pile_fresh dc_Pile_fresh pm_Pile_fresh an_Pile_fresh cd_Pile_fresh ct_Pile_fresh) f_Pile_leaf (PySem.W.fnOf "leaf" "Pile.leaf" (defArgs s_Pile_leaf) (defBody s_Pile_leaf) (defScope s_Pile_leaf) .none kV_Pile_leaf dc_Pile_leaf pm_Pile_leaf an_Pile_leaf cd_Pile_leaf ct_Pile_leaf) f_Pile_need (PySem.W.fnOf "need" "Pile.need" (defArgs s_Pile_need) (defBody s_Pile_need) (defScope s_Pile_need) .none kV_Pile_need dc_Pile_need pm_Pile_need an_Pile_need cd_Pile_need ct_Pile_need) f_Pile_hold (PySem.W.fnOf "hold" "Pile.hold" (defArgs s_Pile_hold) (defBody s_Pile_hold) (defScope s_Pile_hold) .none kV_Pile_hold dc_Pile_hold pm_Pile_hold an_Pile_hold cd_Pile_hold ct_Pile_hold) f_Pile_branch (PySem.W.fnOf "branch" "Pile.branch" (defArgs s_Pile_branch) (defBody s_Pile_branch) (defScope s_Pile_branch) .none kV_Pile_branch dc_Pile_branch pm_Pile_branch an_Pile_branch cd_Pile_branch ct_Pile_branch) f_l_whole (PySem.W.fnOf "_law_whole" "_law_whole" (defArgs s_l_whole) (defBody s_l_whole) (defScope s_l_whole) .none kV_l_whole dc_l_whole pm_l_whole an_l_whole cd_l_whole ct_l_whole) f_l_count (PySem.W.fnOf "_law_count" "_law_count" (defArgs s_l_count) (defBody s_l_count) (defScope s_l_count) .none kV_l_count dc_l_count pm_l_count an_l_count cd_l_count ct_l_count) f_Pile_kept (PySem.W.fnOf "kept" "Pile.kept" (defArgs s_Pile_kept) (defBody s_Pile_kept) (defScope s_Pile_kept) .none kV_Pile_kept dc_Pile_kept pm_Pile_kept an_Pile_kept cd_Pile_kept ct_Pile_kept) f_Pile_let_go (PySem.W.fnOf "let_go" "Pile.let_go" (defArgs s_Pile_let_go) (defBody s_Pile_let_go) (defScope s_Pile_let_go) .none kV_Pile_let_go dc_Pile_let_go pm_Pile_let_go an_Pile_let_go cd_Pile_let_go ct_Pile_let_go) f_Pile_holders (PySem.W.fnOf "holders" "Pile.holders" (defArgs s_Pile_holders) (defBody s_Pile_holders) (defScope s_Pile_holders) .none kV_Pile_holders dc_Pile_holders pm_Pile_holders an_Pile_holders cd_Pile_holders ct_Pile_holders) f_l_chain (PySem.W.fnOf "_law_chain" "_law_chain" (defArgs s_l_chain) (defBody s_l_chain) (defScope s_l_chain) .none kV_l_chain dc_l_chain pm_l_chain an_l_chain cd_l_chain ct_l_chain) f_Pile_content (PySem.W.fnOf "content" "Pile.content" (defArgs s_Pile_content) (defBody s_Pile_content) (defScope s_Pile_content) .none kV_Pile_content dc_Pile_content pm_Pile_content an_Pile_content cd_Pile_content ct_Pile_content) f_l_refused (PySem.W.fnOf "_law_refused" "_law_refused" (defArgs s_l_refused) (defBody s_l_refused) (defScope s_l_refused) .none kV_l_refused dc_l_refused pm_l_refused an_l_refused cd_l_refused ct_l_refused) f_l_rows_by (PySem.W.fnOf "_law_rows_by" "_law_rows_by" (defArgs s_l_rows_by) (defBody s_l_rows_by) (defScope s_l_rows_by) .none kV_l_rows_by dc_l_rows_by pm_l_rows_by an_l_rows_by cd_l_rows_by ct_l_rows_by) f_l_alike (PySem.W.fnOf "_law_alike" "_law_alike" (defArgs s_l_alike) (defBody s_l_alike) (defScope s_l_alike) .none kV_l_alike dc_l_alike pm_l_alike an_l_alike cd_l_alike ct_l_alike) f_l_gone (PySem.W.fnOf "_law_gone" "_law_gone" (defArgs s_l_gone) (defBody s_l_gone) (defScope s_l_gone) .none kV_l_gone dc_l_gone pm_l_gone an_l_gone cd_l_gone ct_l_gone) f_l_step (PySem.W.fnOf "_law_step" "_law_step" (defArgs s_l_step) (defBody s_l_step) (defScope s_l_step) .none kV_l_step dc_l_step pm_l_step an_l_step cd_l_step ct_l_step) f_l_as_due (PySem.W.fnOf "_law_as_due" "_law_as_due" (defArgs s_l_as_due) (defBody s_l_as_due) (defScope s_l_as_due) .none kV_l_as_due dc_l_as_due pm_l_as_due an_l_as_due cd_l_as_due ct_l_as_due) fa (PySem.W.fnOf "law" "law" (defArgs s_law) (defBody s_law) (defScope s_law) .none kV_law dc_law pm_law an_law cd_law ct_law) c_Pile x_NoBox) :=
    { F_Pile_init := fun_mk (st := s_Pile_init) l_Pile_init c_Pile_init k_Pile_init,
      b_Pile_init := (fun_mk (st := s_Pile_init) l_Pile_init c_Pile_init k_Pile_init).binds (ps := ["self"]) fun _ _ _ _ _ _ us hl => match us, hl with | [_], _ => rfl,
      F_Pile_fresh := fun_mk (st := s_Pile_fresh) l_Pile_fresh c_Pile_fresh k_Pile_fresh,
      b_Pile_fresh := (fun_mk (st := s_Pile_fresh) l_Pile_fresh c_Pile_fresh k_Pile_fresh).binds (ps := ["self", "content"]) fun _ _ _ _ _ _ us hl => match us, hl with | [_, _], _ => rfl,
      me_Pile_fresh := ⟨a_Pile_fresh, i_Pile_fresh, k_Pile_fresh⟩,
      F_Pile_leaf := fun_mk (st := s_Pile_leaf) l_Pile_leaf c_Pile_leaf k_Pile_leaf,
      b_Pile_leaf := (fun_mk (st := s_Pile_leaf) l_Pile_leaf c_Pile_leaf k_Pile_leaf).binds (ps := ["self", "number"]) fun _ _ _ _ _ _ us hl => match us, hl with | [_, _], _ => rfl,
      me_Pile_leaf := ⟨a_Pile_leaf, i_Pile_leaf, k_Pile_leaf⟩,
      F_Pile_need := fun_mk (st := s_Pile_need) l_Pile_need c_Pile_need k_Pile_need,
      b_Pile_need := (fun_mk (st := s_Pile_need) l_Pile_need c_Pile_need k_Pile_need).binds (ps := ["self", "box"]) fun _ _ _ _ _ _ us hl => match us, hl with | [_, _], _ => rfl,
      me_Pile_need := ⟨a_Pile_need, i_Pile_need, k_Pile_need⟩,
      F_Pile_hold := fun_mk (st := s_Pile_hold) l_Pile_hold c_Pile_hold k_Pile_hold,
      b_Pile_hold := (fun_mk (st := s_Pile_hold) l_Pile_hold c_Pile_hold k_Pile_hold).binds (ps := ["self", "box"]) fun _ _ _ _ _ _ us hl => match us, hl with | [_, _], _ => rfl,
      me_Pile_hold := ⟨a_Pile_hold, i_Pile_hold, k_Pile_hold⟩,
      F_Pile_branch := fun_mk (st := s_Pile_branch) l_Pile_branch c_Pile_branch k_Pile_branch,
      b_Pile_branch := (fun_mk (st := s_Pile_branch) l_Pile_branch c_Pile_branch k_Pile_branch).binds (ps := ["self", "rows"]) fun _ _ _ _ _ _ us hl => match us, hl with | [_, _], _ => rfl,
      me_Pile_branch := ⟨a_Pile_branch, i_Pile_branch, k_Pile_branch⟩,
      F_l_whole := fun_mk (st := s_l_whole) l_l_whole c_l_whole k_l_whole,
      b_l_whole := (fun_mk (st := s_l_whole) l_l_whole c_l_whole k_l_whole).binds (ps := ["_law_seen"]) fun _ _ _ _ _ _ us hl => match us, hl with | [_], _ => rfl,
      m_l_whole := PySem.W.mg_of X G a_l_whole,
      F_l_count := fun_mk (st := s_l_count) l_l_count c_l_count k_l_count,
      b_l_count := (fun_mk (st := s_l_count) l_l_count c_l_count k_l_count).binds (ps := ["_law_seen", "_law_due"]) fun _ _ _ _ _ _ us hl => match us, hl with | [_, _], _ => rfl,
      m_l_count := PySem.W.mg_of X G a_l_count,
      F_Pile_kept := fun_mk (st := s_Pile_kept) l_Pile_kept c_Pile_kept k_Pile_kept,
      b_Pile_kept := (fun_mk (st := s_Pile_kept) l_Pile_kept c_Pile_kept k_Pile_kept).binds (ps := ["self"]) fun _ _ _ _ _ _ us hl => match us, hl with | [_], _ => rfl,
      me_Pile_kept := ⟨a_Pile_kept, i_Pile_kept, k_Pile_kept⟩,
      F_Pile_let_go := fun_mk (st := s_Pile_let_go) l_Pile_let_go c_Pile_let_go k_Pile_let_go,
      b_Pile_let_go := (fun_mk (st := s_Pile_let_go) l_Pile_let_go c_Pile_let_go k_Pile_let_go).binds (ps := ["self", "box"]) fun _ _ _ _ _ _ us hl => match us, hl with | [_, _], _ => rfl,
      me_Pile_let_go := ⟨a_Pile_let_go, i_Pile_let_go, k_Pile_let_go⟩,
      F_Pile_holders := fun_mk (st := s_Pile_holders) l_Pile_holders c_Pile_holders k_Pile_holders,
      b_Pile_holders := (fun_mk (st := s_Pile_holders) l_Pile_holders c_Pile_holders k_Pile_holders).binds (ps := ["self", "box"]) fun _ _ _ _ _ _ us hl => match us, hl with | [_, _], _ => rfl,
      me_Pile_holders := ⟨a_Pile_holders, i_Pile_holders, k_Pile_holders⟩,
      F_l_chain := fun_mk (st := s_l_chain) l_l_chain c_l_chain k_l_chain,
      b_l_chain := (fun_mk (st := s_l_chain) l_l_chain c_l_chain k_l_chain).binds (ps := ["_law_many", "_law_named"]) fun _ _ _ _ _ _ us hl => match us, hl with | [_, _], _ => rfl,
      m_l_chain := PySem.W.mg_of X G a_l_chain,
      F_Pile_content := fun_mk (st := s_Pile_content) l_Pile_content c_Pile_content k_Pile_content,
      b_Pile_content := (fun_mk (st := s_Pile_content) l_Pile_content c_Pile_content k_Pile_content).binds (ps := ["self", "box"]) fun _ _ _ _ _ _ us hl => match us, hl with | [_, _], _ => rfl,
      me_Pile_content := ⟨a_Pile_content, i_Pile_content, k_Pile_content⟩,
      F_l_refused := fun_mk (st := s_l_refused) l_l_refused c_l_refused k_l_refused,
      b_l_refused := (fun_mk (st := s_l_refused) l_l_refused c_l_refused k_l_refused).binds (ps := ["_law_pile", "_law_box", "_law_good", "_law_cell"]) fun _ _ _ _ _ _ us hl => match us, hl with | [_, _, _, _], _ => rfl,
      m_l_refused := PySem.W.mg_of X G a_l_refused,
      F_l_rows_by := fun_mk (st := s_l_rows_by) l_l_rows_by c_l_rows_by k_l_rows_by,
      b_l_rows_by := (fun_mk (st := s_l_rows_by) l_l_rows_by c_l_rows_by k_l_rows_by).binds (ps := ["_law_cell", "_law_there"]) fun _ _ _ _ _ _ us hl => match us, hl with | [_, _], _ => rfl,
      m_l_rows_by := PySem.W.mg_of X G a_l_rows_by,
      F_l_alike := fun_mk (st := s_l_alike) l_l_alike c_l_alike k_l_alike,
      b_l_alike := (fun_mk (st := s_l_alike) l_l_alike c_l_alike k_l_alike).binds (ps := ["_law_seen", "_law_due"]) fun _ _ _ _ _ _ us hl => match us, hl with | [_, _], _ => rfl,
      m_l_alike := PySem.W.mg_of X G a_l_alike,
      F_l_gone := fun_mk (st := s_l_gone) l_l_gone c_l_gone k_l_gone,
      b_l_gone := (fun_mk (st := s_l_gone) l_l_gone c_l_gone k_l_gone).binds (ps := ["_law_inside", "_law_counts", "_law_box"]) fun _ _ _ _ _ _ us hl => match us, hl with | [_, _, _], _ => rfl,
      m_l_gone := PySem.W.mg_of X G a_l_gone,
      F_l_step := fun_mk (st := s_l_step) l_l_step c_l_step k_l_step,
      b_l_step := (fun_mk (st := s_l_step) l_l_step c_l_step k_l_step).binds (ps := ["_law_pile", "_law_inside", "_law_counts", "_law_made", "_law_cell"]) fun _ _ _ _ _ _ us hl => match us, hl with | [_, _, _, _, _], _ => rfl,
      m_l_step := PySem.W.mg_of X G a_l_step,
      F_l_as_due := fun_mk (st := s_l_as_due) l_l_as_due c_l_as_due k_l_as_due,
      b_l_as_due := (fun_mk (st := s_l_as_due) l_l_as_due c_l_as_due k_l_as_due).binds (ps := ["_law_pile", "_law_inside", "_law_counts", "_law_made"]) fun _ _ _ _ _ _ us hl => match us, hl with | [_, _, _, _], _ => rfl,
      m_l_as_due := PySem.W.mg_of X G a_l_as_due,
      F_law := fun_mk (st := s_law) l_law c_law k_law,
      b_law := (fun_mk (st := s_law) l_law c_law k_law).binds (ps := ["_law_script"]) fun _ _ _ _ _ _ us hl => match us, hl with | [_], _ => rfl,
      m_law := PySem.W.mg_of X G a_law,
      m_Pile := PySem.W.mg_of X G n_Pile,
      cl_Pile := ⟨pg_Pile, hd_Pile, po_Pile, sa_Pile⟩,
      mk_Pile := ⟨mk_Pile, a_Pile_init, i_Pile_init, kc_Pile⟩,
      na_boxes := na_boxes,
      na_counts := na_counts,
      na_made := na_made,
      n_all := PySem.W.mg_none_of X G z_all,
      n_bool := PySem.W.mg_none_of X G z_bool,
      n_int := PySem.W.mg_none_of X G z_int,
      n_isinstance := PySem.W.mg_none_of X G z_isinstance,
      n_len := PySem.W.mg_none_of X G z_len,
      n_list := PySem.W.mg_none_of X G z_list,
      n_max := PySem.W.mg_none_of X G z_max,
      n_range := PySem.W.mg_none_of X G z_range,
      n_set := PySem.W.mg_none_of X G z_set,
      n_sorted := PySem.W.mg_none_of X G z_sorted,
      n_str := PySem.W.mg_none_of X G z_str,
      n_tuple := PySem.W.mg_none_of X G z_tuple,
      m_NoBox := PySem.W.mg_of X G n_NoBox,
      x_NoBox := xx_NoBox,
      k_NoBox := kk_NoBox,
      bs_NoBox := bs_NoBox,
      ty_NoBox := ty_NoBox,
      ic_NoBox := ic_NoBox,
      hd_NoBox := hd_NoBox,
      su_NoBox_NoBox := su_NoBox_NoBox }
  exact ⟨PySem.W.fnOf "law" "law" (defArgs s_law) (defBody s_law) (defScope s_law) .none kV_law dc_law pm_law an_law cd_law ct_law, fun s v => .of_eq rfl, fun base _ _ => (ok_law T).imp (law_imp (G := gg K _) main)⟩
theorem walk {l : PySem.W.OpenLaw} {q : Program} {loose : List Str} {XP : (Str → Option Value) → Heap → Prop} {YP : World → Heap → Prop} {d : DefRec} {K : Params → PySem.W.Frag} (hn : l.most = some 63) (hdf : d.params.defaults = [])
    (hY : ∀ (w : World) (h : Heap), YP w h → (K w.params).In h)
    (F : ∀ (w : World) (mg : Str → Option Value) (fa : Addr) (h : Heap), (K w.params).In h → h.Ns mainGlobals mg → mg d.name = some (.ref fa) →
      ∃ fd : FuncData, (∀ (s : Shared) (u : Value), BindsTo s fd ⟨[u], []⟩ [("_law_script", u)]) ∧ ∀ base : Heap, (K w.params).In base → base.Ns mainGlobals mg → FnOk l.prog w (K w.params) mg base (L2N.CX l.prog w) 6 fa fd ["_law_script"] (spLaw (K w.params))) :
    PySem.W.WalkO q loose XP YP l.row.toRowW d [] (fun f vs => PySem.call f vs) :=
  walk_law hn hdf ⟨rfl, by decide, by decide⟩ hY F
end Law
open PySem PySem.W PyProof.Rows in
set_option maxRecDepth 100000 in
set_option maxHeartbeats 0 in
theorem PySem.Challenge.cw_snaptree_k08_whole_pile_holds : PySem.Challenge.rw_snaptree_k08_whole_pile.Holds := by
  w_on; o_law; k_head; (case hw => w_witness2)
  k_fill
  refine Law.walk (l := PySem.Challenge.rw_snaptree_k08_whole_pile) rfl rfl (fun w h Y => PySem.W.kIn_of Y) ?F
  case F =>
    intro w mg fa h KX G hmg
    refine' Law.all_mk KX G hmg ?n_Pile ?a_Pile_init ?i_Pile_init ?l_Pile_init ?c_Pile_init ?k_Pile_init ?a_Pile_fresh ?i_Pile_fresh ?l_Pile_fresh ?c_Pile_fresh ?k_Pile_fresh ?a_Pile_leaf ?i_Pile_leaf ?l_Pile_leaf ?c_Pile_leaf ?k_Pile_leaf ?a_Pile_need ?i_Pile_need ?l_Pile_need ?c_Pile_need ?k_Pile_need ?a_Pile_hold ?i_Pile_hold ?l_Pile_hold ?c_Pile_hold ?k_Pile_hold ?a_Pile_branch ?i_Pile_branch ?l_Pile_branch ?c_Pile_branch ?k_Pile_branch ?a_l_whole ?l_l_whole ?c_l_whole ?k_l_whole ?a_l_count ?l_l_count ?c_l_count ?k_l_count ?a_Pile_kept ?i_Pile_kept ?l_Pile_kept ?c_Pile_kept ?k_Pile_kept ?a_Pile_let_go ?i_Pile_let_go ?l_Pile_let_go ?c_Pile_let_go ?k_Pile_let_go ?a_Pile_holders ?i_Pile_holders ?l_Pile_holders ?c_Pile_holders ?k_Pile_holders ?a_l_chain ?l_l_chain ?c_l_chain ?k_l_chain ?a_Pile_content ?i_Pile_content ?l_Pile_content ?c_Pile_content ?k_Pile_content ?a_l_refused ?l_l_refused ?c_l_refused ?k_l_refused ?a_l_rows_by ?l_l_rows_by ?c_l_rows_by ?k_l_rows_by ?a_l_alike ?l_l_alike ?c_l_alike ?k_l_alike ?a_l_gone ?l_l_gone ?c_l_gone ?k_l_gone ?a_l_step ?l_l_step ?c_l_step ?k_l_step ?a_l_as_due ?l_l_as_due ?c_l_as_due ?k_l_as_due ?a_law ?l_law ?c_law ?k_law ?pg_Pile ?hd_Pile ?po_Pile ?sa_Pile ?mk_Pile ?kc_Pile ?na_boxes ?na_counts ?na_made ?z_all ?z_bool ?z_int ?z_isinstance ?z_len ?z_list ?z_max ?z_range ?z_set ?z_sorted ?z_str ?z_tuple ?n_NoBox ?xx_NoBox ?kk_NoBox ?bs_NoBox ?ty_NoBox ?ic_NoBox ?hd_NoBox ?su_NoBox_NoBox
    (case n_Pile => k_is)
    (case a_Pile_init => k_is)
    (case i_Pile_init => k_is)
    (case l_Pile_init => k_is)
    (case c_Pile_init => k_is)
    (case k_Pile_init => k_is)
    (case a_Pile_fresh => k_is)
    (case i_Pile_fresh => k_is)
    (case l_Pile_fresh => k_is)
    (case c_Pile_fresh => k_is)
    (case k_Pile_fresh => k_is)
    (case a_Pile_leaf => k_is)
    (case i_Pile_leaf => k_is)
    (case l_Pile_leaf => k_is)
    (case c_Pile_leaf => k_is)
    (case k_Pile_leaf => k_is)
    (case a_Pile_need => k_is)
    (case i_Pile_need => k_is)
    (case l_Pile_need => k_is)
    (case c_Pile_need => k_is)
    (case k_Pile_need => k_is)
    (case a_Pile_hold => k_is)
    (case i_Pile_hold => k_is)
    (case l_Pile_hold => k_is)
    (case c_Pile_hold => k_is)
    (case k_Pile_hold => k_is)
    (case a_Pile_branch => k_is)
    (case i_Pile_branch => k_is)
    (case l_Pile_branch => k_is)
    (case c_Pile_branch => k_is)
    (case k_Pile_branch => k_is)
    (case a_l_whole => k_is)
    (case l_l_whole => k_is)
    (case c_l_whole => k_is)
    (case k_l_whole => k_is)
    (case a_l_count => k_is)
    (case l_l_count => k_is)
    (case c_l_count => k_is)
    (case k_l_count => k_is)
    (case a_Pile_kept => k_is)
    (case i_Pile_kept => k_is)
    (case l_Pile_kept => k_is)
    (case c_Pile_kept => k_is)
    (case k_Pile_kept => k_is)
    (case a_Pile_let_go => k_is)
    (case i_Pile_let_go => k_is)
    (case l_Pile_let_go => k_is)
    (case c_Pile_let_go => k_is)
    (case k_Pile_let_go => k_is)
    (case a_Pile_holders => k_is)
    (case i_Pile_holders => k_is)
    (case l_Pile_holders => k_is)
    (case c_Pile_holders => k_is)
    (case k_Pile_holders => k_is)
    (case a_l_chain => k_is)
    (case l_l_chain => k_is)
    (case c_l_chain => k_is)
    (case k_l_chain => k_is)
    (case a_Pile_content => k_is)
    (case i_Pile_content => k_is)
    (case l_Pile_content => k_is)
    (case c_Pile_content => k_is)
    (case k_Pile_content => k_is)
    (case a_l_refused => k_is)
    (case l_l_refused => k_is)
    (case c_l_refused => k_is)
    (case k_l_refused => k_is)
    (case a_l_rows_by => k_is)
    (case l_l_rows_by => k_is)
    (case c_l_rows_by => k_is)
    (case k_l_rows_by => k_is)
    (case a_l_alike => k_is)
    (case l_l_alike => k_is)
    (case c_l_alike => k_is)
    (case k_l_alike => k_is)
    (case a_l_gone => k_is)
    (case l_l_gone => k_is)
    (case c_l_gone => k_is)
    (case k_l_gone => k_is)
    (case a_l_step => k_is)
    (case l_l_step => k_is)
    (case c_l_step => k_is)
    (case k_l_step => k_is)
    (case a_l_as_due => k_is)
    (case l_l_as_due => k_is)
    (case c_l_as_due => k_is)
    (case k_l_as_due => k_is)
    (case a_law => k_is)
    (case l_law => k_is)
    (case c_law => k_is)
    (case k_law => k_is)
    (case pg_Pile => k_is)
    (case hd_Pile => k_is)
    (case po_Pile => k_is)
    (case sa_Pile => k_is)
    (case mk_Pile => k_is)
    (case kc_Pile => k_is)
    (case na_boxes => k_is)
    (case na_counts => k_is)
    (case na_made => k_is)
    (case z_all => k_is)
    (case z_bool => k_is)
    (case z_int => k_is)
    (case z_isinstance => k_is)
    (case z_len => k_is)
    (case z_list => k_is)
    (case z_max => k_is)
    (case z_range => k_is)
    (case z_set => k_is)
    (case z_sorted => k_is)
    (case z_str => k_is)
    (case z_tuple => k_is)
    (case n_NoBox => k_is)
    (case xx_NoBox => k_exc)
    (case kk_NoBox => k_is)
    (case bs_NoBox => k_is)
    (case ty_NoBox => k_is)
    (case ic_NoBox => k_is)
    (case hd_NoBox => k_is)
    (case su_NoBox_NoBox => k_is)
