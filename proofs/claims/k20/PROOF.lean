import PyProof.Rows.All
import Wide.All
import OpenK.AllK
import Wide.FinOn
import HandS.ForMost
import HandS.Style
import HandS.IsInst
import HandS.Wide
import PySem.Challenge.RW_whatcomesfree_k20_ways_are_one
set_option Elab.async false
set_option linter.all false
set_option maxRecDepth 100000
set_option maxHeartbeats 4000000
set_option autoImplicit false
/-! The D layer, part 1: plain data over the hand layer's heap; expressions, tests, statements by what they do to plain data. -/
namespace DL
open PySem PySem.Spec PyProof.Rows L2

/-! ### plain data -/
inductive D where
  | non | bl (b : Bool) | int (i : Int) | str (x : Str) | ref (p : Addr) | ty (n : String)
  | tup (ds : List D) | lst (ds : List D)
  | dK (kvs : List (Key × D)) | dT (kvs : List (List Key × D))
  | st (ks : List Key)
  | ins (C : Addr) (fs : List (Str × D))

/-- a value over shared (never changing) objects stands for data -/
inductive Rep (G : Hp) : V → D → Prop where
  | non : Rep G .non .non
  | bl (b : Bool) : Rep G (.bl b) (.bl b)
  | int (i : Int) : Rep G (.int i) (.int i)
  | str (x : Str) : Rep G (.str x) (.str x)
  | ref (p : Addr) : Rep G (.ref p) (.ref p)
  | ty (n : String) : Rep G (.ty n) (.ty n)
  | tup {p : Addr} {vs : List V} {ds : List D} : G p = some (.tup vs) → vs.length = ds.length → (∀ (i : Nat) v d, vs[i]? = some v → ds[i]? = some d → Rep G v d) → Rep G (.ref p) (.tup ds)
  | lst {p : Addr} {vs : List V} {ds : List D} : G p = some (.lst vs) → vs.length = ds.length → (∀ (i : Nat) v d, vs[i]? = some v → ds[i]? = some d → Rep G v d) → Rep G (.ref p) (.lst ds)

def Reps (G : Hp) (vs : List V) (ds : List D) : Prop := vs.length = ds.length ∧ ∀ (i : Nat) v d, vs[i]? = some v → ds[i]? = some d → Rep G v d

theorem Rep.mono {G G' : Hp} (e : Same G G') {v : V} {d : D} (h : Rep G v d) : Rep G' v d := by
  induction h with
  | non => exact .non
  | bl b => exact .bl b
  | int i => exact .int i
  | str x => exact .str x
  | ref p => exact .ref p
  | ty n => exact .ty n
  | tup h l _ ih => exact .tup (e _ _ h) l ih
  | lst h l _ ih => exact .lst (e _ _ h) l ih
theorem Reps.mono {G G' : Hp} (e : Same G G') {vs : List V} {ds : List D} (h : Reps G vs ds) : Reps G' vs ds := ⟨h.1, fun i v d a b => (h.2 i v d a b).mono e⟩
theorem Reps.nil {G : Hp} : Reps G [] [] := ⟨rfl, fun i v d a => by simp at a⟩
theorem Reps.cons {G : Hp} {v : V} {d : D} {vs : List V} {ds : List D} (h : Rep G v d) (t : Reps G vs ds) : Reps G (v :: vs) (d :: ds) := by
  refine ⟨by rw [List.length_cons, List.length_cons, t.1], fun i x y a b => ?_⟩
  cases i with
  | zero => simp at a b; subst a; subst b; exact h
  | succ i => exact t.2 i x y (by simpa using a) (by simpa using b)
theorem Reps.head {G : Hp} {v : V} {d : D} {vs : List V} {ds : List D} (h : Reps G (v :: vs) (d :: ds)) : Rep G v d := h.2 0 v d rfl rfl
theorem Reps.tail {G : Hp} {v : V} {d : D} {vs : List V} {ds : List D} (h : Reps G (v :: vs) (d :: ds)) : Reps G vs ds := ⟨by have := h.1; simpa using this, fun i x y a b => h.2 (i + 1) x y (by simpa using a) (by simpa using b)⟩
theorem Reps.nil_inv {G : Hp} {vs : List V} (h : Reps G vs []) : vs = [] := List.eq_nil_of_length_eq_zero h.1
theorem Reps.cons_inv {G : Hp} {vs : List V} {d : D} {ds : List D} (h : Reps G vs (d :: ds)) : ∃ v vr, vs = v :: vr ∧ Rep G v d ∧ Reps G vr ds := by
  cases vs with
  | nil => have := h.1; simp at this
  | cons v vr => exact ⟨v, vr, rfl, h.head, h.tail⟩
theorem Reps.one {G : Hp} {vs : List V} {d : D} (h : Reps G vs [d]) : ∃ v, vs = [v] ∧ Rep G v d := by
  obtain ⟨v, vr, rfl, a, b⟩ := h.cons_inv
  rw [b.nil_inv]; exact ⟨v, rfl, a⟩
theorem Reps.two {G : Hp} {vs : List V} {d e : D} (h : Reps G vs [d, e]) : ∃ v u, vs = [v, u] ∧ Rep G v d ∧ Rep G u e := by
  obtain ⟨v, vr, rfl, a, b⟩ := h.cons_inv
  obtain ⟨u, rfl, c⟩ := b.one
  exact ⟨v, u, rfl, a, c⟩
theorem Reps.get {G : Hp} {vs : List V} {ds : List D} (h : Reps G vs ds) {i : Nat} {d : D} (e : ds[i]? = some d) : ∃ v, vs[i]? = some v ∧ Rep G v d := by
  have hi := (List.getElem?_eq_some_iff.mp e).1
  rw [← h.1] at hi
  exact ⟨vs[i], List.getElem?_eq_getElem hi, h.2 i _ d (List.getElem?_eq_getElem hi) e⟩
theorem Reps.getV {G : Hp} {vs : List V} {ds : List D} (h : Reps G vs ds) {i : Nat} {v : V} (e : vs[i]? = some v) : ∃ d, ds[i]? = some d ∧ Rep G v d := by
  have hi := (List.getElem?_eq_some_iff.mp e).1
  rw [h.1] at hi
  exact ⟨ds[i], List.getElem?_eq_getElem hi, h.2 i v _ e (List.getElem?_eq_getElem hi)⟩
theorem Reps.induct {G : Hp} {P : List V → List D → Prop} (h0 : P [] []) (h1 : ∀ v vs d ds, Rep G v d → Reps G vs ds → P vs ds → P (v :: vs) (d :: ds)) : ∀ {vs : List V} {ds : List D}, Reps G vs ds → P vs ds
  | vs, [], h => by rw [h.nil_inv]; exact h0
  | vs, d :: ds, h => by
    obtain ⟨v, vr, rfl, a, b⟩ := h.cons_inv
    exact h1 _ _ _ _ a b (Reps.induct h0 h1 b)
theorem Reps.append {G : Hp} {vs us : List V} {ds es : List D} (h : Reps G vs ds) (t : Reps G us es) : Reps G (vs ++ us) (ds ++ es) :=
  Reps.induct (P := fun vs ds => Reps G (vs ++ us) (ds ++ es)) t (fun _ _ _ _ a _ ih => Reps.cons a ih) h
theorem Reps.set {G : Hp} {vs : List V} {ds : List D} (h : Reps G vs ds) {v : V} {d : D} (r : Rep G v d) (i : Nat) : Reps G (vs.set i v) (ds.set i d) := by
  refine ⟨by rw [List.length_set, List.length_set, h.1], fun j x y a b => ?_⟩
  by_cases e : i = j
  · subst e
    rw [List.getElem?_set] at a b
    simp only [if_pos] at a b
    split at a <;> split at b <;> cases a <;> cases b
    exact r
  · rw [List.getElem?_set_ne e] at a b
    exact h.2 j x y a b
theorem Reps.take {G : Hp} {vs : List V} {ds : List D} (h : Reps G vs ds) (n : Nat) : Reps G (vs.take n) (ds.take n) := by
  refine ⟨by rw [List.length_take, List.length_take, h.1], fun j x y a b => ?_⟩
  rw [List.getElem?_take] at a b
  split at a
  · rename_i hj
    rw [if_pos hj] at b
    exact h.2 j x y a b
  · cases a
theorem Reps.drop {G : Hp} {vs : List V} {ds : List D} (h : Reps G vs ds) (n : Nat) : Reps G (vs.drop n) (ds.drop n) := by
  refine ⟨by rw [List.length_drop, List.length_drop, h.1], fun j x y a b => ?_⟩
  rw [List.getElem?_drop] at a b
  exact h.2 _ x y a b
theorem Reps.reverse {G : Hp} {vs : List V} {ds : List D} (h : Reps G vs ds) : Reps G vs.reverse ds.reverse :=
  Reps.induct (P := fun vs ds => Reps G vs.reverse ds.reverse) Reps.nil (fun _ _ _ _ a _ ih => by
    rw [List.reverse_cons, List.reverse_cons]
    exact ih.append (Reps.cons a Reps.nil)) h
theorem Reps.dropLast {G : Hp} {vs : List V} {ds : List D} (h : Reps G vs ds) : Reps G vs.dropLast ds.dropLast := by
  rw [List.dropLast_eq_take, List.dropLast_eq_take, h.1]
  exact h.take _
theorem Reps.eraseIdx {G : Hp} {vs : List V} {ds : List D} (h : Reps G vs ds) (i : Nat) : Reps G (vs.eraseIdx i) (ds.eraseIdx i) := by
  rw [List.eraseIdx_eq_take_drop_succ, List.eraseIdx_eq_take_drop_succ]
  exact (h.take _).append (h.drop _)
theorem Reps.none_of {G : Hp} {vs : List V} {ds : List D} (h : Reps G vs ds) {i : Nat} (e : ds[i]? = none) : vs[i]? = none := by
  rw [List.getElem?_eq_none_iff] at e ⊢
  rw [h.1]; exact e

/-- an object's shell: its own make now, its items shared -/
inductive Shell (G : Hp) : HO → D → Prop where
  | lst {vs : List V} {ds : List D} : Reps G vs ds → Shell G (.lst vs) (.lst ds)
  | tup {vs : List V} {ds : List D} : Reps G vs ds → Shell G (.tup vs) (.tup ds)
  | dK {kvs : List (Key × V)} {kds : List (Key × D)} : kvs.map (·.1) = kds.map (·.1) → Reps G (kvs.map (·.2)) (kds.map (·.2)) → Shell G (.dK kvs) (.dK kds)
  | dT {kvs : List (List Key × V)} {kds : List (List Key × D)} : kvs.map (·.1) = kds.map (·.1) → Reps G (kvs.map (·.2)) (kds.map (·.2)) → Shell G (.dT kvs) (.dT kds)
  | ins {C dx : Addr} {fs : List (Str × V)} {fds : List (Str × D)} : fs.map (·.1) = fds.map (·.1) → Reps G (fs.map (·.2)) (fds.map (·.2)) → Shell G (.ins C dx fs) (.ins C fds)
theorem Shell.mono {G G' : Hp} (e : Same G G') {o : HO} {d : D} (h : Shell G o d) : Shell G' o d := by
  cases h with
  | lst h => exact .lst (h.mono e)
  | tup h => exact .tup (h.mono e)
  | dK a h => exact .dK a (h.mono e)
  | dT a h => exact .dT a (h.mono e)
  | ins a h => exact .ins a (h.mono e)
theorem Shell.lst_inv {G : Hp} {o : HO} {ds : List D} (h : Shell G o (.lst ds)) : ∃ vs, o = .lst vs ∧ Reps G vs ds := by
  cases h with
  | lst h => exact ⟨_, rfl, h⟩
theorem Shell.tup_inv {G : Hp} {o : HO} {ds : List D} (h : Shell G o (.tup ds)) : ∃ vs, o = .tup vs ∧ Reps G vs ds := by
  cases h with
  | tup h => exact ⟨_, rfl, h⟩
theorem Shell.dK_inv {G : Hp} {o : HO} {kds : List (Key × D)} (h : Shell G o (.dK kds)) : ∃ kvs, o = .dK kvs ∧ kvs.map (·.1) = kds.map (·.1) ∧ Reps G (kvs.map (·.2)) (kds.map (·.2)) := by
  cases h with
  | dK a h => exact ⟨_, rfl, a, h⟩
theorem Shell.dT_inv {G : Hp} {o : HO} {kds : List (List Key × D)} (h : Shell G o (.dT kds)) : ∃ kvs, o = .dT kvs ∧ kvs.map (·.1) = kds.map (·.1) ∧ Reps G (kvs.map (·.2)) (kds.map (·.2)) := by
  cases h with
  | dT a h => exact ⟨_, rfl, a, h⟩
/-- what is shared stands for itself -/
theorem Shell.rep {G : Hp} {p : Addr} {o : HO} {d : D} (e : G p = some o) (h : Shell G o d) (hi : (∃ ds, d = .lst ds) ∨ ∃ ds, d = .tup ds) : Rep G (.ref p) d := by
  cases h with
  | lst h => exact .lst e h.1 h.2
  | tup h => exact .tup e h.1 h.2
  | dK a h => rcases hi with ⟨_, z⟩ | ⟨_, z⟩ <;> cases z
  | dT a h => rcases hi with ⟨_, z⟩ | ⟨_, z⟩ <;> cases z
  | ins a h => rcases hi with ⟨_, z⟩ | ⟨_, z⟩ <;> cases z

/-! ### environments -/
abbrev Mem := List (Addr × D)
structure Env where
  sl : List (Option D)
  M : Mem
  R : Mem
structure Fr where
  B : Hp
  G0 : Hp

structure MemOk (B G H : Hp) (M : Mem) : Prop where
  nd : (M.map (·.1)).Nodup
  at_ : ∀ q ∈ M, B q.1 = none ∧ G q.1 = none ∧ ∃ o, H q.1 = some o ∧ Shell G o q.2
structure Holds (F : Fr) (G : Hp) (Γ : DL.Env) (σ : L2.St) (H : Hp) : Prop where
  g0 : Same F.G0 G
  gh : Same G H
  bh : Same F.B H
  gb : Same F.G0 F.B
  nw : ∀ p o, G p = some o → F.G0 p = some o ∨ F.B p = none
  len : σ.length = Γ.sl.length
  sl : ∀ (i : Nat) (d : D), Γ.sl[i]? = some (some d) → ∃ v, σ[i]? = some (some v) ∧ Rep G v d
  mem : MemOk F.B G H Γ.M
  rd : ∀ q ∈ Γ.R, ∃ o, Rd F.B q.1 o ∧ Shell G o q.2

/-- what a value shows: itself, or what stands at its place -/
inductive See (M R : Mem) : D → D → Prop where
  | self (c : D) : See M R c c
  | own {p : Addr} {c : D} : (p, c) ∈ M → See M R (.ref p) c
  | rd {p : Addr} {c : D} : (p, c) ∈ R → See M R (.ref p) c
theorem See.any {M R : Mem} {d c : D} (h : See [] R d c) : See M R d c := by
  cases h with
  | self => exact .self _
  | own h => cases h
  | rd h => exact .rd h

section
variable {F : Fr} {G : Hp} {Γ : DL.Env} {σ : L2.St} {H : Hp}
theorem rd_same {B H : Hp} (e : Same B H) {p : Addr} {o : HO} (h : Rd B p o) : Rd H p o := by
  rcases h with h | ⟨q, h⟩
  · exact .inl (e _ _ h)
  · exact .inr ⟨q, e _ _ h⟩
theorem Holds.see (h : Holds F G Γ σ H) {d c : D} {v : V} (r : Rep G v d) (s : See Γ.M Γ.R d c) : (∃ p o, v = .ref p ∧ Rd H p o ∧ Shell G o c) ∨ (d = c ∧ Rep G v c) := by
  cases s with
  | self => exact .inr ⟨rfl, r⟩
  | own m =>
    obtain ⟨_, _, o, ho, hs⟩ := h.mem.at_ _ m
    cases r
    exact .inl ⟨_, o, rfl, .inl ho, hs⟩
  | rd m =>
    obtain ⟨o, ho, hs⟩ := h.rd _ m
    cases r
    exact .inl ⟨_, o, rfl, rd_same h.bh ho, hs⟩
theorem Holds.seeL (h : Holds F G Γ σ H) {K : PySem.W.Frag} {d : D} {ds : List D} {v : V} (r : Rep G v d) (s : See Γ.M Γ.R d (.lst ds)) : ∃ p vs, v = .ref p ∧ SqL K H p vs ∧ Reps G vs ds := by
  rcases h.see r s with ⟨p, o, rfl, ho, hs⟩ | ⟨rfl, r⟩
  · obtain ⟨vs, rfl, hr⟩ := hs.lst_inv
    exact ⟨p, vs, rfl, .inl ho, hr⟩
  · cases r with
    | lst e l a => exact ⟨_, _, rfl, .inl (.inl (h.gh _ _ e)), l, a⟩
theorem Holds.seeT (h : Holds F G Γ σ H) {K : PySem.W.Frag} {d : D} {ds : List D} {v : V} (r : Rep G v d) (s : See Γ.M Γ.R d (.tup ds)) : ∃ p vs, v = .ref p ∧ SqT K H p vs ∧ Reps G vs ds := by
  rcases h.see r s with ⟨p, o, rfl, ho, hs⟩ | ⟨rfl, r⟩
  · obtain ⟨vs, rfl, hr⟩ := hs.tup_inv
    exact ⟨p, vs, rfl, .inl ho, hr⟩
  · cases r with
    | tup e l a => exact ⟨_, _, rfl, .inl (.inl (h.gh _ _ e)), l, a⟩
theorem Rep.tup_inv {v : V} {ds : List D} (r : Rep G v (.tup ds)) : ∃ p vs, v = .ref p ∧ G p = some (.tup vs) ∧ Reps G vs ds := by
  cases r with
  | tup e l a => exact ⟨_, _, rfl, e, l, a⟩
theorem Rep.lst_inv {v : V} {ds : List D} (r : Rep G v (.lst ds)) : ∃ p vs, v = .ref p ∧ G p = some (.lst vs) ∧ Reps G vs ds := by
  cases r with
  | lst e l a => exact ⟨_, _, rfl, e, l, a⟩
theorem Rep.int_inv {v : V} {i : Int} (r : Rep G v (.int i)) : v = .int i := by cases r; rfl
theorem Rep.bl_inv {v : V} {i : Bool} (r : Rep G v (.bl i)) : v = .bl i := by cases r; rfl
theorem Rep.str_inv {v : V} {i : Str} (r : Rep G v (.str i)) : v = .str i := by cases r; rfl
theorem Rep.non_inv {v : V} (r : Rep G v .non) : v = .non := by cases r; rfl
theorem Rep.ref_inv {v : V} {p : Addr} (r : Rep G v (.ref p)) : v = .ref p := by cases r; rfl

/-- a new object, owned -/
theorem Holds.newOwn (h : Holds F G Γ σ H) {p : Addr} {o : HO} {c : D} (hp : H p = none) (hs : Shell G o c) : Holds F G ⟨Γ.sl, (p, c) :: Γ.M, Γ.R⟩ σ (upd H p o) where
  g0 := h.g0
  gh := h.gh.trans (fun b u e => by rw [upd_ne (ne_of_none e hp)]; exact e)
  bh := h.bh.trans (fun b u e => by rw [upd_ne (ne_of_none e hp)]; exact e)
  gb := h.gb
  nw := h.nw
  len := h.len
  sl := h.sl
  mem := by
    have hB : F.B p = none := h.bh.free hp
    have hG : G p = none := h.gh.free hp
    refine ⟨?_, fun q m => ?_⟩
    · rw [List.map_cons, List.nodup_cons]
      refine ⟨fun ha => ?_, h.mem.nd⟩
      obtain ⟨q, hq, e⟩ := List.mem_map.mp ha
      obtain ⟨_, _, o', e', _⟩ := h.mem.at_ q hq
      have e2 : q.1 = p := e
      rw [e2, hp] at e'; cases e'
    · rcases List.mem_cons.mp m with rfl | m
      · exact ⟨hB, hG, o, upd_same, hs⟩
      · obtain ⟨a, b, o', e', s'⟩ := h.mem.at_ q m
        refine ⟨a, b, o', ?_, s'⟩
        rw [upd_ne (ne_of_none e' hp)]; exact e'
  rd := h.rd
/-- a new object, shared -/
theorem Holds.newSh (h : Holds F G Γ σ H) {p : Addr} {o : HO} (hp : H p = none) : Same G (upd G p o) ∧ Holds F (upd G p o) Γ σ (upd H p o) := by
  have hB : F.B p = none := h.bh.free hp
  have hG : G p = none := h.gh.free hp
  have sg : Same G (upd G p o) := fun b u e => by rw [upd_ne (ne_of_none e hG)]; exact e
  have sh : Same H (upd H p o) := fun b u e => by rw [upd_ne (ne_of_none e hp)]; exact e
  refine ⟨sg, h.g0.trans sg, fun b u e => ?_, h.bh.trans sh, h.gb, fun b u e => ?_, h.len, fun i d e => ?_, ⟨h.mem.nd, fun q m => ?_⟩, fun q m => ?_⟩
  · by_cases hb : b = p
    · subst hb; rw [upd_same] at e ⊢; exact e
    · rw [upd_ne hb] at e ⊢; exact h.gh _ _ e
  · by_cases hb : b = p
    · subst hb; exact .inr hB
    · rw [upd_ne hb] at e; exact h.nw _ _ e
  · obtain ⟨v, a, b⟩ := h.sl i d e
    exact ⟨v, a, b.mono sg⟩
  · obtain ⟨a, b, o', e', s'⟩ := h.mem.at_ q m
    have ne : q.1 ≠ p := ne_of_none e' hp
    exact ⟨a, by rw [upd_ne ne]; exact b, o', by rw [upd_ne ne]; exact e', s'.mono sg⟩
  · obtain ⟨o', e', s'⟩ := h.rd q m
    exact ⟨o', e', s'.mono sg⟩
theorem nodup_ix' {l : List Addr} (hN : l.Nodup) {i j : Nat} {x : Addr} (a : l[i]? = some x) (b : l[j]? = some x) : i = j := by
  obtain ⟨h1, e1⟩ := List.getElem?_eq_some_iff.mp a
  obtain ⟨h2, e2⟩ := List.getElem?_eq_some_iff.mp b
  exact (List.getElem_inj hN).mp (e1.trans e2.symm)
/-- an owned object is written -/
theorem Holds.write (h : Holds F G Γ σ H) {k : Nat} {p : Addr} {c c' : D} {o' : HO} (m : Γ.M[k]? = some (p, c)) (hs : Shell G o' c') : Holds F G ⟨Γ.sl, Γ.M.set k (p, c'), Γ.R⟩ σ (upd H p o') := by
  have hm := List.mem_of_getElem? m
  obtain ⟨hB, hG, o, ho, _⟩ := h.mem.at_ _ hm
  refine ⟨h.g0, fun b u e => ?_, fun b u e => ?_, h.gb, h.nw, h.len, h.sl, ⟨?_, fun q mq => ?_⟩, h.rd⟩
  · rw [upd_ne (ne_of_none e hG)]; exact h.gh _ _ e
  · rw [upd_ne (ne_of_none e hB)]; exact h.bh _ _ e
  · have : (Γ.M.set k (p, c')).map (·.1) = Γ.M.map (·.1) := by
      rw [List.map_set]
      apply List.ext_getElem?
      intro j
      by_cases hj : k = j
      · subst hj
        rw [List.getElem?_set]
        simp only [if_pos]
        rw [List.getElem?_map, m]
        split
        · rfl
        · rename_i hl
          have := (List.getElem?_eq_some_iff.mp m).1
          simp at hl; omega
      · rw [List.getElem?_set_ne hj]
    show ((Γ.M.set k (p, c')).map (·.1)).Nodup
    rw [this]; exact h.mem.nd
  · obtain ⟨j, hj, ej⟩ := List.getElem_of_mem mq
    by_cases hk : k = j
    · subst hk
      have eq : q = (p, c') := by
        have := ej; simp at this; exact this.symm
      subst eq
      exact ⟨hB, hG, o', upd_same, hs⟩
    · have e0 : Γ.M[j]? = some q := by
        have h1 : (Γ.M.set k (p, c'))[j]? = some q := by
          rw [← ej]; exact List.getElem?_eq_getElem hj
        rw [List.getElem?_set_ne hk] at h1; exact h1
      obtain ⟨a, b, oq, e', s'⟩ := h.mem.at_ q (List.mem_of_getElem? e0)
      refine ⟨a, b, oq, ?_, s'⟩
      have ne : q.1 ≠ p := by
        intro e
        have h1 : (Γ.M.map (·.1))[j]? = some p := by rw [List.getElem?_map, e0, ← e]; rfl
        have h2 : (Γ.M.map (·.1))[k]? = some p := by rw [List.getElem?_map, m]; rfl
        exact hk (nodup_ix' h.mem.nd h2 h1)
      rw [upd_ne ne]; exact e'
/-- an owned object becomes a shared one; the slots say so -/
theorem Holds.freeze (h : Holds F G Γ σ H) {k : Nat} {p : Addr} {c : D} (m : Γ.M[k]? = some (p, c)) (hc : (∃ ds, c = .lst ds) ∨ ∃ ds, c = .tup ds) (fz : List (Option D))
    (hl : fz.length = Γ.sl.length) (hf : ∀ (i : Nat) d, fz[i]? = some (some d) → Γ.sl[i]? = some (some d) ∨ (Γ.sl[i]? = some (some (.ref p)) ∧ d = c)) :
    ∃ G', Same G G' ∧ Rep G' (.ref p) c ∧ Holds F G' ⟨fz, Γ.M.eraseIdx k, Γ.R⟩ σ H := by
  have hm := List.mem_of_getElem? m
  obtain ⟨hB, hG, o, ho, hs⟩ := h.mem.at_ _ hm
  have sg : Same G (upd G p o) := fun b u e => by rw [upd_ne (ne_of_none e hG)]; exact e
  have rp : Rep (upd G p o) (.ref p) c := Shell.rep upd_same (hs.mono sg) hc
  have sub : (Γ.M.eraseIdx k).Sublist Γ.M := List.eraseIdx_sublist _ _
  refine ⟨upd G p o, sg, rp, h.g0.trans sg, fun b u e => ?_, h.bh, h.gb, fun b u e => ?_, by rw [h.len, hl], fun i d e => ?_, ⟨?_, fun q mq => ?_⟩, fun q mq => ?_⟩
  · by_cases hb : b = p
    · subst hb; rw [upd_same] at e; cases e; exact ho
    · rw [upd_ne hb] at e; exact h.gh _ _ e
  · by_cases hb : b = p
    · subst hb; exact .inr hB
    · rw [upd_ne hb] at e; exact h.nw _ _ e
  · rcases hf i d e with e1 | ⟨e1, rfl⟩
    · obtain ⟨v, a, b⟩ := h.sl i d e1
      exact ⟨v, a, b.mono sg⟩
    · obtain ⟨v, a, b⟩ := h.sl i _ e1
      cases b
      exact ⟨_, a, rp⟩
  · exact List.Nodup.sublist (sub.map _) h.mem.nd
  · obtain ⟨a, b, oq, e', s'⟩ := h.mem.at_ q (sub.subset mq)
    have ne : q.1 ≠ p := by
      intro e
      obtain ⟨j, hj, ej⟩ := List.getElem_of_mem mq
      have ej' : (Γ.M.eraseIdx k)[j]? = some q := by rw [← ej]; exact List.getElem?_eq_getElem hj
      rw [List.getElem?_eraseIdx] at ej'
      split at ej'
      · rename_i hlt
        have h1 : (Γ.M.map (·.1))[j]? = some p := by rw [List.getElem?_map, ej', ← e]; rfl
        have h2 : (Γ.M.map (·.1))[k]? = some p := by rw [List.getElem?_map, m]; rfl
        have := nodup_ix' h.mem.nd h2 h1
        omega
      · rename_i hlt
        have h1 : (Γ.M.map (·.1))[j + 1]? = some p := by rw [List.getElem?_map, ej', ← e]; rfl
        have h2 : (Γ.M.map (·.1))[k]? = some p := by rw [List.getElem?_map, m]; rfl
        have := nodup_ix' h.mem.nd h2 h1
        omega
    exact ⟨a, by rw [upd_ne ne]; exact b, oq, e', s'.mono sg⟩
  · obtain ⟨o', e', s'⟩ := h.rd q mq
    exact ⟨o', e', s'.mono sg⟩
theorem Holds.setSl (h : Holds F G Γ σ H) {v : V} {d : D} (r : Rep G v d) (i : Nat) : Holds F G ⟨Γ.sl.set i (some d), Γ.M, Γ.R⟩ (σ.set i (some v)) H := by
  refine ⟨h.g0, h.gh, h.bh, h.gb, h.nw, by rw [List.length_set, List.length_set, h.len], fun j e he => ?_, h.mem, h.rd⟩
  by_cases hj : i = j
  · subst hj
    have he' : (Γ.sl.set i (some d))[i]? = some (some e) := he
    rw [List.getElem?_set] at he'
    simp only [if_pos] at he'
    split at he'
    · rename_i hl
      cases he'
      refine ⟨v, ?_, r⟩
      rw [List.getElem?_set]
      simp only [if_pos]
      rw [if_pos (by rw [h.len]; exact hl)]
    · cases he'
  · have he' : (Γ.sl.set i (some d))[j]? = some (some e) := he
    rw [List.getElem?_set_ne hj] at he'
    obtain ⟨w, a, b⟩ := h.sl j e he'
    exact ⟨w, by rw [List.getElem?_set_ne hj]; exact a, b⟩
end
end DL

/-! The D layer, part 2: the judgements. -/
namespace DL
open PySem PySem.Spec PyProof.Rows L2

/-! ### the widest readings -/
def tU (X : Cx) (e : Expr) : TE := fun σ H Q => ∀ (pins : List (Addr × Obj)) (s : Shared), Inv X pins σ H s → wpAny (model X.prog X.w) X.A (eval e X.env) (EP X pins σ Q) X.xe s
def tUT (X : Cx) (e : Expr) : TT := fun σ H Q => ∀ (pins : List (Addr × Obj)) (s : Shared), Inv X pins σ H s → wpAny (model X.prog X.w) X.A (isTrue e X.env (eval e X.env)) (TP X pins σ Q) X.xe s
def tUW (X : Cx) (e : Expr) : TT := fun σ H Q => ∀ (whole : Sem Value) (pins : List (Addr × Obj)) (s : Shared), Inv X pins σ H s → wpAny (model X.prog X.w) X.A (isTrue e X.env whole) (TP X pins σ Q) X.xe s
def tUA (X : Cx) (es : List Expr) : TA := fun σ H Q => ∀ (pos : Pos) (pins : List (Addr × Obj)) (s : Shared), Inv X pins σ H s → wpAny (model X.prog X.w) X.A (spliced (backTo pos (starEach es X.env))) (AP X pins σ Q) X.xe s
def tUS (X : Cx) (st : Stmt) : TS := fun D σ H => ∀ (pins : List (Addr × Obj)) (s : Shared), Inv X pins σ H s → wpAny (model X.prog X.w) X.A (exec st X.env) (SP X pins D) X.xe s
def tUSs (X : Cx) (st : List Stmt) : TS := fun D σ H => ∀ (pins : List (Addr × Obj)) (s : Shared), Inv X pins σ H s → wpAny (model X.prog X.w) X.A (execs st X.env) (SP X pins D) X.xe s
def tUG (X : Cx) (tg : Expr) : TG := fun v σ H Q => ∀ (pins : List (Addr × Obj)) (s : Shared) (u : Value), Inv X pins σ H s → RelV v u → wpAny (model X.prog X.w) X.A (assign tg X.env u) (fun _ s' => ∃ σ' H', Inv X pins σ' H' s' ∧ Q σ' H') X.xe s
def tUGs (X : Cx) (ts : List Expr) : TGs := fun vs σ H Q => ∀ (pins : List (Addr × Obj)) (s : Shared) (us : List Value), Inv X pins σ H s → Vals vs us → wpAny (model X.prog X.w) X.A (assignInOrder ((assignEach ts X.env).map (·.2)) us) (fun _ s' => ∃ σ' H', Inv X pins σ' H' s' ∧ Q σ' H') X.xe s
section
variable {X : Cx}
theorem pe_U {e : Expr} : PE X e (tU X e) := ⟨fun pins s _ _ _ I h => h pins s I⟩
theorem pt_U {e : Expr} : PT X e (tUT X e) := ⟨fun pins s _ _ _ I h => h pins s I⟩
theorem pw_U {e : Expr} : PW X e (tUW X e) := ⟨fun wh pins s _ _ _ I h => h wh pins s I⟩
theorem pa_U {es : List Expr} : PA X es (tUA X es) := ⟨fun pos pins s _ _ _ I h => h pos pins s I⟩
theorem ps_U {st : Stmt} : PS X st (tUS X st) := ⟨fun pins s _ _ _ I h => h pins s I⟩
theorem pss_U {st : List Stmt} : PSs X st (tUSs X st) := ⟨fun pins s _ _ _ I h => h pins s I⟩
theorem pg_U {tg : Expr} : PG X tg (tUG X tg) := ⟨fun pins s _ _ _ u _ I r h => h pins s u I r⟩
theorem pgs_U {tg : List Expr} : PGs X tg (tUGs X tg) := ⟨fun pins s _ _ _ u _ I r h => h pins s u I r⟩
theorem tU_of {e : Expr} {t : TE} (h : PE X e t) {σ : L2.St} {H : Hp} {Q : VK} (q : t σ H Q) : tU X e σ H Q := fun pins s I => h.run pins s σ H Q I q
theorem tUT_of {e : Expr} {t : TT} (h : PT X e t) {σ : L2.St} {H : Hp} {Q : Bool → Hp → Prop} (q : t σ H Q) : tUT X e σ H Q := fun pins s I => h.run pins s σ H Q I q
theorem tUW_of {e : Expr} {t : TT} (h : PW X e t) {σ : L2.St} {H : Hp} {Q : Bool → Hp → Prop} (q : t σ H Q) : tUW X e σ H Q := fun wh pins s I => h.run wh pins s σ H Q I q
theorem tUA_of {es : List Expr} {t : TA} (h : PA X es t) {σ : L2.St} {H : Hp} {Q : List V → Hp → Prop} (q : t σ H Q) : tUA X es σ H Q := fun pos pins s I => h.run pos pins s σ H Q I q
theorem tUS_of {st : Stmt} {t : TS} (h : PS X st t) {D : Ends} {σ : L2.St} {H : Hp} (q : t D σ H) : tUS X st D σ H := fun pins s I => h.run pins s σ H D I q
theorem tUSs_of {st : List Stmt} {t : TS} (h : PSs X st t) {D : Ends} {σ : L2.St} {H : Hp} (q : t D σ H) : tUSs X st D σ H := fun pins s I => h.run pins s σ H D I q
theorem tUG_of {tg : Expr} {t : TG} (h : PG X tg t) {v : V} {σ : L2.St} {H : Hp} {Q : L2.St → Hp → Prop} (q : t v σ H Q) : tUG X tg v σ H Q := fun pins s u I r => h.run pins s σ H v u Q I r q
theorem tUGs_of {tg : List Expr} {t : TGs} (h : PGs X tg t) {v : List V} {σ : L2.St} {H : Hp} {Q : L2.St → Hp → Prop} (q : t v σ H Q) : tUGs X tg v σ H Q := fun pins s u I r => h.run pins s σ H v u Q I r q
end

/-! ### what is asked of a context -/
structure Std (X : Cx) : Prop where
  calm : X.calm = true
  nd : X.N.Nodup
  own : PassesOwn (model X.prog X.w) X.A X.env X.xe
  hu : X.A.units + 64 < cLine
theorem Std.hu1 {X : Cx} (h : Std X) : X.A.units + 1 < cLine := Nat.lt_of_le_of_lt (Nat.add_le_add_left (by decide : 1 ≤ 64) _) h.hu
structure NameAt (X : Cx) (i : Nat) (x : Str) : Prop where
  hN : X.N[i]? = some x
  vis : Vis X.env.scope x
  d1 : (x == ("__debug__" : Str)) = false
  d2 : (x == ("__classdict__" : Str)) = false
structure StoreAt (X : Cx) (i : Nat) (x : Str) : Prop where
  hN : X.N[i]? = some x
  loc : Loc X.env.scope x
  fn : X.fn x = true ∨ X.env.scope.names.lookup x = some .local

/-! ### the judgements -/
def Good (F : Fr) (Q : D → DL.Env → Prop) (G : Hp) (σ : L2.St) (R : VK) : Prop :=
  ∀ d Γ' G' v H', Q d Γ' → Same G G' → Holds F G' Γ' σ H' → Rep G' v d → R v H'
def GoodB (F : Fr) (Q : Bool → DL.Env → Prop) (G : Hp) (σ : L2.St) (R : Bool → Hp → Prop) : Prop :=
  ∀ d Γ' G' H', Q d Γ' → Same G G' → Holds F G' Γ' σ H' → R d H'
def GoodA (F : Fr) (Q : List D → DL.Env → Prop) (G : Hp) (σ : L2.St) (R : List V → Hp → Prop) : Prop :=
  ∀ d Γ' G' v H', Q d Γ' → Same G G' → Holds F G' Γ' σ H' → Reps G' v d → R v H'
def GoodG (F : Fr) (Q : DL.Env → Prop) (G : Hp) (R : L2.St → Hp → Prop) : Prop :=
  ∀ Γ' G' σ' H', Q Γ' → Same G G' → Holds F G' Γ' σ' H' → R σ' H'
structure Out where
  nx : DL.Env → Prop
  rt : D → DL.Env → Prop
  bk : DL.Env → Prop := fun _ => False
  ct : DL.Env → Prop := fun _ => False
structure GoodS (F : Fr) (O : Out) (G : Hp) (E : Ends) : Prop where
  nx : GoodG F O.nx G E.nx
  rt : ∀ d Γ' G' σ' v H', O.rt d Γ' → Same G G' → Holds F G' Γ' σ' H' → Rep G' v d → E.rt v H'
  bk : GoodG F O.bk G E.bk
  ct : GoodG F O.ct G E.ct
section
variable (X : Cx) (F : Fr)
/-- an expression -/
def WE (e : Expr) (Γ : DL.Env) (Q : D → DL.Env → Prop) : Prop := ∀ G σ H, Holds F G Γ σ H → ∀ R, Good F Q G σ R → tU X e σ H R
/-- a test -/
def WT (e : Expr) (Γ : DL.Env) (Q : Bool → DL.Env → Prop) : Prop := ∀ G σ H, Holds F G Γ σ H → ∀ R, GoodB F Q G σ R → tUT X e σ H R
def WW (e : Expr) (Γ : DL.Env) (Q : Bool → DL.Env → Prop) : Prop := ∀ G σ H, Holds F G Γ σ H → ∀ R, GoodB F Q G σ R → tUW X e σ H R
/-- arguments -/
def WA (es : List Expr) (Γ : DL.Env) (Q : List D → DL.Env → Prop) : Prop := ∀ G σ H, Holds F G Γ σ H → ∀ R, GoodA F Q G σ R → tUA X es σ H R
/-- a target -/
def WG (tg : Expr) (d : D) (Γ : DL.Env) (Q : DL.Env → Prop) : Prop := ∀ G σ H v, Holds F G Γ σ H → Rep G v d → ∀ R, GoodG F Q G R → tUG X tg v σ H R
def WGs (tg : List Expr) (ds : List D) (Γ : DL.Env) (Q : DL.Env → Prop) : Prop := ∀ G σ H vs, Holds F G Γ σ H → Reps G vs ds → ∀ R, GoodG F Q G R → tUGs X tg vs σ H R
/-- a statement, a block -/
def WS (st : Stmt) (Γ : DL.Env) (O : Out) : Prop := ∀ G σ H, Holds F G Γ σ H → ∀ E, GoodS F O G E → tUS X st E σ H
def WSs (st : List Stmt) (Γ : DL.Env) (O : Out) : Prop := ∀ G σ H, Holds F G Γ σ H → ∀ E, GoodS F O G E → tUSs X st E σ H
/-- an operation on two values -/
def WO (f : Value → Value → Sem Value) (d1 d2 : D) (Γ : DL.Env) (Q : D → DL.Env → Prop) : Prop :=
  ∀ G σ H x y, Holds F G Γ σ H → Rep G x d1 → Rep G y d2 → ∀ R, Good F Q G σ R → ∀ (pins : List (Addr × Obj)) (s : Shared) (v u : Value), Inv X pins σ H s → RelV x v → RelV y u →
    wpAny (model X.prog X.w) X.A (f v u) (EP X pins σ R) X.xe s
/-- .. on one -/
def WU (f : Value → Sem Value) (d1 : D) (Γ : DL.Env) (Q : D → DL.Env → Prop) : Prop :=
  ∀ G σ H x, Holds F G Γ σ H → Rep G x d1 → ∀ R, Good F Q G σ R → ∀ (pins : List (Addr × Obj)) (s : Shared) (v : Value), Inv X pins σ H s → RelV x v →
    wpAny (model X.prog X.w) X.A (f v) (EP X pins σ R) X.xe s
/-- .. on many: a call of a known value -/
def WC (f : Value) (ds : List D) (Γ : DL.Env) (Q : D → DL.Env → Prop) : Prop :=
  ∀ G σ H xs, Holds F G Γ σ H → Reps G xs ds → ∀ R, Good F Q G σ R → ∀ (pins : List (Addr × Obj)) (s : Shared) (us : List Value), Inv X pins σ H s → Vals xs us →
    wpAny (model X.prog X.w) X.A (call f us) (EP X pins σ R) X.xe s
end

section
variable {X : Cx} {F : Fr} {Γ : DL.Env} {Q Q' : D → DL.Env → Prop}
theorem we_mono {e : Expr} (h : WE X F e Γ Q) (q : ∀ d Γ', Q d Γ' → Q' d Γ') : WE X F e Γ Q' := fun G σ H hh R hR => h G σ H hh R fun d Γ' G' v H' a => hR d Γ' G' v H' (q _ _ a)
theorem wo_mono {f : Value → Value → Sem Value} {d1 d2 : D} (h : WO X F f d1 d2 Γ Q) (q : ∀ d Γ', Q d Γ' → Q' d Γ') : WO X F f d1 d2 Γ Q' :=
  fun G σ H x y hh r1 r2 R hR => h G σ H x y hh r1 r2 R fun d Γ' G' v H' a => hR d Γ' G' v H' (q _ _ a)
theorem Good.here {G : Hp} {σ : L2.St} {H : Hp} {R : VK} {d : D} {v : V} (hR : Good F Q G σ R) (h : Holds F G Γ σ H) (q : Q d Γ) (r : Rep G v d) : R v H := hR d Γ G v H q (Same.refl G) h r
theorem Good.later {G G' : Hp} {σ : L2.St} {R : VK} (hR : Good F Q G σ R) (e : Same G G') : Good F Q G' σ R := fun d Γ' G2 v H' q s => hR d Γ' G2 v H' q (e.trans s)
theorem GoodB.later {Q : Bool → DL.Env → Prop} {G G' : Hp} {σ : L2.St} {R : Bool → Hp → Prop} (hR : GoodB F Q G σ R) (e : Same G G') : GoodB F Q G' σ R := fun d Γ' G2 H' q s => hR d Γ' G2 H' q (e.trans s)
theorem GoodG.later {Q : DL.Env → Prop} {G G' : Hp} {R : L2.St → Hp → Prop} (hR : GoodG F Q G R) (e : Same G G') : GoodG F Q G' R := fun Γ' G2 σ' H' q s => hR Γ' G2 σ' H' q (e.trans s)
theorem GoodS.later {O : Out} {G G' : Hp} {E : Ends} (h : GoodS F O G E) (e : Same G G') : GoodS F O G' E :=
  ⟨h.nx.later e, fun d Γ' G2 σ' v H' q s => h.rt d Γ' G2 σ' v H' q (e.trans s), h.bk.later e, h.ct.later e⟩

/-! ### constants and names -/
theorem we_int {i : Int} {j : Nat} {pos : Pos} (q : Q (.int i) Γ) : WE X F (.Constant (.int i) j pos) Γ Q := fun G σ H hh R hR => tU_of pe_int (hR.here hh q (.int i))
theorem we_bl {i : Bool} {j : Nat} {pos : Pos} (q : Q (.bl i) Γ) : WE X F (.Constant (.bool i) j pos) Γ Q := fun G σ H hh R hR => tU_of pe_bl (hR.here hh q (.bl i))
theorem we_str {i : Str} {j : Nat} {pos : Pos} (q : Q (.str i) Γ) : WE X F (.Constant (.str i) j pos) Γ Q := fun G σ H hh R hR => tU_of pe_str (hR.here hh q (.str i))
theorem we_non {j : Nat} {pos : Pos} (q : Q .non Γ) : WE X F (.Constant .none j pos) Γ Q := fun G σ H hh R hR => tU_of pe_non (hR.here hh q .non)
theorem we_name {i : Nat} {x : Str} {pos : Pos} {d : D} (n : NameAt X i x) (e : Γ.sl[i]? = some (some d)) (q : Q d Γ) : WE X F (.Name x pos) Γ Q := fun G σ H hh R hR => by
  obtain ⟨v, a, b⟩ := hh.sl i d e
  exact tU_of (pe_var n.hN n.vis n.d1 n.d2) ⟨v, a, hR.here hh q b⟩
/-- a global that holds a plain constant -/
theorem we_glob {x : Str} {pos : Pos} {v : V} {u : Value} {d : D} (hg : Gl X x) (hm : X.mg x = some u) (r : RelV v u) (hd : (x == ("__debug__" : Str)) = false) (rd : ∀ G, Rep G v d) (q : Q d Γ) : WE X F (.Name x pos) Γ Q :=
  fun G σ H hh R hR => tU_of (pe_glob hg hm r hd) (hR.here hh q (rd G))

/-! ### operators -/
theorem we_bin {a b : Expr} {op : Operator} {pos : Pos} (h : WE X F a Γ fun d1 Γ1 => WE X F b Γ1 fun d2 Γ2 => WO X F (binaryOp op) d1 d2 Γ2 Q) : WE X F (.BinOp a op b pos) Γ Q := by
  intro G σ H hh R hR pins s I
  refine wpAny_BinOp (binT (R := fun x y H2 => ∀ (pins : List (Addr × Obj)) (s : Shared) (v u : Value), Inv X pins σ H2 s → RelV x v → RelV y u → wpAny (model X.prog X.w) X.A (binaryOp op v u) (EP X pins σ R) X.xe s)
    pe_U pe_U I ?_ fun v u s2 x y H2 I2 rx ry q => q _ _ _ _ I2 rx ry)
  refine h G σ H hh _ fun d1 Γ1 G1 v1 H1 q1 s1 h1 r1 => ?_
  refine q1 G1 σ H1 h1 _ fun d2 Γ2 G2 v2 H2 q2 s2 h2 r2 => ?_
  exact q2 G2 σ H2 v1 v2 h2 (r1.mono s2) r2 R (hR.later (s1.trans s2))
theorem we_un {a : Expr} {op : UnaryOp} {pos : Pos} (hne : op ≠ .Not) (h : WE X F a Γ fun d1 Γ1 => WU X F (unaryOp op) d1 Γ1 Q) : WE X F (.UnaryOp op a pos) Γ Q := by
  intro G σ H hh R hR
  intro pins s I
  refine UnaryOp_ (thn (pe_U.run pins s σ H (fun x H1 => ∀ (pins : List (Addr × Obj)) (s : Shared) (v : Value), Inv X pins σ H1 s → RelV x v → wpAny (model X.prog X.w) X.A (unaryOp op v) (EP X pins σ R) X.xe s) I ?_) fun v s1 ⟨x, H1, I1, r1, q1⟩ => q1 _ _ _ I1 r1)
  refine h G σ H hh _ fun d1 Γ1 G1 v1 H1 q1 s1 h1 r1 => ?_
  exact q1 G1 σ H1 v1 h1 r1 R (hR.later s1)
theorem we_cmp {a b : Expr} {op : CmpOp} {pos : Pos} (hm : behindInMarks op b = false) (h : WE X F a Γ fun d1 Γ1 => WE X F b Γ1 fun d2 Γ2 => WO X F (compareOp op) d1 d2 Γ2 Q) : WE X F (.Compare a [op] [b] pos) Γ Q := by
  intro G σ H hh R hR pins s I
  refine wpAny_Compare1 (binT (R := fun x y H2 => ∀ (pins : List (Addr × Obj)) (s : Shared) (v u : Value), Inv X pins σ H2 s → RelV x v → RelV y u → wpAny (model X.prog X.w) X.A (compareOp op v u) (EP X pins σ R) X.xe s)
    pe_U pe_U I ?_ fun v u s2 x y H2 I2 rx ry q => q _ _ _ _ I2 rx ry) hm
  refine h G σ H hh _ fun d1 Γ1 G1 v1 H1 q1 s1 h1 r1 => ?_
  refine q1 G1 σ H1 h1 _ fun d2 Γ2 G2 v2 H2 q2 s2 h2 r2 => ?_
  exact q2 G2 σ H2 v1 v2 h2 (r1.mono s2) r2 R (hR.later (s1.trans s2))
theorem wt_cmp {a b : Expr} {op : CmpOp} {pos : Pos} {Q : Bool → DL.Env → Prop} (hm : behindInMarks op b = false)
    (h : WE X F a Γ fun d1 Γ1 => WE X F b Γ1 fun d2 Γ2 => WO X F (compareOp op) d1 d2 Γ2 fun d Γ3 => ∃ c, d = .bl c ∧ Q c Γ3) : WT X F (.Compare a [op] [b] pos) Γ Q := by
  intro G σ H hh R hR pins s I
  refine wpAny_isTrue_Compare1 (thn (binT (R := fun x y H2 => ∀ (pins : List (Addr × Obj)) (s : Shared) (v u : Value), Inv X pins σ H2 s → RelV x v → RelV y u → wpAny (model X.prog X.w) X.A (compareOp op v u) (EP X pins σ fun v H => ∃ c, v = .bl c ∧ R c H) X.xe s)
    pe_U pe_U I ?_ fun v u s2 x y H2 I2 rx ry q => q _ _ _ _ I2 rx ry) fun v s1 h1 => thn h1 fun u s2 h2 => thn h2 fun c s3 ⟨x, H1, I1, r1, q1⟩ => ?_) hm
  · refine h G σ H hh _ fun d1 Γ1 G1 v1 H1 q1 s1 h1 r1 => ?_
    refine q1 G1 σ H1 h1 _ fun d2 Γ2 G2 v2 H2 q2 s2 h2 r2 => ?_
    refine q2 G2 σ H2 v1 v2 h2 (r1.mono s2) r2 _ fun d Γ' G' v H' q e hh r => ?_
    obtain ⟨c, rfl, q⟩ := q
    exact ⟨c, r.bl_inv, hR c Γ' G' H' q ((s1.trans s2).trans e) hh⟩
  · obtain ⟨d, rfl, q⟩ := q1
    cases r1
    exact wpAny_truthy_bool ⟨H1, I1, q⟩
/-- a test by a value that is a bool -/
theorem wt_val {e : Expr} {Q : Bool → DL.Env → Prop} (he : ∀ whole, isTrue e X.env whole = (do let v ← whole; standAt e.pos; holding [v] (truthy v))) (h : WE X F e Γ fun d Γ1 => ∃ c, d = .bl c ∧ Q c Γ1) : WT X F e Γ Q := by
  intro G σ H hh R hR
  refine tUT_of (pt_val pe_U he) (h G σ H hh _ fun d Γ' G' v H' q e hh r => ?_)
  obtain ⟨c, rfl, q⟩ := q
  exact ⟨c, r.bl_inv, hR c Γ' G' H' q e hh⟩
theorem wt_not {a : Expr} {pos : Pos} {Q : Bool → DL.Env → Prop} (h : WT X F a Γ fun c Γ1 => Q (!c) Γ1) : WT X F (.UnaryOp .Not a pos) Γ Q := by
  intro G σ H hh R hR
  exact tUT_of (pt_not pt_U) (h G σ H hh _ fun c Γ' G' H' q e hh => hR (!c) Γ' G' H' q e hh)
theorem wt_bool {op : BoolOp} {es : List Expr} {pos : Pos} {Q : Bool → DL.Env → Prop} (h : WW X F (.BoolOp op es pos) Γ Q) : WT X F (.BoolOp op es pos) Γ Q := fun G σ H hh R hR => tUT_of pw_U.pt (h G σ H hh R hR)
section
variable {a b : Expr} {rest : List Expr} {pos : Pos} {QB : Bool → DL.Env → Prop}
theorem ww_and1 (h : WT X F a Γ QB) : WW X F (.BoolOp .And [a] pos) Γ QB := fun G σ H hh R hR => tUW_of (pw_and1 pt_U) (h G σ H hh R hR)
theorem ww_or1 (h : WT X F a Γ QB) : WW X F (.BoolOp .Or [a] pos) Γ QB := fun G σ H hh R hR => tUW_of (pw_or1 pt_U) (h G σ H hh R hR)
theorem ww_and (h : WT X F a Γ fun c Γ1 => (c = true → WW X F (.BoolOp .And (b :: rest) pos) Γ1 QB) ∧ (c = false → QB false Γ1)) : WW X F (.BoolOp .And (a :: b :: rest) pos) Γ QB := fun G σ H hh R hR =>
  tUW_of (pw_and pt_U pw_U) (h G σ H hh _ fun c Γ' G' H' q e hh => by
    cases c with
    | true => exact q.1 rfl G' σ H' hh R (hR.later e)
    | false => exact hR false Γ' G' H' (q.2 rfl) e hh)
theorem ww_or (h : WT X F a Γ fun c Γ1 => (c = false → WW X F (.BoolOp .Or (b :: rest) pos) Γ1 QB) ∧ (c = true → QB true Γ1)) : WW X F (.BoolOp .Or (a :: b :: rest) pos) Γ QB := fun G σ H hh R hR =>
  tUW_of (pw_or pt_U pw_U) (h G σ H hh _ fun c Γ' G' H' q e hh => by
    cases c with
    | false => exact q.1 rfl G' σ H' hh R (hR.later e)
    | true => exact hR true Γ' G' H' (q.2 rfl) e hh)
theorem we_one {op : BoolOp} (h : WE X F a Γ Q) : WE X F (.BoolOp op [a] pos) Γ Q := fun G σ H hh R hR => tU_of (pe_one pe_U) (h G σ H hh R hR)
theorem we_and (h : WE X F a Γ fun d Γ1 => ∃ c, d = .bl c ∧ (c = true → WE X F (.BoolOp .And (b :: rest) pos) Γ1 Q) ∧ (c = false → Q (.bl false) Γ1)) : WE X F (.BoolOp .And (a :: b :: rest) pos) Γ Q := fun G σ H hh R hR =>
  tU_of (pe_and pe_U pe_U) (h G σ H hh _ fun d Γ' G' v H' q e hh r => by
    obtain ⟨c, rfl, q⟩ := q
    refine ⟨c, r.bl_inv, ?_⟩
    cases c with
    | true => exact q.1 rfl G' σ H' hh R (hR.later e)
    | false => exact hR _ Γ' G' _ H' (q.2 rfl) e hh (.bl false))
theorem we_or (h : WE X F a Γ fun d Γ1 => ∃ c, d = .bl c ∧ (c = false → WE X F (.BoolOp .Or (b :: rest) pos) Γ1 Q) ∧ (c = true → Q (.bl true) Γ1)) : WE X F (.BoolOp .Or (a :: b :: rest) pos) Γ Q := fun G σ H hh R hR =>
  tU_of (pe_or pe_U pe_U) (h G σ H hh _ fun d Γ' G' v H' q e hh r => by
    obtain ⟨c, rfl, q⟩ := q
    refine ⟨c, r.bl_inv, ?_⟩
    cases c with
    | false => exact q.1 rfl G' σ H' hh R (hR.later e)
    | true => exact hR _ Γ' G' _ H' (q.2 rfl) e hh (.bl true))
theorem we_not (h : WE X F a Γ fun d Γ1 => ∃ c, d = .bl c ∧ Q (.bl (!c)) Γ1) : WE X F (.UnaryOp .Not a pos) Γ Q := fun G σ H hh R hR =>
  tU_of (pe_not pe_U) (h G σ H hh _ fun d Γ' G' v H' q e hh r => by
    obtain ⟨c, rfl, q⟩ := q
    exact ⟨c, r.bl_inv, hR _ Γ' G' _ H' q e hh (.bl _)⟩)
theorem we_ifexp {t c : Expr} (h : WT X F t Γ fun k Γ1 => (k = true → WE X F a Γ1 Q) ∧ (k = false → WE X F c Γ1 Q)) : WE X F (.IfExp t a c pos) Γ Q := fun G σ H hh R hR =>
  tU_of (pe_ifExp pt_U pe_U pe_U) (h G σ H hh _ fun k Γ' G' H' q e hh => by
    cases k with
    | true => exact q.1 rfl G' σ H' hh R (hR.later e)
    | false => exact q.2 rfl G' σ H' hh R (hR.later e))
end

/-! ### arguments, displays -/
theorem wa_nil {Q : List D → DL.Env → Prop} (q : Q [] Γ) : WA X F [] Γ Q := fun G σ H hh R hR => tUA_of pa_nil (hR [] Γ G [] H q (Same.refl G) hh Reps.nil)
theorem wa_cons {a : Expr} {es : List Expr} {Q : List D → DL.Env → Prop} (hs : starEach (a :: es) X.env = (false, eval a X.env) :: starEach es X.env) (h : WE X F a Γ fun d Γ1 => WA X F es Γ1 fun ds Γ2 => Q (d :: ds) Γ2) : WA X F (a :: es) Γ Q := fun G σ H hh R hR =>
  tUA_of (pa_cons pe_U pa_U hs) (h G σ H hh _ fun d Γ1 G1 v H1 q s1 h1 r => q G1 σ H1 h1 _ fun ds Γ2 G2 vs H2 q2 s2 h2 r2 => hR (d :: ds) Γ2 G2 (v :: vs) H2 q2 (s1.trans s2) h2 (Reps.cons (r.mono s2) r2))
/-- a tuple -/
theorem we_tup {es : List Expr} {k : Nat} {pos : Pos} (h : WA X F es Γ fun ds Γ1 => ds.length ≤ sizeLine ∧ Q (.tup ds) Γ1) : WE X F (.Tuple es k pos) Γ Q := fun G σ H hh R hR =>
  tU_of (pe_tup pa_U) (h G σ H hh _ fun ds Γ1 G1 vs H1 q s1 h1 r => ⟨by rw [r.1]; exact q.1, fun p hp => by
    obtain ⟨sg, h2⟩ := h1.newSh (o := .tup vs) hp
    exact hR _ Γ1 _ _ _ q.2 (s1.trans sg) h2 (.tup upd_same r.1 fun i v d a b => (r.2 i v d a b).mono sg)⟩)
/-- a list that is shared from the start; one that is owned -/
theorem we_lstS {es : List Expr} {pos : Pos} (h : WA X F es Γ fun ds Γ1 => ds.length ≤ sizeLine ∧ Q (.lst ds) Γ1) : WE X F (.List es pos) Γ Q := fun G σ H hh R hR =>
  tU_of (pe_lst pa_U) (h G σ H hh _ fun ds Γ1 G1 vs H1 q s1 h1 r => ⟨by rw [r.1]; exact q.1, fun p hp => by
    obtain ⟨sg, h2⟩ := h1.newSh (o := .lst vs) hp
    exact hR _ Γ1 _ _ _ q.2 (s1.trans sg) h2 (.lst upd_same r.1 fun i v d a b => (r.2 i v d a b).mono sg)⟩)
theorem we_lst {es : List Expr} {pos : Pos} (h : WA X F es Γ fun ds Γ1 => ds.length ≤ sizeLine ∧ ∀ p, Q (.ref p) ⟨Γ1.sl, (p, .lst ds) :: Γ1.M, Γ1.R⟩) : WE X F (.List es pos) Γ Q := fun G σ H hh R hR =>
  tU_of (pe_lst pa_U) (h G σ H hh _ fun ds Γ1 G1 vs H1 q s1 h1 r => ⟨by rw [r.1]; exact q.1, fun p hp =>
    hR _ _ G1 _ _ (q.2 p) s1 (h1.newOwn hp (.lst r)) (.ref p)⟩)
end
end DL

/-! The D layer, part 3: places, statements, operations by the makes of values. -/
namespace DL
open PySem PySem.Spec PyProof.Rows L2

/-! ### places, found by the instances -/
class At (M : Mem) (p : Addr) (c : outParam D) (k : outParam Nat) : Prop where
  e : M[k]? = some (p, c)
instance At.tail {M : Mem} {p q : Addr} {c e : D} {k : Nat} [h : At M p c k] : At ((q, e) :: M) p c (k + 1) := ⟨h.e⟩
instance At.head {M : Mem} {p : Addr} {c : D} : At ((p, c) :: M) p c 0 := ⟨rfl⟩
class SetM (M : Mem) (k : Nat) (q : Addr × D) (M' : outParam Mem) : Prop where
  e : M' = M.set k q
instance SetM.tail {M M' : Mem} {q r : Addr × D} {k : Nat} [h : SetM M k q M'] : SetM (r :: M) (k + 1) q (r :: M') := ⟨by rw [h.e]; rfl⟩
instance SetM.head {M : Mem} {q r : Addr × D} : SetM (r :: M) 0 q (q :: M) := ⟨rfl⟩
class DelM (M : Mem) (k : Nat) (M' : outParam Mem) : Prop where
  e : M' = M.eraseIdx k
instance DelM.tail {M M' : Mem} {r : Addr × D} {k : Nat} [h : DelM M k M'] : DelM (r :: M) (k + 1) (r :: M') := ⟨by rw [h.e]; rfl⟩
instance DelM.head {M : Mem} {r : Addr × D} : DelM (r :: M) 0 M := ⟨rfl⟩
class SetS (l : List (Option D)) (i : Nat) (d : Option D) (l' : outParam (List (Option D))) : Prop where
  e : l' = l.set i d
instance SetS.tail {l l' : List (Option D)} {x d : Option D} {k : Nat} [h : SetS l k d l'] : SetS (x :: l) (k + 1) d (x :: l') := ⟨by rw [h.e]; rfl⟩
instance SetS.head {l : List (Option D)} {x d : Option D} : SetS (x :: l) 0 d (d :: l) := ⟨rfl⟩
/-- the slots that hold the place p are turned to c -/
class FzS (l : List (Option D)) (p : Addr) (c : D) (l' : outParam (List (Option D))) : Prop where
  len : l'.length = l.length
  at_ : ∀ (i : Nat) (d : D), l'[i]? = some (some d) → l[i]? = some (some d) ∨ (l[i]? = some (some (.ref p)) ∧ d = c)
instance FzS.nil {p : Addr} {c : D} : FzS [] p c [] := ⟨rfl, fun i d h => .inl h⟩
instance FzS.skip {l l' : List (Option D)} {p : Addr} {c : D} {x : Option D} [h : FzS l p c l'] : FzS (x :: l) p c (x :: l') := ⟨by rw [List.length_cons, List.length_cons, h.len], fun i d e => by
  cases i with
  | zero => exact .inl e
  | succ i => exact h.at_ i d e⟩
instance FzS.turn {l l' : List (Option D)} {p : Addr} {c : D} [h : FzS l p c l'] : FzS (some (.ref p) :: l) p c (some c :: l') := ⟨by rw [List.length_cons, List.length_cons, h.len], fun i d e => by
  cases i with
  | zero =>
    have e' : (some (some c) : Option (Option D)) = some (some d) := e
    cases e'
    exact .inr ⟨rfl, rfl⟩
  | succ i => exact h.at_ i d e⟩

class SeeL (M R : Mem) (d : D) (ds : outParam (List D)) : Prop where
  see : See M R d (.lst ds)
class SeeT (M R : Mem) (d : D) (ds : outParam (List D)) : Prop where
  see : See M R d (.tup ds)
class SeeK (M R : Mem) (d : D) (kvs : outParam (List (Key × D))) : Prop where
  see : See M R d (.dK kvs)
class SeeDT (M R : Mem) (d : D) (kvs : outParam (List (List Key × D))) : Prop where
  see : See M R d (.dT kvs)
section
variable {M R : Mem} {d : D} {p : Addr} {k : Nat}
instance SeeL.self {ds : List D} : SeeL M R (.lst ds) ds := ⟨.self _⟩
instance SeeL.rd {ds : List D} [h : At R p (.lst ds) k] : SeeL M R (.ref p) ds := ⟨.rd (List.mem_of_getElem? h.e)⟩
instance SeeL.own {ds : List D} [h : At M p (.lst ds) k] : SeeL M R (.ref p) ds := ⟨.own (List.mem_of_getElem? h.e)⟩
instance SeeT.rd {ds : List D} [h : At R p (.tup ds) k] : SeeT M R (.ref p) ds := ⟨.rd (List.mem_of_getElem? h.e)⟩
instance SeeT.self {ds : List D} : SeeT M R (.tup ds) ds := ⟨.self _⟩
instance SeeK.self {ds : List (Key × D)} : SeeK M R (.dK ds) ds := ⟨.self _⟩
instance SeeK.rd {ds : List (Key × D)} [h : At R p (.dK ds) k] : SeeK M R (.ref p) ds := ⟨.rd (List.mem_of_getElem? h.e)⟩
instance SeeK.own {ds : List (Key × D)} [h : At M p (.dK ds) k] : SeeK M R (.ref p) ds := ⟨.own (List.mem_of_getElem? h.e)⟩
instance SeeDT.self {ds : List (List Key × D)} : SeeDT M R (.dT ds) ds := ⟨.self _⟩
instance SeeDT.rd {ds : List (List Key × D)} [h : At R p (.dT ds) k] : SeeDT M R (.ref p) ds := ⟨.rd (List.mem_of_getElem? h.e)⟩
instance SeeDT.own {ds : List (List Key × D)} [h : At M p (.dT ds) k] : SeeDT M R (.ref p) ds := ⟨.own (List.mem_of_getElem? h.e)⟩
instance (priority := low) SeeL.any' {ds : List D} [h : SeeL [] R d ds] : SeeL M R d ds := ⟨h.see.any⟩
instance (priority := low) SeeT.any' {ds : List D} [h : SeeT [] R d ds] : SeeT M R d ds := ⟨h.see.any⟩
instance (priority := low) SeeK.any' {ds : List (Key × D)} [h : SeeK [] R d ds] : SeeK M R d ds := ⟨h.see.any⟩
instance (priority := low) SeeDT.any' {ds : List (List Key × D)} [h : SeeDT [] R d ds] : SeeDT M R d ds := ⟨h.see.any⟩
theorem see_wk {q : Addr × D} {d c : D} (h : See [] R d c) : See [] (q :: R) d c := by
  cases h with
  | self => exact .self _
  | own h => cases h
  | rd h => exact .rd (List.mem_cons_of_mem _ h)
instance (priority := low) SeeL.wk {q : Addr × D} {ds : List D} [h : SeeL [] R d ds] : SeeL [] (q :: R) d ds := ⟨see_wk h.see⟩
instance (priority := low) SeeT.wk {q : Addr × D} {ds : List D} [h : SeeT [] R d ds] : SeeT [] (q :: R) d ds := ⟨see_wk h.see⟩
instance (priority := low) SeeK.wk {q : Addr × D} {ds : List (Key × D)} [h : SeeK [] R d ds] : SeeK [] (q :: R) d ds := ⟨see_wk h.see⟩
instance (priority := low) SeeDT.wk {q : Addr × D} {ds : List (List Key × D)} [h : SeeDT [] R d ds] : SeeDT [] (q :: R) d ds := ⟨see_wk h.see⟩
theorem SeeL.any {ds : List D} (h : SeeL [] R d ds) : SeeL M R d ds := ⟨h.see.any⟩
theorem SeeT.any {ds : List D} (h : SeeT [] R d ds) : SeeT M R d ds := ⟨h.see.any⟩
theorem SeeK.any {ds : List (Key × D)} (h : SeeK [] R d ds) : SeeK M R d ds := ⟨h.see.any⟩
theorem SeeDT.any {ds : List (List Key × D)} (h : SeeDT [] R d ds) : SeeDT M R d ds := ⟨h.see.any⟩
end
/-- a sequence: a list or a tuple -/
class SeeQ (M R : Mem) (d : D) (ds : outParam (List D)) : Prop where
  see : See M R d (.lst ds) ∨ See M R d (.tup ds)
instance SeeQ.l {M R : Mem} {d : D} {ds : List D} [h : SeeL M R d ds] : SeeQ M R d ds := ⟨.inl h.see⟩
instance SeeQ.t {M R : Mem} {d : D} {ds : List D} [h : SeeT M R d ds] : SeeQ M R d ds := ⟨.inr h.see⟩

section
variable {X : Cx} {F : Fr} {Γ : DL.Env} {Q : D → DL.Env → Prop} {sl sl' : List (Option D)} {M M' R : Mem}

/-! ### targets and statements -/
/-- a slot is set -/
def Put (i : Nat) (d : D) (Γ : DL.Env) (q : DL.Env → Prop) : Prop := q ⟨Γ.sl.set i (some d), Γ.M, Γ.R⟩
theorem put_go {i : Nat} {d : D} {q : DL.Env → Prop} [h : SetS sl i (some d) sl'] (h2 : q ⟨sl', M, R⟩) : Put i d ⟨sl, M, R⟩ q := by
  show q ⟨sl.set i (some d), M, R⟩
  rw [← h.e]; exact h2
theorem wg_name {i : Nat} {x : Str} {pos : Pos} {d : D} {QG : DL.Env → Prop} (hX : Std X) (n : StoreAt X i x) (q : Put i d Γ QG) : WG X F (.Name x pos) d Γ QG := fun G σ H v hh r K hK =>
  tUG_of (pg_name hX.nd n.hN n.loc n.fn) (hK _ G _ H q (Same.refl G) (hh.setSl r i))
theorem wgs_nil {QG : DL.Env → Prop} (q : QG Γ) : WGs X F [] [] Γ QG := fun G σ H vs hh r K hK => by
  rw [r.nil_inv]
  exact tUGs_of pgs_nil ⟨rfl, hK Γ G σ H q (Same.refl G) hh⟩
theorem wgs_cons {e : Expr} {es : List Expr} {d : D} {ds : List D} {QG : DL.Env → Prop} (hs : (assignEach (e :: es) X.env).map (·.2) = assign e X.env :: (assignEach es X.env).map (·.2)) (h : WG X F e d Γ fun Γ1 => WGs X F es ds Γ1 QG) : WGs X F (e :: es) (d :: ds) Γ QG := fun G σ H vs hh r K hK => by
  obtain ⟨v, vr, rfl, ra, rb⟩ := r.cons_inv
  refine tUGs_of (pgs_cons pg_U pgs_U hs) ⟨v, vr, rfl, h G σ H v hh ra _ fun Γ' G' σ' H' q s h' => q G' σ' H' vr h' (rb.mono s) K (hK.later s)⟩
theorem wg_tup {es : List Expr} {k : Nat} {pos : Pos} {d : D} {ds : List D} {QG : DL.Env → Prop} (hX : Std X) [s : SeeT M R d ds] (hn : (assignEach es X.env).length = ds.length) (hst : (assignEach es X.env).findIdx? (·.1) = none) (h : WGs X F es ds ⟨sl, M, R⟩ QG) : WG X F (.Tuple es k pos) d ⟨sl, M, R⟩ QG := fun G σ H v hh r K hK => by
  obtain ⟨p, vs, rfl, hS, hr⟩ := hh.seeT (K := X.K) r s.see
  exact tUG_of (pg_tup hX.calm pgs_U hn hst) ⟨p, vs, rfl, hS, hr.1, h G σ H vs hh hr K hK⟩
theorem wss_nil {O : Out} (q : O.nx Γ) : WSs X F [] Γ O := fun G σ H hh E hE => tUSs_of pss_nil (hE.nx Γ G σ H q (Same.refl G) hh)
theorem wss_cons {st : Stmt} {rest : List Stmt} {O : Out} (h : WS X F st Γ { O with nx := fun Γ1 => WSs X F rest Γ1 O }) : WSs X F (st :: rest) Γ O := fun G σ H hh E hE =>
  tUSs_of (pss_cons ps_U pss_U) (h G σ H hh _ ⟨fun Γ1 G1 σ1 H1 q s h1 => q G1 σ1 H1 h1 E (hE.later s), hE.rt, hE.bk, hE.ct⟩)
/-- a word between: what follows is shown once -/
theorem wss_cut {st : Stmt} {rest : List Stmt} {O : Out} (Mid : DL.Env → Prop) (h : WS X F st Γ { O with nx := Mid }) (h2 : ∀ Γ1, Mid Γ1 → WSs X F rest Γ1 O) : WSs X F (st :: rest) Γ O := fun G σ H hh E hE =>
  tUSs_of (pss_cons ps_U pss_U) (h G σ H hh _ ⟨fun Γ1 G1 σ1 H1 q s h1 => h2 _ q G1 σ1 H1 h1 E (hE.later s), hE.rt, hE.bk, hE.ct⟩)
theorem ws_mono {st : Stmt} {O O' : Out} (h : WS X F st Γ O) (h1 : ∀ Γ, O.nx Γ → O'.nx Γ) (h2 : ∀ d Γ, O.rt d Γ → O'.rt d Γ) (h3 : ∀ Γ, O.bk Γ → O'.bk Γ) (h4 : ∀ Γ, O.ct Γ → O'.ct Γ) : WS X F st Γ O' := fun G σ H hh E hE =>
  h G σ H hh E ⟨fun Γ' G' σ' H' q => hE.nx Γ' G' σ' H' (h1 _ q), fun d Γ' G' σ' v H' q => hE.rt d Γ' G' σ' v H' (h2 _ _ q), fun Γ' G' σ' H' q => hE.bk Γ' G' σ' H' (h3 _ q), fun Γ' G' σ' H' q => hE.ct Γ' G' σ' H' (h4 _ q)⟩
theorem wss_mono {st : List Stmt} {O O' : Out} (h : WSs X F st Γ O) (h1 : ∀ Γ, O.nx Γ → O'.nx Γ) (h2 : ∀ d Γ, O.rt d Γ → O'.rt d Γ) (h3 : ∀ Γ, O.bk Γ → O'.bk Γ) (h4 : ∀ Γ, O.ct Γ → O'.ct Γ) : WSs X F st Γ O' := fun G σ H hh E hE =>
  h G σ H hh E ⟨fun Γ' G' σ' H' q => hE.nx Γ' G' σ' H' (h1 _ q), fun d Γ' G' σ' v H' q => hE.rt d Γ' G' σ' v H' (h2 _ _ q), fun Γ' G' σ' H' q => hE.bk Γ' G' σ' H' (h3 _ q), fun Γ' G' σ' H' q => hE.ct Γ' G' σ' H' (h4 _ q)⟩
theorem ws_asg {tg e : Expr} {pos : Pos} {O : Out} (hs : swapsWithSole [tg] e pos.line X.env = pure false) (hw : swappedStores [tg] e X.env = pure none) (h1 : (assignEach [tg] X.env).map (·.2) = [assign tg X.env]) (h : WE X F e Γ fun d Γ1 => WG X F tg d Γ1 O.nx) : WS X F (.Assign [tg] e pos) Γ O := fun G σ H hh E hE =>
  tUS_of (ps_asg pe_U pg_U hs hw h1) (h G σ H hh _ fun d Γ1 G1 v H1 q s h1 r => q G1 σ H1 v h1 r _ (hE.nx.later s))
/-- x = e -/
theorem ws_set {i : Nat} {x : Str} {e : Expr} {pos pos' : Pos} {O : Out} (hX : Std X) (n : StoreAt X i x) (hs : swapsWith e (some (.Name x pos')) pos.line X.env = pure false)
    (h : WE X F e Γ fun d Γ1 => Put i d Γ1 O.nx) : WS X F (.Assign [.Name x pos'] e pos) Γ O := fun G σ H hh E hE =>
  tUS_of (ps_set hX.nd n.hN n.loc pe_U hs n.fn) (h G σ H hh _ fun d Γ1 G1 v H1 q s h1 r => hE.nx _ G1 _ H1 q s (h1.setSl r i))
theorem ws_expr {e : Expr} {pos : Pos} {O : Out} (hs : swapsWith e none pos.line X.env = pure false) (h : WE X F e Γ fun _ Γ1 => O.nx Γ1) : WS X F (.Expr e pos) Γ O := fun G σ H hh E hE =>
  tUS_of (ps_expr pe_U hs) (h G σ H hh _ fun d Γ1 G1 v H1 q s h1 r => hE.nx Γ1 G1 σ H1 q s h1)
theorem ws_ret {e : Expr} {pos : Pos} {O : Out} (h : WE X F e Γ O.rt) : WS X F (.Return (some e) pos) Γ O := fun G σ H hh E hE =>
  tUS_of (ps_ret pe_U) (h G σ H hh _ fun d Γ1 G1 v H1 q s h1 r => hE.rt d Γ1 G1 σ v H1 q s h1 r)
theorem ws_retN {pos : Pos} {O : Out} (q : O.rt .non Γ) : WS X F (.Return none pos) Γ O := fun G σ H hh E hE => tUS_of ps_retN (hE.rt .non Γ G σ .non H q (Same.refl G) hh .non)
theorem ws_pass {pos : Pos} {O : Out} (q : O.nx Γ) : WS X F (.Pass pos) Γ O := fun G σ H hh E hE => tUS_of ps_pass (hE.nx Γ G σ H q (Same.refl G) hh)
theorem ws_break {pos : Pos} {O : Out} (q : O.bk Γ) : WS X F (.Break pos) Γ O := fun G σ H hh E hE => tUS_of ps_break (hE.bk Γ G σ H q (Same.refl G) hh)
theorem ws_continue {pos : Pos} {O : Out} (q : O.ct Γ) : WS X F (.Continue pos) Γ O := fun G σ H hh E hE => tUS_of ps_continue (hE.ct Γ G σ H q (Same.refl G) hh)
theorem ws_if {c : Expr} {a b : List Stmt} {pos : Pos} {O : Out} (h : WT X F c Γ fun k Γ1 => (k = true → WSs X F a Γ1 O) ∧ (k = false → WSs X F b Γ1 O)) : WS X F (.If c a b pos) Γ O := fun G σ H hh E hE =>
  tUS_of (ps_if pt_U pss_U pss_U) (h G σ H hh _ fun k Γ1 G1 H1 q s h1 => by
    cases k with
    | true => exact q.1 rfl G1 σ H1 h1 E (hE.later s)
    | false => exact q.2 rfl G1 σ H1 h1 E (hE.later s))
/-- a while: the word by a measure -/
theorem ws_while {c : Expr} {body : List Stmt} {pos : Pos} {O : Out} (hX : Std X) (W : Nat → DL.Env → Prop) (h0 : ∃ m, W m Γ)
    (hs : ∀ m Γ1, W m Γ1 → WT X F c Γ1 fun k Γ2 => (k = true → WSs X F body Γ2 { nx := fun Γ3 => ∃ m', m' < m ∧ W m' Γ3, rt := O.rt, bk := O.nx, ct := fun Γ3 => ∃ m', m' < m ∧ W m' Γ3 }) ∧ (k = false → O.nx Γ2)) : WS X F (.While c body [] pos) Γ O := fun G σ H hh E hE => by
  refine tUS_of (ps_while hX.own pt_U pss_U) ?_
  obtain ⟨m0, w0⟩ := h0
  refine ⟨fun m σ1 H1 => ∃ Γ1 G1, Same G G1 ∧ Holds F G1 Γ1 σ1 H1 ∧ W m Γ1, ⟨m0, Γ, G, Same.refl G, hh, w0⟩, fun m σ1 H1 hW => ?_⟩
  obtain ⟨Γ1, G1, s1, h1, w1⟩ := hW
  refine hs m Γ1 w1 G1 σ1 H1 h1 _ fun k Γ2 G2 H2 q s2 h2 => ?_
  cases k with
  | false => exact hE.nx Γ2 G2 σ1 H2 (q.2 rfl) (s1.trans s2) h2
  | true =>
    refine ⟨fun σ3 H3 => ∃ m', m' < m ∧ ∃ Γ3 G3, Same G G3 ∧ Holds F G3 Γ3 σ3 H3 ∧ W m' Γ3, fun σ3 H3 hN => hN, q.1 rfl G2 σ1 H2 h2 _ ⟨?_, ?_, ?_, ?_⟩⟩
    · exact fun Γ3 G3 σ3 H3 ⟨m', hm, w⟩ s3 h3 => ⟨m', hm, Γ3, G3, (s1.trans s2).trans s3, h3, w⟩
    · exact fun d Γ3 G3 σ3 v H3 q3 s3 h3 r3 => hE.rt d Γ3 G3 σ3 v H3 q3 ((s1.trans s2).trans s3) h3 r3
    · exact fun Γ3 G3 σ3 H3 q3 s3 h3 => hE.nx Γ3 G3 σ3 H3 q3 ((s1.trans s2).trans s3) h3
    · exact fun Γ3 G3 σ3 H3 ⟨m', hm, w⟩ s3 h3 => ⟨m', hm, Γ3, G3, (s1.trans s2).trans s3, h3, w⟩

/-! ### what is walked -/
def ItSem (F : Fr) (G1 : Hp) (J : It) (items : List D) (stand : DL.Env → Prop) : Prop :=
  ∀ Γ' G' σ' H', Same G1 G' → Holds F G' Γ' σ' H' → stand Γ' → J.stop items.length H' ∧ ∀ (i : Nat) x, items[i]? = some x → J.go i H' ∧ ∀ v H'', J.yld i H' v H'' → ∃ G'', Same G' G'' ∧ Holds F G'' Γ' σ' H'' ∧ Rep G'' v x
def GoodI (F : Fr) (K : List D → (DL.Env → Prop) → DL.Env → Prop) (G : Hp) (σ : L2.St) (R : It → Hp → Prop) : Prop :=
  ∀ items stand Γ1 G1 H1 J, K items stand Γ1 → Same G G1 → Holds F G1 Γ1 σ H1 → ItSem F G1 J items stand → R J H1
def WI (X : Cx) (F : Fr) (tg iter : Expr) (Γ : DL.Env) (K : List D → (DL.Env → Prop) → DL.Env → Prop) : Prop := ∀ G σ H, Holds F G Γ σ H → ∀ R, GoodI F K G σ R → ∀ (pins : List (Addr × Obj)) (s : Shared), Inv X pins σ H s →
  wpAny (model X.prog X.w) X.A (eval iter X.env) (fun v s1 => wpAny (model X.prog X.w) X.A (pyIter v) (PIE X pins σ tg R) X.xe s1) X.xe s
def WIV (X : Cx) (F : Fr) (tg : Expr) (d : D) (Γ : DL.Env) (K : List D → (DL.Env → Prop) → DL.Env → Prop) : Prop := ∀ G σ H x, Holds F G Γ σ H → Rep G x d → ∀ R, GoodI F K G σ R → ∀ (pins : List (Addr × Obj)) (s : Shared) (v : Value), Inv X pins σ H s → RelV x v →
  wpAny (model X.prog X.w) X.A (pyIter v) (PIE X pins σ tg R) X.xe s
def tUI (X : Cx) (tg iter : Expr) : TI := fun σ H R => ∀ (pins : List (Addr × Obj)) (s : Shared), Inv X pins σ H s → wpAny (model X.prog X.w) X.A (eval iter X.env) (fun v s1 => wpAny (model X.prog X.w) X.A (pyIter v) (PIE X pins σ tg R) X.xe s1) X.xe s
theorem pi_U {tg iter : Expr} : PI X tg iter (tUI X tg iter) := ⟨fun pins s _ _ _ I h => h pins s I⟩
variable {K : List D → (DL.Env → Prop) → DL.Env → Prop} {tg iter : Expr}
theorem wi_val (h : WE X F iter Γ fun d Γ1 => WIV X F tg d Γ1 K) : WI X F tg iter Γ K := fun G σ H hh R hR pins s I => by
  refine thn (pe_U.run pins s σ H (fun x H1 => ∀ (pins : List (Addr × Obj)) (s : Shared) (v : Value), Inv X pins σ H1 s → RelV x v → wpAny (model X.prog X.w) X.A (pyIter v) (PIE X pins σ tg R) X.xe s) I ?_) fun v s1 ⟨x, H1, I1, r1, q1⟩ => q1 pins s1 v I1 r1
  exact h G σ H hh _ fun d Γ1 G1 v1 H1 q s1 h1 r1 => q G1 σ H1 v1 h1 r1 R fun items stand Γ2 G2 H2 J k s2 => hR items stand Γ2 G2 H2 J k (s1.trans s2)
theorem wiv_list {d : D} {ds : List D} [sd : SeeL M R d ds] (h : K ds (fun Γ' => See Γ'.M Γ'.R d (.lst ds)) ⟨sl, M, R⟩) : WIV X F tg d ⟨sl, M, R⟩ K := fun G σ H x hh r Q hQ pins s v I rv => by
  obtain ⟨p, vs, rfl, hS, hr⟩ := hh.seeL (K := X.K) r sd.see
  cases rv
  obtain ⟨its, rvs, pr, hz⟩ := I.list hS
  refine wpAny_pyIter_list pr.isList ?_
  refine ⟨s.heap.objs.size, [s.heap.objs.size], _, _, H, rfl, I.kept (t' := s.toks) fun b o e => Heap.get?_push_of_some _ e, turn_list p _, ⟨_, Heap.get?_push_size _ rfl, rfl, rfl⟩, fun b hb => ?_, hQ ds _ _ G H _ h (Same.refl G) hh ?_⟩
  · have e : b = s.heap.objs.size := by simpa using hb
    subst e
    exact I.fpOk (Nat.le_refl _) (I.hok.fresh (Nat.le_refl _))
  · intro Γ' G' σ' H' sg h' st
    obtain ⟨p', vs', e', hS', hr'⟩ := h'.seeL (K := X.K) (r.mono sg) st
    cases e'
    refine ⟨⟨vs', hS', by rw [hr'.1]; exact Nat.le_refl _⟩, fun i y hy => ?_⟩
    obtain ⟨w, hw, rw'⟩ := hr'.get hy
    exact ⟨⟨vs', w, hS', hw⟩, fun u H'' ⟨e1, e2⟩ => ⟨G', Same.refl G', by rw [e1]; exact h', by
      have := e2 vs' hS'
      rw [hw] at this; cases this; exact rw'⟩⟩
theorem wiv_tup {d : D} {ds : List D} [sd : SeeT M R d ds] (h : K ds (fun Γ' => See Γ'.M Γ'.R d (.tup ds)) ⟨sl, M, R⟩) : WIV X F tg d ⟨sl, M, R⟩ K := fun G σ H x hh r Q hQ pins s v I rv => by
  obtain ⟨p, vs, rfl, hS, hr⟩ := hh.seeT (K := X.K) r sd.see
  cases rv
  have hp := (pi_tup (tg := tg) (X := X) (l := .Constant .none 0 ⟨0, 0, 0, 0⟩) (tl := fun σ' H' Q' => False) ⟨fun _ _ _ _ _ _ z => z.elim⟩)
  obtain ⟨its, rvs, pr, hz⟩ := I.tuple hS
  refine wpAny_pyIter_tuple pr ?_
  refine ⟨s.heap.objs.size, [s.heap.objs.size], _, _, H, rfl, I.kept (t' := s.toks) fun b o e => Heap.get?_push_of_some _ e, turn_tuple p _, ⟨_, Heap.get?_push_size _ rfl, rfl, rfl⟩, fun b hb => ?_, hQ ds _ _ G H _ h (Same.refl G) hh ?_⟩
  · have e : b = s.heap.objs.size := by simpa using hb
    subst e
    exact I.fpOk (Nat.le_refl _) (I.hok.fresh (Nat.le_refl _))
  · intro Γ' G' σ' H' sg h' st
    obtain ⟨p', vs', e', hS', hr'⟩ := h'.seeT (K := X.K) (r.mono sg) st
    cases e'
    refine ⟨⟨vs', hS', by rw [hr'.1]; exact Nat.le_refl _⟩, fun i y hy => ?_⟩
    obtain ⟨w, hw, rw'⟩ := hr'.get hy
    exact ⟨⟨vs', w, hS', hw⟩, fun u H'' ⟨e1, e2⟩ => ⟨G', Same.refl G', by rw [e1]; exact h', by
      have := e2 vs' hS'
      rw [hw] at this; cases this; exact rw'⟩⟩
/-- the ints lo, lo + 1, .. (n of them) -/
def rngD (lo : Int) (n : Nat) : List D := (List.range n).map fun (i : Nat) => D.int (lo + (i : Int))
theorem rngD_len {lo : Int} {n : Nat} : (rngD lo n).length = n := by unfold rngD; rw [List.length_map, List.length_range]
theorem rngD_at {lo : Int} {n i : Nat} {x : D} (h : (rngD lo n)[i]? = some x) : i < n ∧ x = .int (lo + (i : Int)) := by
  unfold rngD at h
  rw [List.getElem?_map] at h
  obtain ⟨y, e, rfl⟩ := Option.map_eq_some_iff.mp h
  obtain ⟨hy, e2⟩ := List.getElem?_eq_some_iff.mp e
  rw [List.length_range] at hy
  rw [List.getElem_range] at e2
  subst e2
  exact ⟨hy, rfl⟩
theorem itSem_range {G1 : Hp} {lo : Int} {n : Nat} : ItSem F G1 (Itr lo n) (rngD lo n) fun _ => True := by
  intro Γ' G' σ' H' sg h' _
  refine ⟨by rw [rngD_len]; exact Nat.le_refl _, fun i x hx => ?_⟩
  obtain ⟨hi, rfl⟩ := rngD_at hx
  exact ⟨hi, fun v H'' ⟨e1, e2⟩ => ⟨G', Same.refl G', by rw [e1]; exact h', by rw [e2]; exact .int _⟩⟩
theorem wi_range1 {a : Expr} {p pos : Pos} (hg : Gl X "range") (hm : X.mg "range" = none) (hs : starEach [a] X.env = [(false, eval a X.env)])
    (h : WE X F a Γ fun d Γ1 => ∃ j : Int, d = .int j ∧ (-(2 ^ 62) ≤ j ∧ j < 2 ^ 62) ∧ K (rngD 0 j.toNat) (fun _ => True) Γ1) : WI X F tg (.Call (.Name "range" p) [a] [] pos) Γ K := fun G σ H hh R hR pins s I => by
  refine (pi_range1 (tg := tg) hg hm (pa_cons pe_U pa_nil (by rw [hs]; rfl)) hs).run pins s σ H R I ?_
  refine h G σ H hh _ fun d Γ1 G1 v H1 q s1 h1 r => ?_
  obtain ⟨j, rfl, ⟨b1, b2⟩, k⟩ := q
  rw [r.int_inv]
  exact ⟨j, rfl, b1, b2, hR _ _ Γ1 G1 H1 _ k s1 h1 itSem_range⟩
theorem wi_range2 {a b : Expr} {p pos : Pos} (hg : Gl X "range") (hm : X.mg "range" = none) (hs : starEach [a, b] X.env = [(false, eval a X.env), (false, eval b X.env)]) (hs2 : starEach [b] X.env = [(false, eval b X.env)])
    (h : WE X F a Γ fun d Γ1 => ∃ i : Int, d = .int i ∧ WE X F b Γ1 fun e Γ2 => ∃ j : Int, e = .int j ∧ (-(2 ^ 62) ≤ i ∧ i < 2 ^ 62 ∧ -(2 ^ 62) ≤ j ∧ j < 2 ^ 62) ∧ K (rngD i (j - i).toNat) (fun _ => True) Γ2) :
    WI X F tg (.Call (.Name "range" p) [a, b] [] pos) Γ K := fun G σ H hh R hR pins s I => by
  refine (pi_range2 (tg := tg) hg hm (pa_cons pe_U (pa_cons pe_U pa_nil (by rw [hs2]; rfl)) (by rw [hs, hs2])) hs hs2).run pins s σ H R I ?_
  refine h G σ H hh _ fun d Γ1 G1 v H1 q s1 h1 r => ?_
  obtain ⟨i, rfl, q⟩ := q
  refine q G1 σ H1 h1 _ fun e Γ2 G2 u H2 q2 s2 h2 r2 => ?_
  obtain ⟨j, rfl, b1, k⟩ := q2
  rw [r.int_inv, r2.int_inv]
  exact ⟨i, j, rfl, b1, hR _ _ Γ2 G2 H2 _ k (s1.trans s2) h2 itSem_range⟩
/-- a for: the word by the turn -/
theorem ws_for {body : List Stmt} {pos : Pos} {O : Out} (hX : Std X) (hs : ∀ x, foldedSetIterable iter X.env x = pure x)
    (h : WI X F tg iter Γ fun items stand Γ1 => ∃ W : Nat → DL.Env → Prop, W 0 Γ1 ∧ (∀ i Γ', W i Γ' → stand Γ') ∧
      (∀ (i : Nat) x Γ', items[i]? = some x → W i Γ' → WG X F tg x Γ' fun Γ2 => WSs X F body Γ2 { nx := W (i + 1), rt := O.rt, bk := O.nx, ct := W (i + 1) }) ∧ ∀ Γ', W items.length Γ' → O.nx Γ') : WS X F (.For tg iter body [] pos) Γ O := fun G σ H hh E hE => by
  refine tUS_of (ps_for (g := tUG X tg) (tb := tUSs X body) (wi := tUI X tg iter) hX.own hX.calm pi_U pg_U pss_U hs) ?_
  refine h G σ H hh _ fun items stand Γ1 G1 H1 J q s1 h1 js => ?_
  obtain ⟨W, w0, wst, turn, done⟩ := q
  refine ⟨fun i m σ' H' => i + m = items.length ∧ ∃ Γ' G', Same G1 G' ∧ Holds F G' Γ' σ' H' ∧ W i Γ', ⟨items.length, by omega, Γ1, G1, Same.refl _, h1, w0⟩, fun i m σ' H' hW => ?_⟩
  obtain ⟨em, Γ', G', sg, h', w⟩ := hW
  obtain ⟨stop, go⟩ := js Γ' G' σ' H' sg h' (wst i Γ' w)
  by_cases hi : i < items.length
  · obtain ⟨g1, g2⟩ := go i items[i] (List.getElem?_eq_getElem hi)
    refine .inr ⟨g1, fun σ3 H3 => ∃ Γ3 G3, Same G1 G3 ∧ Holds F G3 Γ3 σ3 H3 ∧ W (i + 1) Γ3, fun σ3 H3 ⟨Γ3, G3, a, b, c⟩ => ⟨m - 1, by omega, by omega, Γ3, G3, a, b, c⟩, fun v H'' y => ?_⟩
    obtain ⟨G2, s2, h2, r2⟩ := g2 v H'' y
    refine turn i _ Γ' (List.getElem?_eq_getElem hi) w G2 σ' H'' v h2 r2 _ fun Γ2 G3 σ2 H2 q2 s3 h3 => ?_
    refine q2 G3 σ2 H2 h3 _ ⟨?_, ?_, ?_, ?_⟩
    · exact fun Γ4 G4 σ4 H4 q4 s4 h4 => ⟨Γ4, G4, ((sg.trans s2).trans s3).trans s4, h4, q4⟩
    · exact fun d Γ4 G4 σ4 v4 H4 q4 s4 h4 r4 => hE.rt d Γ4 G4 σ4 v4 H4 q4 ((((s1.trans sg).trans s2).trans s3).trans s4) h4 r4
    · exact fun Γ4 G4 σ4 H4 q4 s4 h4 => hE.nx Γ4 G4 σ4 H4 q4 ((((s1.trans sg).trans s2).trans s3).trans s4) h4
    · exact fun Γ4 G4 σ4 H4 q4 s4 h4 => ⟨Γ4, G4, ((sg.trans s2).trans s3).trans s4, h4, q4⟩
  · have ei : i = items.length := by omega
    subst ei
    exact .inl ⟨stop, hE.nx Γ' G' σ' H' (done Γ' w) (s1.trans sg) h'⟩
end
end DL

/-! The D layer, part 4: sharing, defs and their calls, subscripts, built-ins. -/
namespace DL
open PySem PySem.Spec PyProof.Rows L2

section
variable {X : Cx} {F : Fr} {Γ : DL.Env} {Q : D → DL.Env → Prop} {sl sl' : List (Option D)} {M M' R : Mem}

/-! ### an owned list becomes a shared one -/
def Fz (F : Fr) (d : D) (Γ : DL.Env) (Q : D → DL.Env → Prop) : Prop := ∀ G σ H v, Holds F G Γ σ H → Rep G v d → ∃ Γ' G' d', Q d' Γ' ∧ Same G G' ∧ Holds F G' Γ' σ H ∧ Rep G' v d'
theorem fz_id {d : D} (q : Q d Γ) : Fz F d Γ Q := fun G σ H v hh r => ⟨Γ, G, d, q, Same.refl G, hh, r⟩
theorem fz_lst {p : Addr} {ds : List D} {k : Nat} [h : At M p (.lst ds) k] [h2 : DelM M k M'] [h3 : FzS sl p (.lst ds) sl'] (q : Q (.lst ds) ⟨sl', M', R⟩) : Fz F (.ref p) ⟨sl, M, R⟩ Q := fun G σ H v hh r => by
  obtain ⟨G', sg, rp, h'⟩ := hh.freeze h.e (.inl ⟨_, rfl⟩) sl' h3.len h3.at_
  rw [r.ref_inv]
  refine ⟨_, G', _, q, sg, ?_, rp⟩
  rw [h2.e]; exact h'
theorem fz_tup {p : Addr} {ds : List D} {k : Nat} [h : At M p (.tup ds) k] [h2 : DelM M k M'] [h3 : FzS sl p (.tup ds) sl'] (q : Q (.tup ds) ⟨sl', M', R⟩) : Fz F (.ref p) ⟨sl, M, R⟩ Q := fun G σ H v hh r => by
  obtain ⟨G', sg, rp, h'⟩ := hh.freeze h.e (.inr ⟨_, rfl⟩) sl' h3.len h3.at_
  rw [r.ref_inv]
  refine ⟨_, G', _, q, sg, ?_, rp⟩
  rw [h2.e]; exact h'
theorem we_fz {e : Expr} (h : WE X F e Γ fun d Γ1 => Fz F d Γ1 Q) : WE X F e Γ Q := fun G σ H hh R hR => h G σ H hh R fun d Γ1 G1 v H1 q s1 h1 r => by
  obtain ⟨Γ2, G2, d2, q2, s2, h2, r2⟩ := q G1 σ H1 v h1 r
  exact hR d2 Γ2 G2 v H1 q2 (s1.trans s2) h2 r2
/-- arguments that are to be shared -/
def WAV (X : Cx) (F : Fr) (es : List Expr) (Γ : DL.Env) (Q : List D → DL.Env → Prop) : Prop := WA X F es Γ Q
theorem wav_nil {Q : List D → DL.Env → Prop} (q : Q [] Γ) : WAV X F [] Γ Q := wa_nil q
theorem wav_cons {a : Expr} {es : List Expr} {Q : List D → DL.Env → Prop} (hs : starEach (a :: es) X.env = (false, eval a X.env) :: starEach es X.env) (h : WE X F a Γ fun d Γ1 => Fz F d Γ1 fun d Γ1 => WAV X F es Γ1 fun ds Γ2 => Q (d :: ds) Γ2) : WAV X F (a :: es) Γ Q := wa_cons hs (we_fz h)
theorem we_tupV {es : List Expr} {k : Nat} {pos : Pos} (h : WAV X F es Γ fun ds Γ1 => ds.length ≤ sizeLine ∧ Q (.tup ds) Γ1) : WE X F (.Tuple es k pos) Γ Q := we_tup h
theorem we_lstV {es : List Expr} {pos : Pos} (h : WAV X F es Γ fun ds Γ1 => ds.length ≤ sizeLine ∧ ∀ p, Q (.ref p) ⟨Γ1.sl, (p, .lst ds) :: Γ1.M, Γ1.R⟩) : WE X F (.List es pos) Γ Q := we_lst h

/-! ### subscripts -/
def WX (X : Cx) (F : Fr) (a b : Expr) (d1 d2 : D) (Γ : DL.Env) (Q : D → DL.Env → Prop) : Prop :=
  ∀ G σ H x y, Holds F G Γ σ H → Rep G x d1 → Rep G y d2 → ∀ R, Good F Q G σ R → ∀ (pins : List (Addr × Obj)) (s : Shared) (v u : Value), Inv X pins σ H s → RelV x v → RelV y u → subscripted b false v u = operate [v, u] (getItem v u) →
    wpAny (model X.prog X.w) X.A (subscriptTail a b v u) (EP X pins σ R) X.xe s
theorem we_ix {a b : Expr} {pos : Pos} (hs : PlainIx b) (h : WE X F a Γ fun d1 Γ1 => WE X F b Γ1 fun d2 Γ2 => WX X F a b d1 d2 Γ2 Q) : WE X F (.Subscript a b pos) Γ Q := by
  intro G σ H hh R hR pins s I
  refine Subscript_ (binT (R := fun x y H2 => ∀ (pins : List (Addr × Obj)) (s : Shared) (v u : Value), Inv X pins σ H2 s → RelV x v → RelV y u → subscripted b false v u = operate [v, u] (getItem v u) → wpAny (model X.prog X.w) X.A (subscriptTail a b v u) (EP X pins σ R) X.xe s)
    pe_U pe_U I ?_ fun v u s2 x y H2 I2 rx ry q => q _ _ _ _ I2 rx ry (hs _ _))
  refine h G σ H hh _ fun d1 Γ1 G1 v1 H1 q1 s1 h1 r1 => ?_
  refine q1 G1 σ H1 h1 _ fun d2 Γ2 G2 v2 H2 q2 s2 h2 r2 => ?_
  exact q2 G2 σ H2 v1 v2 h2 (r1.mono s2) r2 R (hR.later (s1.trans s2))
variable {ea eb : Expr}
theorem atI_rep {G : Hp} {vs : List V} {ds : List D} (r : Reps G vs ds) {i : Int} {x : D} (h : atI ds i = some x) : ∃ v, atI vs i = some v ∧ Rep G v x := by
  unfold atI at h ⊢
  rw [r.1]
  cases e : ixN ds.length i with
  | none => rw [e] at h; cases h
  | some j =>
    rw [e] at h
    exact r.get h
theorem wx_list {d : D} {ds : List D} {i : Int} {x : D} [sd : SeeL M R d ds] (ha : atI ds i = some x) (q : Q x ⟨sl, M, R⟩) : WX X F ea eb d (.int i) ⟨sl, M, R⟩ Q := fun G σ H v1 v2 hh r1 r2 R hR pins s v u I rv ru hs => by
  obtain ⟨p, vs, rfl, hS, hr⟩ := hh.seeL (K := X.K) r1 sd.see
  obtain ⟨w, hw, rw'⟩ := atI_rep hr ha
  rw [r2.int_inv] at ru
  exact ix_list ea eb pins s σ H (.ref p) (.int i) v u R I rv ru ⟨p, vs, i, w, rfl, rfl, hS, hw, hR.here hh q rw'⟩ hs
theorem wx_tup {d : D} {ds : List D} {i : Int} {x : D} [sd : SeeT M R d ds] (ha : atI ds i = some x) (q : Q x ⟨sl, M, R⟩) : WX X F ea eb d (.int i) ⟨sl, M, R⟩ Q := fun G σ H v1 v2 hh r1 r2 R hR pins s v u I rv ru hs => by
  obtain ⟨p, vs, rfl, hS, hr⟩ := hh.seeT (K := X.K) r1 sd.see
  obtain ⟨w, hw, rw'⟩ := atI_rep hr ha
  rw [r2.int_inv] at ru
  exact ix_tup ea eb pins s σ H (.ref p) (.int i) v u R I rv ru ⟨p, vs, i, w, rfl, rfl, hS, hw, hR.here hh q rw'⟩ hs
theorem wx_str {z : Str} {i : Int} {c : Nat} (hz : z.length ≤ sizeLine) (ha : atI z.cps.toList i = some c) (q : Q (.str ⟨#[c]⟩) Γ) : WX X F ea eb (.str z) (.int i) Γ Q := fun G σ H v1 v2 hh r1 r2 R hR pins s v u I rv ru hs => by
  rw [r1.str_inv] at rv
  rw [r2.int_inv] at ru
  exact ix_str ea eb pins s σ H (.str z) (.int i) v u R I rv ru ⟨z, i, c, rfl, rfl, hz, ha, hR.here hh q (.str _)⟩ hs

/-! dicts -/
def kD : Key → D
  | .inl i => .int i
  | .inr x => .str x
theorem Rep.kD {G : Hp} (k : Key) : Rep G (kV k) (kD k) := by
  cases k with
  | inl i => exact .int i
  | inr x => exact .str x
theorem Rep.kD_inv {G : Hp} {v : V} {k : Key} (r : Rep G v (DL.kD k)) : v = kV k := by
  cases k with
  | inl i => exact r.int_inv
  | inr x => exact r.str_inv
theorem Reps.kD_inv {G : Hp} : ∀ {vs : List V} {k : List Key}, Reps G vs (k.map DL.kD) → vs = k.map kV
  | vs, [], h => h.nil_inv
  | vs, a :: k, h => by
    obtain ⟨v, vr, rfl, ra, rb⟩ := Reps.cons_inv (ds := k.map DL.kD) h
    rw [ra.kD_inv, Reps.kD_inv rb]; rfl
def lookD {κ : Type} [DecidableEq κ] (kvs : List (κ × D)) (k : κ) : Option D := (kvs.find? fun kv => decide (kv.1 = k)).map (·.2)
def putD {κ : Type} [DecidableEq κ] (kvs : List (κ × D)) (k : κ) (v : D) : List (κ × D) :=
  if (kvs.any fun kv => decide (kv.1 = k)) = true then kvs.map (fun kv => if kv.1 = k then (kv.1, v) else kv) else kvs ++ [(k, v)]
def dropD {κ : Type} [DecidableEq κ] (kvs : List (κ × D)) (k : κ) : List (κ × D) := kvs.filter fun kv => decide (kv.1 ≠ k)
section
variable {κ : Type} [DecidableEq κ]
theorem look_rep {G : Hp} (k : κ) : ∀ {kvs : List (κ × V)} {kds : List (κ × D)}, kvs.map (·.1) = kds.map (·.1) → Reps G (kvs.map (·.2)) (kds.map (·.2)) →
    (valV kvs k = none ∧ lookD kds k = none) ∨ ∃ v d, valV kvs k = some v ∧ lookD kds k = some d ∧ Rep G v d
  | [], [], _, _ => .inl ⟨rfl, rfl⟩
  | [], _ :: _, h, _ => by simp at h
  | _ :: _, [], h, _ => by simp at h
  | (a, v) :: kvs, (b, d) :: kds, h, r => by
    have h1 : a = b := by simpa using (List.cons.inj h).1
    have h2 := (List.cons.inj h).2
    subst h1
    have rh : Rep G v d := Reps.head (vs := kvs.map Prod.snd) (ds := kds.map Prod.snd) r
    have rt : Reps G (kvs.map (·.2)) (kds.map (·.2)) := Reps.tail (v := v) (d := d) r
    by_cases e : a = k
    · exact .inr ⟨v, d, by simp [valV, e], by simp [lookD, e], rh⟩
    · rcases look_rep k h2 rt with ⟨e1, e2⟩ | ⟨w, x, e1, e2, rr⟩
      · exact .inl ⟨by rw [valV_neg e]; exact e1, by unfold lookD at e2 ⊢; simp only [List.find?_cons, decide_eq_false e]; exact e2⟩
      · exact .inr ⟨w, x, by rw [valV_neg e]; exact e1, by unfold lookD at e2 ⊢; simp only [List.find?_cons, decide_eq_false e]; exact e2, rr⟩
theorem any_keys (k : κ) : ∀ {kvs : List (κ × V)} {kds : List (κ × D)}, kvs.map (·.1) = kds.map (·.1) → (kvs.any fun kv => decide (kv.1 = k)) = kds.any fun kv => decide (kv.1 = k)
  | [], [], _ => rfl
  | [], _ :: _, h => by simp at h
  | _ :: _, [], h => by simp at h
  | (a, v) :: kvs, (b, d) :: kds, h => by
    have h1 : a = b := by simpa using (List.cons.inj h).1
    rw [List.any_cons, List.any_cons, any_keys k (List.cons.inj h).2, h1]
theorem put_map_keys (k : κ) (v : V) (d : D) {G : Hp} (rv : Rep G v d) : ∀ {kvs : List (κ × V)} {kds : List (κ × D)}, kvs.map (·.1) = kds.map (·.1) → Reps G (kvs.map (·.2)) (kds.map (·.2)) →
    (kvs.map (fun kv => if kv.1 = k then (kv.1, v) else kv)).map (·.1) = (kds.map (fun kv => if kv.1 = k then (kv.1, d) else kv)).map (·.1) ∧
    Reps G ((kvs.map (fun kv => if kv.1 = k then (kv.1, v) else kv)).map (·.2)) ((kds.map (fun kv => if kv.1 = k then (kv.1, d) else kv)).map (·.2))
  | [], [], _, _ => ⟨rfl, Reps.nil⟩
  | [], _ :: _, h, _ => by simp at h
  | _ :: _, [], h, _ => by simp at h
  | (a, w) :: kvs, (b, e) :: kds, h, r => by
    have h1 : a = b := by simpa using (List.cons.inj h).1
    subst h1
    have rh : Rep G w e := Reps.head (vs := kvs.map Prod.snd) (ds := kds.map Prod.snd) r
    have rt : Reps G (kvs.map (·.2)) (kds.map (·.2)) := Reps.tail (v := w) (d := e) r
    obtain ⟨i1, i2⟩ := put_map_keys k v d rv (List.cons.inj h).2 rt
    by_cases ek : a = k
    · simp only [List.map_cons, ek, if_true]
      exact ⟨by rw [i1], Reps.cons rv i2⟩
    · simp only [List.map_cons, ek, if_false]
      exact ⟨by rw [i1], Reps.cons rh i2⟩
theorem put_rep {G : Hp} (k : κ) {v : V} {d : D} (rv : Rep G v d) {kvs : List (κ × V)} {kds : List (κ × D)} (h : kvs.map (·.1) = kds.map (·.1)) (r : Reps G (kvs.map (·.2)) (kds.map (·.2))) :
    (putK kvs k v).map (·.1) = (putD kds k d).map (·.1) ∧ Reps G ((putK kvs k v).map (·.2)) ((putD kds k d).map (·.2)) := by
  unfold putK putD
  rw [any_keys k h]
  split
  · exact put_map_keys k v d rv h r
  · rw [List.map_append, List.map_append, List.map_append, List.map_append, h]
    exact ⟨rfl, r.append (Reps.cons rv Reps.nil)⟩
end
theorem Holds.seeK {G : Hp} {σ : L2.St} {H : Hp} (h : Holds F G Γ σ H) {d : D} {kds : List (Key × D)} {v : V} (r : Rep G v d) (s : See Γ.M Γ.R d (.dK kds)) : ∃ p kvs, v = .ref p ∧ Rd H p (.dK kvs) ∧ kvs.map (·.1) = kds.map (·.1) ∧ Reps G (kvs.map (·.2)) (kds.map (·.2)) := by
  rcases h.see r s with ⟨p, o, rfl, ho, hs⟩ | ⟨rfl, r⟩
  · obtain ⟨kvs, rfl, a, b⟩ := hs.dK_inv
    exact ⟨p, kvs, rfl, ho, a, b⟩
  · cases r
theorem Holds.seeDT {G : Hp} {σ : L2.St} {H : Hp} (h : Holds F G Γ σ H) {d : D} {kds : List (List Key × D)} {v : V} (r : Rep G v d) (s : See Γ.M Γ.R d (.dT kds)) : ∃ p kvs, v = .ref p ∧ Rd H p (.dT kvs) ∧ kvs.map (·.1) = kds.map (·.1) ∧ Reps G (kvs.map (·.2)) (kds.map (·.2)) := by
  rcases h.see r s with ⟨p, o, rfl, ho, hs⟩ | ⟨rfl, r⟩
  · obtain ⟨kvs, rfl, a, b⟩ := hs.dT_inv
    exact ⟨p, kvs, rfl, ho, a, b⟩
  · cases r
theorem wx_dget (hX : Std X) {G : Hp} {σ : L2.St} {H : Hp} {R : VK} {p : Addr} {y v : V} {pins : List (Addr × Obj)} {s : Shared} {u : Value} (I : Inv X pins σ H s) (g : DGet H p y (some v)) (ru : RelV y u) (q : R v H) (hs : subscripted eb false (.ref p) u = operate [.ref p, u] (getItem (.ref p) u)) :
    wpAny (model X.prog X.w) X.A (subscriptTail ea eb (.ref p) u) (EP X pins σ R) X.xe s :=
  tail_any (dict_typeIs I g) PySem.F.slot_dict_getitem.lookup (d_getItem hX.hu1 I g ru fun w' s3 I3 rw' => ⟨v, H, I3, rw', q⟩) hs
theorem wx_dK (hX : Std X) {d : D} {kds : List (Key × D)} {k : Key} {x : D} [sd : SeeK M R d kds] (ha : lookD kds k = some x) (q : Q x ⟨sl, M, R⟩) : WX X F ea eb d (kD k) ⟨sl, M, R⟩ Q := fun G σ H v1 v2 hh r1 r2 R hR pins s v u I rv ru hs => by
  obtain ⟨p, kvs, rfl, hS, hk, hr⟩ := hh.seeK r1 sd.see
  cases rv
  rw [r2.kD_inv] at ru
  rcases look_rep k hk hr with ⟨_, e⟩ | ⟨w, x', e1, e2, rr⟩
  · rw [ha] at e; cases e
  · rw [ha] at e2; cases e2
    exact wx_dget (G := G) hX I (.inl ⟨kvs, k, hS, rfl, e1.symm⟩) ru (hR.here hh q rr) hs
theorem wx_dT (hX : Std X) {d : D} {kds : List (List Key × D)} {k : List Key} {x : D} [sd : SeeDT M R d kds] (ha : lookD kds k = some x) (q : Q x ⟨sl, M, R⟩) : WX X F ea eb d (.tup (k.map kD)) ⟨sl, M, R⟩ Q := fun G σ H v1 v2 hh r1 r2 R hR pins s v u I rv ru hs => by
  obtain ⟨p, kvs, rfl, hS, hk, hr⟩ := hh.seeDT r1 sd.see
  cases rv
  obtain ⟨b, vs, rfl, hb, hv⟩ := r2.tup_inv
  rw [hv.kD_inv] at hb
  rcases look_rep k hk hr with ⟨_, e⟩ | ⟨w, x', e1, e2, rr⟩
  · rw [ha] at e; cases e
  · rw [ha] at e2; cases e2
    exact wx_dget (G := G) hX I (.inr ⟨kvs, k, b, hS, rfl, hh.gh _ _ hb, e1.symm⟩) ru (hR.here hh q rr) hs
theorem wo_inK (hX : Std X) {neg : Bool} {d : D} {kds : List (Key × D)} {k : Key} [sd : SeeK M R d kds] (q : Q (.bl (if neg then !(lookD kds k).isSome else (lookD kds k).isSome)) ⟨sl, M, R⟩) : WO X F (compareOp (if neg then .NotIn else .In)) (kD k) d ⟨sl, M, R⟩ Q := fun G σ H y x hh r2 r1 R hR pins s u v I ru rv => by
  obtain ⟨p, kvs, rfl, hS, hk, hr⟩ := hh.seeK r1 sd.see
  cases rv
  rw [r2.kD_inv] at ru
  have e : (valV kvs k).isSome = (lookD kds k).isSome := by
    rcases look_rep k hk hr with ⟨e1, e2⟩ | ⟨w, x', e1, e2, rr⟩ <;> rw [e1, e2] <;> rfl
  rw [← e] at q
  cases neg with
  | true => exact d_notIn hX.hu1 I (.inl ⟨kvs, k, hS, rfl, rfl⟩) ru fun s' I' => ⟨.bl _, H, I', rfl, hR.here hh q (.bl _)⟩
  | false => exact d_in hX.hu1 I (.inl ⟨kvs, k, hS, rfl, rfl⟩) ru fun s' I' => ⟨.bl _, H, I', rfl, hR.here hh q (.bl _)⟩
theorem wo_inDT (hX : Std X) {neg : Bool} {d : D} {kds : List (List Key × D)} {k : List Key} [sd : SeeDT M R d kds] (q : Q (.bl (if neg then !(lookD kds k).isSome else (lookD kds k).isSome)) ⟨sl, M, R⟩) : WO X F (compareOp (if neg then .NotIn else .In)) (.tup (k.map kD)) d ⟨sl, M, R⟩ Q := fun G σ H y x hh r2 r1 R hR pins s u v I ru rv => by
  obtain ⟨p, kvs, rfl, hS, hk, hr⟩ := hh.seeDT r1 sd.see
  cases rv
  obtain ⟨b, vs, rfl, hb, hv⟩ := r2.tup_inv
  rw [hv.kD_inv] at hb
  have e : (valV kvs k).isSome = (lookD kds k).isSome := by
    rcases look_rep k hk hr with ⟨e1, e2⟩ | ⟨w, x', e1, e2, rr⟩ <;> rw [e1, e2] <;> rfl
  rw [← e] at q
  cases neg with
  | true => exact d_notIn hX.hu1 I (.inr ⟨kvs, k, b, hS, rfl, hh.gh _ _ hb, rfl⟩) ru fun s' I' => ⟨.bl _, H, I', rfl, hR.here hh q (.bl _)⟩
  | false => exact d_in hX.hu1 I (.inr ⟨kvs, k, b, hS, rfl, hh.gh _ _ hb, rfl⟩) ru fun s' I' => ⟨.bl _, H, I', rfl, hR.here hh q (.bl _)⟩
theorem we_newK {pos : Pos} (q : ∀ p, Q (.ref p) ⟨Γ.sl, (p, .dK []) :: Γ.M, Γ.R⟩) : WE X F (.Dict [] [] pos) Γ Q := fun G σ H hh R hR => tU_of pe_dnewK fun p hp => hR _ _ G _ _ (q p) (Same.refl G) (hh.newOwn hp (.dK rfl Reps.nil)) (.ref p)
theorem we_newT {pos : Pos} (q : ∀ p, Q (.ref p) ⟨Γ.sl, (p, .dT []) :: Γ.M, Γ.R⟩) : WE X F (.Dict [] [] pos) Γ Q := fun G σ H hh R hR => tU_of pe_dnewT fun p hp => hR _ _ G _ _ (q p) (Same.refl G) (hh.newOwn hp (.dT rfl Reps.nil)) (.ref p)

/-! ### stores by subscript -/
/-- o[i] = v -/
def WSet (X : Cx) (F : Fr) (o i v : D) (Γ : DL.Env) (Q : DL.Env → Prop) : Prop := ∀ G σ H xo xi xv, Holds F G Γ σ H → Rep G xo o → Rep G xi i → Rep G xv v → ∀ R : Hp → Prop, (∀ Γ' G' H', Q Γ' → Same G G' → Holds F G' Γ' σ H' → R H') →
  ∀ (pins : List (Addr × Obj)) (s : Shared) (ov iv u : Value), Inv X pins σ H s → RelV xo ov → RelV xi iv → RelV xv u → wpAny (model X.prog X.w) X.A (setItem ov iv u) (fun _ s' => ∃ H', Inv X pins σ H' s' ∧ R H') X.xe s
/-- the store of a value that was reckoned before: it is frozen ahead -/
theorem ws_sub {o i e : Expr} {pos pos' : Pos} {O : Out} (hs : swapsWith e (some (.Subscript o i pos')) pos.line X.env = pure false)
    (h : WE X F e Γ fun v Γ1 => Fz F v Γ1 fun v Γ1 => WE X F o Γ1 fun od Γ2 => WE X F i Γ2 fun id Γ3 => WSet X F od id v Γ3 O.nx) : WS X F (.Assign [.Subscript o i pos'] e pos) Γ O := fun G σ H hh E hE pins s I => by
  have hq : tU X e σ H fun xv H1 => tU X o σ H1 fun xo H2 => tU X i σ H2 fun xi H3 => ∀ (pins : List (Addr × Obj)) (s : Shared) (ov iv u : Value), Inv X pins σ H3 s → RelV xo ov → RelV xi iv → RelV xv u → wpAny (model X.prog X.w) X.A (setItem ov iv u) (fun _ s' => ∃ H', Inv X pins σ H' s' ∧ E.nx σ H') X.xe s := by
    refine we_fz h G σ H hh _ fun v Γ1 G1 xv H1 q s1 h1 rv => ?_
    refine q G1 σ H1 h1 _ fun od Γ2 G2 xo H2 q2 s2 h2 ro => ?_
    refine q2 G2 σ H2 h2 _ fun id Γ3 G3 xi H3 q3 s3 h3 ri => ?_
    exact q3 G3 σ H3 xo xi xv h3 (ro.mono s3) ri (rv.mono (s2.trans s3)) _ fun Γ' G' H' qq sg hh' => hE.nx Γ' G' σ H' qq (((s1.trans s2).trans s3).trans sg) hh'
  refine wpAny_Assign_Subscript (thn (hq pins s I) fun r s1 ⟨v, H1, I1, rv, q1⟩ => thn (q1 pins s1 I1) fun u s2 ⟨x, H2, I2, rx, q2⟩ => thn (q2 pins s2 I2) fun iv s3 ⟨y, H3, I3, ry, q3⟩ => ?_) hs
  exact thn (q3 pins s3 u iv r I3 rx ry rv) fun _ s4 ⟨H4, I4, q4⟩ => ⟨σ, H4, I4, q4⟩
theorem wset_list {p : Addr} {ds : List D} {k j : Nat} {i : Int} {v : D} {QG : DL.Env → Prop} [h : At M p (.lst ds) k] [h2 : SetM M k (p, .lst (ds.set j v)) M'] (hi : ixN ds.length i = some j) (q : QG ⟨sl, M', R⟩) : WSet X F (.ref p) (.int i) v ⟨sl, M, R⟩ QG :=
  fun G σ H xo xi xv hh ro ri rv K hK pins s ov iv u I rvo rvi rvv => by
    obtain ⟨_, _, o, ho, hs⟩ := hh.mem.at_ _ (List.mem_of_getElem? h.e)
    obtain ⟨vs, rfl, hr⟩ := hs.lst_inv
    rw [ro.ref_inv] at rvo
    rw [ri.int_inv] at rvi
    refine set_list pins s σ H (.ref p) (.int i) xv ov iv u K I rvo rvi rvv ⟨p, vs, i, j, rfl, rfl, ho, by rw [hr.1]; exact hi, ?_⟩
    have hw := hh.write h.e (o' := .lst (vs.set j xv)) (.lst (hr.set rv j))
    rw [← h2.e] at hw
    exact hK _ G _ q (Same.refl G) hw
theorem wset_dK (hX : Std X) {p : Addr} {kds : List (Key × D)} {m : Nat} {k : Key} {v : D} {QG : DL.Env → Prop} [h : At M p (.dK kds) m] [h2 : SetM M m (p, .dK (putD kds k v)) M'] (hl : kds.length < sizeLine) (q : QG ⟨sl, M', R⟩) : WSet X F (.ref p) (kD k) v ⟨sl, M, R⟩ QG :=
  fun G σ H xo xi xv hh ro ri rv K hK pins s ov iv u I rvo rvi rvv => by
    obtain ⟨_, _, o, ho, hs⟩ := hh.mem.at_ _ (List.mem_of_getElem? h.e)
    obtain ⟨kvs, rfl, hk, hr⟩ := hs.dK_inv
    rw [ro.ref_inv] at rvo
    rw [ri.kD_inv] at rvi
    cases rvo
    have hlen : kvs.length = kds.length := by have := congrArg List.length hk; simpa using this
    refine d_setItem hX.hu1 I (.inl ⟨kvs, k, ho, rfl, by rw [hlen]; exact hl, rfl⟩) rvi rvv fun s' I' => ⟨_, I', ?_⟩
    obtain ⟨a, b⟩ := put_rep k rv hk hr
    have hw := hh.write h.e (o' := .dK (putK kvs k xv)) (.dK a b)
    rw [← h2.e] at hw
    exact hK _ G _ q (Same.refl G) hw
theorem wset_dT (hX : Std X) {p : Addr} {kds : List (List Key × D)} {m : Nat} {k : List Key} {v : D} {QG : DL.Env → Prop} [h : At M p (.dT kds) m] [h2 : SetM M m (p, .dT (putD kds k v)) M'] (hl : kds.length < sizeLine) (q : QG ⟨sl, M', R⟩) : WSet X F (.ref p) (.tup (k.map kD)) v ⟨sl, M, R⟩ QG :=
  fun G σ H xo xi xv hh ro ri rv K hK pins s ov iv u I rvo rvi rvv => by
    obtain ⟨_, _, o, ho, hs⟩ := hh.mem.at_ _ (List.mem_of_getElem? h.e)
    obtain ⟨kvs, rfl, hk, hr⟩ := hs.dT_inv
    rw [ro.ref_inv] at rvo
    cases rvo
    obtain ⟨b, vs, rfl, hb, hv⟩ := ri.tup_inv
    rw [hv.kD_inv] at hb
    have hlen : kvs.length = kds.length := by have := congrArg List.length hk; simpa using this
    refine d_setItem hX.hu1 I (.inr ⟨kvs, k, b, ho, rfl, hh.gh _ _ hb, by rw [hlen]; exact hl, rfl⟩) rvi rvv fun s' I' => ⟨_, I', ?_⟩
    obtain ⟨a, b⟩ := put_rep k rv hk hr
    have hw := hh.write h.e (o' := .dT (putK kvs k xv)) (.dT a b)
    rw [← h2.e] at hw
    exact hK _ G _ q (Same.refl G) hw
end
end DL

/-! The D layer, part 5: defs and their calls; operations on ints, texts, lists. -/
namespace DL
open PySem PySem.Spec PyProof.Rows L2

/-! ### a def's promise over plain data -/
abbrev SpD := List D → Mem → Mem → (D → Mem → Prop) → Prop
def SpOf (S : SpD) : Sp := fun vs H Q _ => ∃ (ds : List D) (M R : Mem) (B G : Hp) (P : D → Mem → Prop), Reps G vs ds ∧ Same G B ∧ Same B H ∧ MemOk B G H M ∧ (∀ q ∈ R, ∃ o, Rd B q.1 o ∧ Shell G o q.2) ∧ S ds M R P ∧
  ∀ d M' G' v H', P d M' → Same G G' → Same G' H' → Same B H' → (∀ p o, G' p = some o → G p = some o ∨ B p = none) → MemOk B G' H' M' → Rep G' v d → Q v H'
/-- what a body is asked -/
def startD (n : Nat) (ds : List D) : List (Option D) := ds.map some ++ List.replicate (n - ds.length) none
def Sub (M' M : Mem) : Prop := ∀ q ∈ M', q ∈ M
def outD (P : D → Mem → Prop) : Out := { nx := fun Γ => ∃ M', (M'.map (·.1)).Nodup ∧ Sub M' Γ.M ∧ P .non M', rt := fun d Γ => ∃ M', (M'.map (·.1)).Nodup ∧ Sub M' Γ.M ∧ P d M' }

structure In (X : Cx) (P : Program) (w : World) (K : PySem.W.Frag) (mg : Str → Option Value) (base : Heap) (k : Nat) : Prop where
  prog : X.prog = P
  w : X.w = w
  K : X.K = K
  mg : X.mg = mg
  base : X.base = base
  room : Room k X.A
  calm : X.calm = true
  nd : X.N.Nodup
  nox : X.xe = fun _ _ => False
theorem In.std {X : Cx} {P : Program} {w : World} {K : PySem.W.Frag} {mg : Str → Option Value} {base : Heap} {k : Nat} (h : In X P w K mg base k) : Std X :=
  ⟨h.calm, h.nd, by rw [h.nox]; exact PassesOwn.never, h.room.units⟩
theorem In.mono {X : Cx} {P : Program} {w : World} {K : PySem.W.Frag} {mg : Str → Option Value} {base : Heap} {j k : Nat} (h : In X P w K mg base k) (hj : j ≤ k) : In X P w K mg base j :=
  ⟨h.prog, h.w, h.K, h.mg, h.base, h.room.mono hj, h.calm, h.nd, h.nox⟩
/-- the names of a def's context -/
structure Nm (X : Cx) (N : List Str) (sc : Scope) : Prop where
  N : X.N = N
  sc : X.env.scope = sc
  fn : X.fn = fun _ => true

section
variable {P : Program} {w : World} {K : PySem.W.Frag} {mg : Str → Option Value} {base : Heap}
theorem start_reps {G : Hp} {N : List Str} {vs : List V} {ds : List D} (r : Reps G vs ds) : (L2.start N vs).length = (startD N.length ds).length ∧ ∀ (i : Nat) (d : D), (startD N.length ds)[i]? = some (some d) → ∃ v, (L2.start N vs)[i]? = some (some v) ∧ Rep G v d := by
  unfold L2.start startD
  refine ⟨by simp [r.1], fun i d h => ?_⟩
  by_cases hi : i < ds.length
  · rw [List.getElem?_append_left (by simpa using hi), List.getElem?_map] at h
    rw [List.getElem?_append_left (by rw [List.length_map, r.1]; exact hi), List.getElem?_map]
    obtain ⟨x, e, e2⟩ := Option.map_eq_some_iff.mp h
    cases e2
    obtain ⟨v, hv, rv⟩ := r.get e
    exact ⟨v, by rw [hv]; rfl, rv⟩
  · rw [List.getElem?_append_right (by simpa using Nat.le_of_not_lt hi)] at h
    rw [List.getElem?_replicate] at h
    split at h <;> cases h
/-- THE RULE for a def -/
theorem fnD {x qual : Str} {st : Stmt} {f : Addr} {fd : FuncData} {N ps : List Str} {k : Nat} {S : SpD} (Fu : Fun K x qual st f fd) (Sc : FnScope N ps (defScope st)) (len : ∀ ds M R Q, S ds M R Q → ds.length = ps.length)
    (hbody : ∀ (X : Cx) (F : Fr), In X P w K mg base k → Nm X N (defScope st) → ∀ ds M R Q, S ds M R Q → WSs X F (defBody st) ⟨startD N.length ds, M, R⟩ (outD Q)) : FnOk P w K mg base CX0 (k + 1) f fd ps (SpOf S) := by
  refine Fu.ok Sc (fun vs H Q E h => ?_) (fun cdv A outer s H vs Q E hr h => ?_)
  · obtain ⟨ds, M, R, B, G, Pq, r, _, _, _, _, hS, _⟩ := h
    rw [r.1]; exact len _ _ _ _ hS
  · obtain ⟨ds, M, R, B, G, Pq, r, gb, bh, mk, rk, hS, q⟩ := h
    refine ⟨tUSs _ (defBody st), pss_U, ?_⟩
    have hin : In (cxOf CX0 P w K mg base N qual (defScope st) f cdv A outer s H E).nox P w K mg base k := ⟨rfl, rfl, rfl, rfl, rfl, hr, rfl, Sc.nd, rfl⟩
    obtain ⟨e1, e2⟩ := start_reps (N := N) r
    refine hbody _ ⟨B, G⟩ hin ⟨rfl, rfl, rfl⟩ ds M R Pq hS G (L2.start N vs) H ⟨Same.refl _, gb.trans bh, bh, gb, fun p o e => .inl e, e1, e2, mk, rk⟩ _ ⟨?_, ?_, ?_, ?_⟩
    · intro Γ' G' σ' H' ⟨M', nd, sb, hp⟩ sg hh
      exact q .non M' G' .non H' hp sg hh.gh hh.bh hh.nw ⟨nd, fun z hz => hh.mem.at_ z (sb z hz)⟩ .non
    · intro d Γ' G' σ' v H' ⟨M', nd, sb, hp⟩ sg hh rv
      exact q d M' G' v H' hp sg hh.gh hh.bh hh.nw ⟨nd, fun z hz => hh.mem.at_ z (sb z hz)⟩ rv
    · exact fun _ _ _ _ z => z.elim
    · exact fun _ _ _ _ z => z.elim
/-- what a caller knows of a def -/
structure Cal (P : Program) (w : World) (K : PySem.W.Frag) (mg : Str → Option Value) (base : Heap) (k : Nat) (x : Str) (S : SpD) : Prop where
  ex : ∃ (f : Addr) (fd : FuncData) (ps : List Str), FnOk P w K mg base CX0 k f fd ps (SpOf S) ∧ mg x = some (.ref f) ∧ PySem.W.keepIn K (.ref f) = true ∧ Binds K fd ps []
theorem Cal.imp {k : Nat} {x : Str} {S S' : SpD} (c : Cal P w K mg base k x S) (h : ∀ ds M R Q, S' ds M R Q → S ds M R Q) : Cal P w K mg base k x S' := by
  obtain ⟨f, fd, ps, a, b, c, d⟩ := c.ex
  exact ⟨f, fd, ps, a.imp fun vs H Q E ⟨ds, M, R, B, G, Pq, r, gb, bh, mo, rk, hS, q⟩ => ⟨ds, M, R, B, G, Pq, r, gb, bh, mo, rk, h _ _ _ _ hS, q⟩, b, c, d⟩

variable {X : Cx} {F : Fr} {Γ : DL.Env} {Q : D → DL.Env → Prop} {sl sl' : List (Option D)} {M M' R : Mem}
/-- the heap without the places that are handed over -/
def lessM (H : Hp) (M0 : Mem) : Hp := fun p => if p ∈ M0.map (·.1) then none else H p
theorem lessM_same {H : Hp} {M0 : Mem} : Same (lessM H M0) H := fun p o e => by
  unfold lessM at e
  split at e
  · cases e
  · exact e
/-- the call by values: M0 is handed over, the rest is only read -/
theorem call_sem {S : SpD} {G : Hp} {σ : L2.St} {H : Hp} {vs : List V} {ds : List D} (hh : Holds F G Γ σ H) (r : Reps G vs ds) {M0 rest : Mem} (hp : Γ.M.Perm (M0 ++ rest)) {Pq : D → Mem → Prop} (hS : S ds M0 (rest ++ Γ.R) Pq) (K' : VK) (E : XK)
    (hK : ∀ d M' G' v H', Pq d M' → Same G G' → Holds F G' ⟨Γ.sl, M' ++ rest, Γ.R⟩ σ H' → Rep G' v d → K' v H') : SpOf S vs H K' E := by
  have nd : ((M0 ++ rest).map (·.1)).Nodup := (hp.map _).nodup_iff.mp hh.mem.nd
  rw [List.map_append, List.nodup_append] at nd
  obtain ⟨nd1, nd2, dis⟩ := nd
  have at1 : ∀ q ∈ M0, q ∈ Γ.M := fun q hq => hp.symm.subset (List.mem_append_left _ hq)
  have at2 : ∀ q ∈ rest, q ∈ Γ.M := fun q hq => hp.symm.subset (List.mem_append_right _ hq)
  have notin : ∀ p o, F.B p = some o → p ∉ M0.map (·.1) := fun p o e hm => by
    obtain ⟨q, hq, rfl⟩ := List.mem_map.mp hm
    rw [(hh.mem.at_ q (at1 q hq)).1] at e; cases e
  have notinG : ∀ p o, G p = some o → p ∉ M0.map (·.1) := fun p o e hm => by
    obtain ⟨q, hq, rfl⟩ := List.mem_map.mp hm
    rw [(hh.mem.at_ q (at1 q hq)).2.1] at e; cases e
  refine ⟨ds, M0, rest ++ Γ.R, lessM H M0, G, Pq, r, fun p o e => ?_, lessM_same, ⟨nd1, fun q hq => ?_⟩, fun q hq => ?_, hS, ?_⟩
  · unfold lessM
    rw [if_neg (notinG p o e)]
    exact hh.gh _ _ e
  · obtain ⟨a, b, o, c, d⟩ := hh.mem.at_ q (at1 q hq)
    refine ⟨?_, b, o, c, d⟩
    unfold lessM
    rw [if_pos (List.mem_map_of_mem hq)]
  · rcases List.mem_append.mp hq with hq | hq
    · obtain ⟨a, b, o, c, d⟩ := hh.mem.at_ q (at2 q hq)
      refine ⟨o, .inl ?_, d⟩
      unfold lessM
      rw [if_neg fun hm => dis _ hm _ (List.mem_map_of_mem hq) rfl]
      exact c
    · obtain ⟨o, c, d⟩ := hh.rd q hq
      refine ⟨o, ?_, d⟩
      rcases c with c | ⟨z, c⟩
      · refine .inl ?_
        unfold lessM
        rw [if_neg (notin _ _ c)]
        exact hh.bh _ _ c
      · refine .inr ⟨z, ?_⟩
        unfold lessM
        rw [if_neg (notin _ _ c)]
        exact hh.bh _ _ c
  · intro d M' G' v H' hP sg gh' bh' nw' mk' rv
    have bB : Same F.B (lessM H M0) := fun p o e => by
      unfold lessM
      rw [if_neg (notin _ _ e)]
      exact hh.bh _ _ e
    refine hK d M' G' v H' hP sg ⟨hh.g0.trans sg, gh', bB.trans bh', hh.gb, fun p o e => ?_, hh.len, fun i d e => ?_, ⟨?_, fun q hq => ?_⟩, fun q hq => ?_⟩ rv
    · rcases nw' p o e with e1 | e1
      · exact hh.nw p o e1
      · cases hB : F.B p with
        | none => exact .inr rfl
        | some o' => rw [bB p o' hB] at e1; cases e1
    · obtain ⟨v, a, b⟩ := hh.sl i d e
      exact ⟨v, a, b.mono sg⟩
    · rw [List.map_append, List.nodup_append]
      refine ⟨mk'.nd, nd2, fun a ha b hb e => ?_⟩
      subst e
      obtain ⟨q, hq, rfl⟩ := List.mem_map.mp ha
      obtain ⟨q', hq', e'⟩ := List.mem_map.mp hb
      have h1 := (mk'.at_ q hq).1
      obtain ⟨_, _, o, c, _⟩ := hh.mem.at_ q' (at2 q' hq')
      have h2 : lessM H M0 q.1 = some o := by
        unfold lessM
        rw [← e', if_neg fun hm => dis _ hm _ (List.mem_map_of_mem hq') rfl]
        exact c
      rw [h1] at h2; cases h2
    · rcases List.mem_append.mp hq with hq | hq
      · obtain ⟨a, b, c⟩ := mk'.at_ q hq
        refine ⟨?_, b, c⟩
        cases hB : F.B q.1 with
        | none => rfl
        | some o' => rw [bB _ o' hB] at a; cases a
      · obtain ⟨a, b, o, c, d⟩ := hh.mem.at_ q (at2 q hq)
        have h2 : lessM H M0 q.1 = some o := by
          unfold lessM
          rw [if_neg fun hm => dis _ hm _ (List.mem_map_of_mem hq) rfl]
          exact c
        refine ⟨a, ?_, o, bh' _ _ h2, d.mono sg⟩
        cases hG : G' q.1 with
        | none => rfl
        | some o' =>
          rcases nw' _ _ hG with e1 | e1
          · rw [b] at e1; cases e1
          · rw [h2] at e1; cases e1
    · obtain ⟨o, c, d⟩ := hh.rd q hq
      exact ⟨o, c, d.mono sg⟩
theorem Holds.perm {G : Hp} {σ : L2.St} {H : Hp} {M2 : Mem} (hh : Holds F G ⟨sl, M, R⟩ σ H) (hp : M2.Perm M) : Holds F G ⟨sl, M2, R⟩ σ H :=
  ⟨hh.g0, hh.gh, hh.bh, hh.gb, hh.nw, hh.len, hh.sl, ⟨(hp.map _).nodup_iff.mpr hh.mem.nd, fun q hq => hh.mem.at_ q (hp.subset hq)⟩, hh.rd⟩
class AppM (A B : Mem) (C : outParam Mem) : Prop where
  e : C = A ++ B
instance AppM.nil {B : Mem} : AppM [] B B := ⟨rfl⟩
instance AppM.cons {A B C : Mem} {q : Addr × D} [h : AppM A B C] : AppM (q :: A) B (q :: C) := ⟨by rw [h.e]; rfl⟩
def App (A B : Mem) (f : Mem → Prop) : Prop := f (A ++ B)
theorem app_go {A B C : Mem} {f : Mem → Prop} [h : AppM A B C] (q : f C) : App A B f := by
  show f (A ++ B)
  rw [← h.e]; exact q
def MSet (M : Mem) (k : Nat) (q : Addr × D) (f : Mem → Prop) : Prop := f (M.set k q)
theorem mset_go {M M' : Mem} {k : Nat} {q : Addr × D} {f : Mem → Prop} [h : SetM M k q M'] (r : f M') : MSet M k q f := by
  show f (M.set k q)
  rw [← h.e]; exact r
/-- a call that is handed nothing of ours -/
def Own0 (S : SpD) (ds : List D) (Γ : DL.Env) (Q : D → DL.Env → Prop) : Prop := S ds [] (Γ.M ++ Γ.R) fun d M' => App M' Γ.M fun M2 => Q d ⟨Γ.sl, M2, Γ.R⟩
theorem own0_go {S : SpD} {ds : List D} {MR : Mem} [h : AppM M R MR] (q : S ds [] MR fun d M' => App M' M fun M2 => Q d ⟨sl, M2, R⟩) : Own0 S ds ⟨sl, M, R⟩ Q := by
  show S ds [] (M ++ R) _
  rw [← h.e]; exact q
/-- one that is handed the place of its first argument -/
def Own1 (S : SpD) (ds : List D) (Γ : DL.Env) (Q : D → DL.Env → Prop) : Prop := ∃ (a : Addr) (c : D) (m : Nat), Γ.M[m]? = some (a, c) ∧ S ds [(a, c)] (Γ.M.eraseIdx m ++ Γ.R) fun d M' => ∃ c' new, M' = (a, c') :: new ∧ MSet Γ.M m (a, c') fun M2 => App new M2 fun M3 => Q d ⟨Γ.sl, M3, Γ.R⟩
theorem own1_go {S : SpD} {a : Addr} {c : D} {m : Nat} {ds : List D} {M1 MR : Mem} [h1 : At M a c m] [h2 : DelM M m M1] [h3 : AppM M1 R MR] (q : S (.ref a :: ds) [(a, c)] MR fun d M' => ∃ c' new, M' = (a, c') :: new ∧ MSet M m (a, c') fun M2 => App new M2 fun M3 => Q d ⟨sl, M3, R⟩) : Own1 S (.ref a :: ds) ⟨sl, M, R⟩ Q := by
  refine ⟨a, c, m, h1.e, ?_⟩
  show S _ _ (M.eraseIdx m ++ R) _
  rw [← h2.e, ← h3.e]; exact q
/-- f(..): nothing of ours is handed over -/
theorem we_call {k j : Nat} {S : SpD} {x : Str} {p pos : Pos} {e : Expr} {es : List Expr} (c : Cal P w K mg base k x S) (hX : In X P w K mg base j) (hj : k ≤ j) (hg : Gl X x) (hdb : (x == ("__debug__" : Str)) = false) (he : starEach (e :: es) X.env = (false, eval e X.env) :: starEach es X.env)
    (hpl : (backTo pos (starEach es X.env)).any (·.1) = false) (h : WA X F (e :: es) Γ fun ds Γ1 => Own0 S ds Γ1 Q) : WE X F (.Call (.Name x p) (e :: es) [] pos) Γ Q := fun G σ H hh R hR => by
  obtain ⟨f, fd, ps, Fn, hm, hk, hb⟩ := c.ex
  obtain ⟨rfl, rfl, rfl, rfl, rfl, room, calm, nd, nox⟩ := hX
  refine tU_of (pe_call Fn (room.mono hj) hg hm hk hb .nil (E := fun _ _ _ => False) pass0 pa_U hdb he hpl) ?_
  refine h G σ H hh _ fun ds Γ1 G1 vs H1 q s1 h1 r1 => ?_
  rw [List.append_nil]
  exact call_sem (M0 := []) h1 r1 (List.Perm.refl _) q _ _ fun d M' G' v H' hq sg h' rv => hR d _ G' v H' hq (s1.trans sg) h' rv
/-- f(..): the place p, which holds c, is handed over and comes back -/
class Take (M : Mem) (k : Nat) (q : Addr × D) (rest : outParam Mem) : Prop where
  perm : M.Perm (q :: rest)
instance Take.tail {M M' : Mem} {q r : Addr × D} {k : Nat} [h : Take M k q M'] : Take (r :: M) (k + 1) q (r :: M') := ⟨(h.perm.cons r).trans (List.Perm.swap _ _ _)⟩
instance Take.head {M : Mem} {q : Addr × D} : Take (q :: M) 0 q M := ⟨List.Perm.refl _⟩
theorem we_call1 {k j : Nat} {S : SpD} {x : Str} {p pos : Pos} {e : Expr} {es : List Expr} (c : Cal P w K mg base k x S) (hX : In X P w K mg base j) (hj : k ≤ j) (hg : Gl X x) (hdb : (x == ("__debug__" : Str)) = false) (he : starEach (e :: es) X.env = (false, eval e X.env) :: starEach es X.env)
    (hpl : (backTo pos (starEach es X.env)).any (·.1) = false) (h : WA X F (e :: es) Γ fun ds Γ1 => Own1 S ds Γ1 Q) :
    WE X F (.Call (.Name x p) (e :: es) [] pos) Γ Q := fun G σ H hh R hR => by
  obtain ⟨f, fd, ps, Fn, hm, hk, hb⟩ := c.ex
  obtain ⟨rfl, rfl, rfl, rfl, rfl, room, calm, nd, nox⟩ := hX
  refine tU_of (pe_call Fn (room.mono hj) hg hm hk hb .nil (E := fun _ _ _ => False) pass0 pa_U hdb he hpl) ?_
  refine h G σ H hh _ fun ds Γ1 G1 vs H1 q s1 h1 r1 => ?_
  obtain ⟨a, c, m, hm', q⟩ := q
  rw [List.append_nil]
  have pm : ∀ {M : Mem} {m : Nat} {a : Addr} {c c' : D}, M[m]? = some (a, c) → (M.set m (a, c')).Perm ((a, c') :: M.eraseIdx m) := by
    intro M
    induction M with
    | nil => intro m a c c' h; simp at h
    | cons z M ih =>
      intro m a c c' h
      cases m with
      | zero => exact List.Perm.refl _
      | succ m => exact ((ih (by simpa using h)).cons z).trans (List.Perm.swap _ _ _)
  have ps : Γ1.M.Perm ((a, c) :: Γ1.M.eraseIdx m) := by
    have := pm (c' := c) hm'
    have e : Γ1.M.set m (a, c) = Γ1.M := by
      apply List.ext_getElem?
      intro i
      by_cases hi : m = i
      · subst hi
        rw [List.getElem?_set]
        simp only [if_pos]
        rw [if_pos (List.getElem?_eq_some_iff.mp hm').1, hm']
      · rw [List.getElem?_set_ne hi]
    rw [e] at this; exact this
  refine call_sem (M0 := [(a, c)]) h1 r1 ps q _ _ fun d M' G' v H' hq sg h' rv => ?_
  obtain ⟨c', new, rfl, hq⟩ := hq
  refine hR d _ G' v H' hq (s1.trans sg) (h'.perm ?_) rv
  refine (List.Perm.append_left new (pm hm')).trans ?_
  exact List.perm_middle
end
end DL

/-! The D layer, part 6: operations by values, built-ins, methods, slices. -/
namespace DL
open PySem PySem.Spec PyProof.Rows L2

section
variable {X : Cx} {F : Fr} {Γ : DL.Env} {Q : D → DL.Env → Prop} {sl sl' : List (Option D)} {M M' R : Mem}

theorem wo_of {f : Value → Value → Sem Value} {r : R2} {d1 d2 : D} (h : OpR X f r) (q : ∀ G σ H x y, Holds F G Γ σ H → Rep G x d1 → Rep G y d2 → ∀ R, Good F Q G σ R → r x y H R) : WO X F f d1 d2 Γ Q :=
  fun G σ H x y hh r1 r2 R hR pins s v u I rx ry => h pins s σ H x y v u R I rx ry (q G σ H x y hh r1 r2 R hR)
theorem wo_I0 {f : Value → Value → Sem Value} {g : Int → Int → V} {i j : Int} {d : D} (h : OpR X f (rI0 g)) (rd : ∀ G, Rep G (g i j) d) (q : Q d Γ) : WO X F f (.int i) (.int j) Γ Q :=
  wo_of h fun G σ H x y hh r1 r2 R hR => ⟨i, j, r1.int_inv, r2.int_inv, hR.here hh q (rd G)⟩
theorem wo_I {f : Value → Value → Sem Value} {C : Int → Int → Prop} {g : Int → Int → V} {i j : Int} {d : D} (h : OpR X f (rI C g)) (hc : C i j) (rd : ∀ G, Rep G (g i j) d) (q : Q d Γ) : WO X F f (.int i) (.int j) Γ Q :=
  wo_of h fun G σ H x y hh r1 r2 R hR => ⟨i, j, r1.int_inv, r2.int_inv, hc, hR.here hh q (rd G)⟩
variable {i j : Int}
theorem wo_add (q : Q (.int (i + j)) Γ) : WO X F (binaryOp .Add) (.int i) (.int j) Γ Q := wo_I0 op_add (fun _ => .int _) q
theorem wo_sub (q : Q (.int (i - j)) Γ) : WO X F (binaryOp .Sub) (.int i) (.int j) Γ Q := wo_I0 op_sub (fun _ => .int _) q
theorem wo_mul (hc : CMulW i j) (q : Q (.int (i * j)) Γ) : WO X F (binaryOp .Mult) (.int i) (.int j) Γ Q := wo_I op_mulW hc (fun _ => .int _) q
theorem wo_mulS (hc : CMul i j) (q : Q (.int (i * j)) Γ) : WO X F (binaryOp .Mult) (.int i) (.int j) Γ Q := wo_I op_mul hc (fun _ => .int _) q
theorem wo_fdiv (h0 : 0 < j) (h9 : j.natAbs.log2 < 9000) (q : Q (.int (i / j)) Γ) : WO X F (binaryOp .FloorDiv) (.int i) (.int j) Γ Q := wo_I op_fdivW ⟨h0, h9⟩ (fun _ => .int _) q
theorem wo_mod (h0 : 0 < j) (q : Q (.int (i % j)) Γ) : WO X F (binaryOp .Mod) (.int i) (.int j) Γ Q := wo_I op_mod h0 (fun _ => .int _) q
theorem wo_pow (hc : CPow i j) (q : Q (.int (i ^ j.toNat)) Γ) : WO X F (binaryOp .Pow) (.int i) (.int j) Γ Q := wo_I op_pow hc (fun _ => .int _) q
/-- a written power -/
class PowL (i j : Int) (r : outParam Int) : Prop where
  c : CPow i j
  e : i ^ j.toNat = r
instance : PowL 2 64 18446744073709551616 := ⟨⟨by decide, by decide, by decide⟩, by decide⟩
instance : PowL 2 29 536870912 := ⟨⟨by decide, by decide, by decide⟩, by decide⟩
instance : PowL 2 32 4294967296 := ⟨⟨by decide, by decide, by decide⟩, by decide⟩
instance : PowL 10 18 1000000000000000000 := ⟨⟨by decide, by decide, by decide⟩, by decide⟩
instance : PowL 10 30 1000000000000000000000000000000 := ⟨⟨by decide, by decide, by decide⟩, by decide⟩
instance : PowL 10 12 1000000000000 := ⟨⟨by decide, by decide, by decide⟩, by decide⟩
instance : PowL 10 9 1000000000 := ⟨⟨by decide, by decide, by decide⟩, by decide⟩
instance : PowL 10 6 1000000 := ⟨⟨by decide, by decide, by decide⟩, by decide⟩
instance : PowL 10 60 (10 ^ 60) := ⟨⟨by decide, by decide, by decide⟩, by decide⟩
theorem wo_powL {r : Int} [h : PowL i j r] (q : Q (.int r) Γ) : WO X F (binaryOp .Pow) (.int i) (.int j) Γ Q := wo_I op_pow h.c (fun _ => by rw [h.e]; exact .int _) q
theorem wo_xor (q : Q (.int (Builtin.bitXor i j)) Γ) : WO X F (binaryOp .BitXor) (.int i) (.int j) Γ Q := wo_I0 op_xor (fun _ => .int _) q
theorem wo_and (q : Q (.int (Builtin.bitAnd i j)) Γ) : WO X F (binaryOp .BitAnd) (.int i) (.int j) Γ Q := wo_I0 op_and (fun _ => .int _) q
theorem wo_or (q : Q (.int (Builtin.bitOr i j)) Γ) : WO X F (binaryOp .BitOr) (.int i) (.int j) Γ Q := wo_I0 op_or (fun _ => .int _) q
theorem wo_lt (q : Q (.bl (decide (i < j))) Γ) : WO X F (compareOp .Lt) (.int i) (.int j) Γ Q := wo_I0 op_lt (fun _ => .bl _) q
theorem wo_le (q : Q (.bl (decide (i ≤ j))) Γ) : WO X F (compareOp .LtE) (.int i) (.int j) Γ Q := wo_I0 op_le (fun _ => .bl _) q
theorem wo_gt (q : Q (.bl (decide (j < i))) Γ) : WO X F (compareOp .Gt) (.int i) (.int j) Γ Q := wo_I0 op_gt (fun _ => .bl _) q
theorem wo_ge (q : Q (.bl (decide (j ≤ i))) Γ) : WO X F (compareOp .GtE) (.int i) (.int j) Γ Q := wo_I0 op_ge (fun _ => .bl _) q
theorem wo_eqI (q : Q (.bl (decide (i = j))) Γ) : WO X F (compareOp .Eq) (.int i) (.int j) Γ Q :=
  wo_of op_eq fun G σ H x y hh r1 r2 R hR => by
    rw [r1.int_inv, r2.int_inv]
    refine ⟨rfl, ?_⟩
    have e : decide (V.int i = V.int j) = decide (i = j) := by rw [dec_int]; rfl
    rw [e]; exact hR.here hh q (.bl _)
theorem wo_neI (q : Q (.bl (!decide (i = j))) Γ) : WO X F (compareOp .NotEq) (.int i) (.int j) Γ Q :=
  wo_of op_ne fun G σ H x y hh r1 r2 R hR => by
    rw [r1.int_inv, r2.int_inv]
    refine ⟨rfl, ?_⟩
    have e : decide (V.int i = V.int j) = decide (i = j) := by rw [dec_int]; rfl
    rw [e]; exact hR.here hh q (.bl _)
variable {z w : Str}
theorem wo_eqS (q : Q (.bl (decide (z = w))) Γ) : WO X F (compareOp .Eq) (.str z) (.str w) Γ Q :=
  wo_of op_eq fun G σ H x y hh r1 r2 R hR => by
    rw [r1.str_inv, r2.str_inv]
    refine ⟨rfl, ?_⟩
    have e : decide (V.str z = V.str w) = decide (z = w) := by
      by_cases h : z = w
      · subst h; simp
      · rw [decide_eq_false h, decide_eq_false fun e => h (V.str.inj e)]
    rw [e]; exact hR.here hh q (.bl _)
theorem wo_neS (q : Q (.bl (!decide (z = w))) Γ) : WO X F (compareOp .NotEq) (.str z) (.str w) Γ Q :=
  wo_of op_ne fun G σ H x y hh r1 r2 R hR => by
    rw [r1.str_inv, r2.str_inv]
    refine ⟨rfl, ?_⟩
    have e : decide (V.str z = V.str w) = decide (z = w) := by
      by_cases h : z = w
      · subst h; simp
      · rw [decide_eq_false h, decide_eq_false fun e => h (V.str.inj e)]
    rw [e]; exact hR.here hh q (.bl _)
theorem wo_addS (hz : z.length + w.length ≤ sizeLine) (q : Q (.str (z ++ w)) Γ) : WO X F (binaryOp .Add) (.str z) (.str w) Γ Q :=
  wo_of op_add_str fun G σ H x y hh r1 r2 R hR => ⟨z, w, r1.str_inv, r2.str_inv, hz, hR.here hh q (.str _)⟩
theorem wo_ltS (q : Q (.bl (decide (z.cps.toList < w.cps.toList))) Γ) : WO X F (compareOp .Lt) (.str z) (.str w) Γ Q :=
  wo_of op_lt_str fun G σ H x y hh r1 r2 R hR => ⟨z, w, r1.str_inv, r2.str_inv, hR.here hh q (.bl _)⟩
/-- is None -/
def isNon : D → Bool
  | .non => true
  | _ => false
theorem Rep.isNon {G : Hp} {v : V} {d : D} (r : Rep G v d) : decide (v = .non) = isNon d := by cases r <;> rfl
theorem wo_isN {d : D} (q : Q (.bl (isNon d)) Γ) : WO X F (compareOp .Is) d .non Γ Q :=
  wo_of op_isN fun G σ H x y hh r1 r2 R hR => ⟨r2.non_inv, by rw [r1.isNon]; exact hR.here hh q (.bl _)⟩
theorem wo_isnotN {d : D} (q : Q (.bl (!isNon d)) Γ) : WO X F (compareOp .IsNot) d .non Γ Q :=
  wo_of op_notN fun G σ H x y hh r1 r2 R hR => ⟨r2.non_inv, by rw [r1.isNon]; exact hR.here hh q (.bl _)⟩
theorem wu_neg (q : Q (.int (-i)) Γ) : WU X F (unaryOp .USub) (.int i) Γ Q :=
  fun G σ H x hh r1 R hR pins s v I rx => un_neg pins s σ H x v R I rx ⟨i, r1.int_inv, hR.here hh q (.int _)⟩
/-- dict membership -/
theorem wo_inK' (hX : Std X) {d : D} {kds : List (Key × D)} {k : Key} [sd : SeeK M R d kds] (q : Q (.bl (lookD kds k).isSome) ⟨sl, M, R⟩) : WO X F (compareOp .In) (kD k) d ⟨sl, M, R⟩ Q := wo_inK hX (neg := false) q
theorem wo_ninK' (hX : Std X) {d : D} {kds : List (Key × D)} {k : Key} [sd : SeeK M R d kds] (q : Q (.bl (!(lookD kds k).isSome)) ⟨sl, M, R⟩) : WO X F (compareOp .NotIn) (kD k) d ⟨sl, M, R⟩ Q := wo_inK hX (neg := true) q
theorem wo_inDT' (hX : Std X) {d : D} {kds : List (List Key × D)} {k : List Key} [sd : SeeDT M R d kds] (q : Q (.bl (lookD kds k).isSome) ⟨sl, M, R⟩) : WO X F (compareOp .In) (.tup (k.map kD)) d ⟨sl, M, R⟩ Q := wo_inDT hX (neg := false) q
theorem wo_ninDT' (hX : Std X) {d : D} {kds : List (List Key × D)} {k : List Key} [sd : SeeDT M R d kds] (q : Q (.bl (!(lookD kds k).isSome)) ⟨sl, M, R⟩) : WO X F (compareOp .NotIn) (.tup (k.map kD)) d ⟨sl, M, R⟩ Q := wo_inDT hX (neg := true) q

/-! ### lists -/
/-- a list at hand, by its own place (not locked) -/
class PlL (M : Mem) (d : D) (ds : outParam (List D)) : Prop where
  h : ∀ (F : Fr) (G : Hp) (sl : List (Option D)) (R : Mem) (σ : L2.St) (H : Hp) (v : V), Holds F G ⟨sl, M, R⟩ σ H → Rep G v d → ∃ p vs, v = .ref p ∧ H p = some (.lst vs) ∧ Reps G vs ds
instance PlL.self {ds : List D} : PlL M (.lst ds) ds := ⟨fun F G sl R σ H v hh r => by
  obtain ⟨p, vs, rfl, e, rr⟩ := r.lst_inv
  exact ⟨p, vs, rfl, hh.gh _ _ e, rr⟩⟩
instance PlL.own {p : Addr} {ds : List D} {k : Nat} [h : At M p (.lst ds) k] : PlL M (.ref p) ds := ⟨fun F G sl R σ H v hh r => by
  obtain ⟨_, _, o, ho, hs⟩ := hh.mem.at_ _ (List.mem_of_getElem? h.e)
  obtain ⟨vs, rfl, hr⟩ := hs.lst_inv
  exact ⟨p, vs, r.ref_inv, ho, hr⟩⟩
theorem wo_cat {d1 d2 : D} {xs ys : List D} [h1 : PlL M d1 xs] [h2 : PlL M d2 ys] (hz : xs.length + ys.length ≤ sizeLine) (q : ∀ p, Q (.ref p) ⟨sl, (p, .lst (xs ++ ys)) :: M, R⟩) : WO X F (binaryOp .Add) d1 d2 ⟨sl, M, R⟩ Q :=
  wo_of op_cat fun G σ H x y hh r1 r2 K hK => by
    obtain ⟨p, vs, rfl, e, rr⟩ := h1.h F G sl R σ H x hh r1
    obtain ⟨p', vs', rfl, e', rr'⟩ := h2.h F G sl R σ H y hh r2
    exact ⟨p, p', vs, vs', rfl, rfl, e, e', by rw [rr.1, rr'.1]; exact hz, fun a ha => hK _ _ G _ _ (q a) (Same.refl G) (hh.newOwn ha (.lst (rr.append rr'))) (.ref a)⟩
theorem wo_catT {xs ys : List D} (hx : xs ≠ []) (hz : xs.length + ys.length ≤ sizeLine) (q : Q (.tup (xs ++ ys)) Γ) : WO X F (binaryOp .Add) (.tup xs) (.tup ys) Γ Q :=
  wo_of op_catT fun G σ H x y hh r1 r2 K hK => by
    obtain ⟨p, vs, rfl, e, rr⟩ := r1.tup_inv
    obtain ⟨p', vs', rfl, e', rr'⟩ := r2.tup_inv
    refine ⟨p, p', vs, vs', rfl, rfl, .inl (.inl (hh.gh _ _ e)), .inl (.inl (hh.gh _ _ e')), fun z => hx ?_, by rw [rr.1, rr'.1]; exact hz, fun z => ?_, fun _ a ha => ?_⟩
    · subst z; exact List.eq_nil_of_length_eq_zero rr.1.symm
    · subst z
      have : ys = [] := List.eq_nil_of_length_eq_zero rr'.1.symm
      subst this
      rw [List.append_nil] at q
      exact hK.here hh q r1
    · obtain ⟨sg, h2⟩ := hh.newSh (o := .tup (vs ++ vs')) ha
      have ra := (rr.append rr').mono sg
      exact hK _ _ _ _ _ q sg h2 (.tup upd_same ra.1 ra.2)

/-! ### calls of built-ins -/
structure BltAt (X : Cx) (x : Str) (v : Value) : Prop where
  gl : Gl X x
  mg : X.mg x = none
  bv : bootBuiltins x = some v
  hn : x ≠ "__name__"
  hdb : (x == ("__debug__" : Str)) = false
section
variable {x : Str} {p pos : Pos} {e : Expr} {es : List Expr} {id T : String}
theorem we_blt (b : BltAt X x (.builtin id)) (he : starEach (e :: es) X.env = (false, eval e X.env) :: starEach es X.env) (hpl : (backTo pos (starEach es X.env)).any (·.1) = false)
    (h : WA X F (e :: es) Γ fun ds Γ1 => WC X F (.builtin id) ds Γ1 Q) : WE X F (.Call (.Name x p) (e :: es) [] pos) Γ Q := fun G σ H hh R hR pins s I => by
  refine wpAny_Call_Name_kw (ld_blt I b.gl b.mg b.bv ?_ b.hn b.hdb)
  have ha : tUA X (e :: es) σ H fun vs H1 => ∀ (pins : List (Addr × Obj)) (s : Shared) (us : List Value), Inv X pins σ H1 s → Vals vs us → wpAny (model X.prog X.w) X.A (call (.builtin id) us) (EP X pins σ R) X.xe s :=
    h G σ H hh _ fun ds Γ1 G1 vs H1 q s1 h1 r1 => q G1 σ H1 vs h1 r1 R (hR.later s1)
  exact PyProof.Rows.callWith_builtin1 (thn (ha pos pins s I) fun us s1 ⟨vs, H1, I1, r1, q1⟩ => q1 pins s1 us I1 r1) he hpl
theorem we_typ (b : BltAt X x (.type T)) (he : starEach (e :: es) X.env = (false, eval e X.env) :: starEach es X.env) (hpl : (backTo pos (starEach es X.env)).any (·.1) = false)
    (h : WA X F (e :: es) Γ fun ds Γ1 => WC X F (.type T) ds Γ1 Q) : WE X F (.Call (.Name x p) (e :: es) [] pos) Γ Q := fun G σ H hh R hR pins s I => by
  refine wpAny_Call_Name_kw (ld_blt I b.gl b.mg b.bv ?_ b.hn b.hdb)
  have ha : tUA X (e :: es) σ H fun vs H1 => ∀ (pins : List (Addr × Obj)) (s : Shared) (us : List Value), Inv X pins σ H1 s → Vals vs us → wpAny (model X.prog X.w) X.A (call (.type T) us) (EP X pins σ R) X.xe s :=
    h G σ H hh _ fun ds Γ1 G1 vs H1 q s1 h1 r1 => q G1 σ H1 vs h1 r1 R (hR.later s1)
  exact PyProof.Rows.callWith_type1 (thn (ha pos pins s I) fun us s1 ⟨vs, H1, I1, r1, q1⟩ => q1 pins s1 us I1 r1) he hpl
/-- a type's name as a value -/
theorem we_tyName (b : BltAt X x (.type T)) (q : Q (.ty T) Γ) : WE X F (.Name x p) Γ Q := fun G σ H hh R hR =>
  tU_of (pe_bltn (v := .ty T) b.gl b.mg b.bv rfl b.hn b.hdb) (hR.here hh q (.ty T))
end
theorem wc_of {f : Value} {ds : List D} {r : List V → Hp → VK → Prop} (h : CallR X f r) (q : ∀ G σ H xs, Holds F G Γ σ H → Reps G xs ds → ∀ R, Good F Q G σ R → r xs H R) : WC X F f ds Γ Q :=
  fun G σ H xs hh rr R hR pins s us I rv => h pins s σ H xs us R I rv (q G σ H xs hh rr R hR)
theorem wc_abs (q : Q (.int (if i < 0 then -i else i)) Γ) : WC X F (.builtin "abs") [.int i] Γ Q := wc_of call_abs fun G σ H xs hh rr R hR => by
  obtain ⟨v, rfl, r⟩ := rr.one
  exact ⟨i, by rw [r.int_inv], hR.here hh q (.int _)⟩
theorem wc_int (q : Q (.int i) Γ) : WC X F (.type "int") [.int i] Γ Q := wc_of call_int1 fun G σ H xs hh rr R hR => by
  obtain ⟨v, rfl, r⟩ := rr.one
  exact .inl ⟨i, by rw [r.int_inv], hR.here hh q (.int _)⟩
theorem wc_intB {b : Bool} (q : Q (.int (if b then 1 else 0)) Γ) : WC X F (.type "int") [.bl b] Γ Q := wc_of call_int1 fun G σ H xs hh rr R hR => by
  obtain ⟨v, rfl, r⟩ := rr.one
  exact .inr ⟨b, by rw [r.bl_inv], hR.here hh q (.int _)⟩
theorem wc_strI (hi : i.natAbs.log2 < 1920) (q : Q (.str (toString i)) Γ) : WC X F (.type "str") [.int i] Γ Q := wc_of call_str_int fun G σ H xs hh rr R hR => by
  obtain ⟨v, rfl, r⟩ := rr.one
  exact ⟨i, by rw [r.int_inv], hi, hR.here hh q (.str _)⟩
theorem wc_max2 (hX : Std X) (q : Q (.int (if j > i then j else i)) Γ) : WC X F (.builtin "max") [.int i, .int j] Γ Q := wc_of (call_max2 hX.calm) fun G σ H xs hh rr R hR => by
  obtain ⟨v, u, rfl, r1, r2⟩ := rr.two
  exact ⟨i, j, by rw [r1.int_inv, r2.int_inv], hR.here hh q (.int _)⟩
theorem wc_min2 (hX : Std X) (q : Q (.int (if j < i then j else i)) Γ) : WC X F (.builtin "min") [.int i, .int j] Γ Q := wc_of (call_min2 hX.calm) fun G σ H xs hh rr R hR => by
  obtain ⟨v, u, rfl, r1, r2⟩ := rr.two
  exact ⟨i, j, by rw [r1.int_inv, r2.int_inv], hR.here hh q (.int _)⟩
theorem wc_len {d : D} {ds : List D} [sd : SeeQ M R d ds] (q : Q (.int (ds.length : Int)) ⟨sl, M, R⟩) : WC X F (.builtin "len") [d] ⟨sl, M, R⟩ Q := wc_of call_len_seq fun G σ H xs hh rr K hK => by
  obtain ⟨v, rfl, r⟩ := rr.one
  rcases sd.see with s | s
  · obtain ⟨p, vs, rfl, hS, hr⟩ := hh.seeL (K := X.K) r s
    exact ⟨p, vs, rfl, .inl hS, by rw [hr.1]; exact hK.here hh q (.int _)⟩
  · obtain ⟨p, vs, rfl, hS, hr⟩ := hh.seeT (K := X.K) r s
    exact ⟨p, vs, rfl, .inr hS, by rw [hr.1]; exact hK.here hh q (.int _)⟩
theorem wc_lenS (hz : z.length ≤ sizeLine) (q : Q (.int (z.length : Int)) Γ) : WC X F (.builtin "len") [.str z] Γ Q := wc_of call_len_str fun G σ H xs hh rr K hK => by
  obtain ⟨v, rfl, r⟩ := rr.one
  exact ⟨z, by rw [r.str_inv], hz, hK.here hh q (.int _)⟩
theorem wc_list {d : D} {ds : List D} [sd : SeeQ M R d ds] (q : ∀ p, Q (.ref p) ⟨sl, (p, .lst ds) :: M, R⟩) : WC X F (.type "list") [d] ⟨sl, M, R⟩ Q := wc_of call_list_of fun G σ H xs hh rr K hK => by
  obtain ⟨v, rfl, r⟩ := rr.one
  rcases sd.see with s | s
  · obtain ⟨p, vs, rfl, hS, hr⟩ := hh.seeL (K := X.K) r s
    exact ⟨p, vs, rfl, .inl hS, fun a ha => hK _ _ G _ _ (q a) (Same.refl G) (hh.newOwn ha (.lst hr)) (.ref a)⟩
  · obtain ⟨p, vs, rfl, hS, hr⟩ := hh.seeT (K := X.K) r s
    exact ⟨p, vs, rfl, .inr hS, fun a ha => hK _ _ G _ _ (q a) (Same.refl G) (hh.newOwn ha (.lst hr)) (.ref a)⟩
theorem wc_tuple {d : D} {ds : List D} [sd : SeeL M R d ds] (q : Q (.tup ds) ⟨sl, M, R⟩) : WC X F (.type "tuple") [d] ⟨sl, M, R⟩ Q := wc_of call_tuple_of fun G σ H xs hh rr K hK => by
  obtain ⟨v, rfl, r⟩ := rr.one
  obtain ⟨p, vs, rfl, hS, hr⟩ := hh.seeL (K := X.K) r sd.see
  refine ⟨p, vs, rfl, .inl ⟨hS, fun a ha => ?_⟩⟩
  obtain ⟨sg, h2⟩ := hh.newSh (o := .tup vs) ha
  have ra := hr.mono sg
  exact hK _ _ _ _ _ q sg h2 (.tup upd_same ra.1 ra.2)
theorem wc_tupleT {ds : List D} (q : Q (.tup ds) Γ) : WC X F (.type "tuple") [.tup ds] Γ Q := wc_of call_tupleT fun G σ H xs hh rr K hK => by
  obtain ⟨v, rfl, r⟩ := rr.one
  obtain ⟨p, vs, rfl, e, rr'⟩ := r.tup_inv
  exact ⟨p, vs, rfl, .inl (.inl (hh.gh _ _ e)), hK.here hh q r⟩
theorem reps_ints {G : Hp} : ∀ {ns : List Int} {vs : List V}, Reps G vs (ns.map D.int) → vs = ns.map V.int
  | [], vs, h => h.nil_inv
  | n :: ns, vs, h => by
    obtain ⟨v, vr, rfl, a, b⟩ := Reps.cons_inv (ds := ns.map D.int) h
    rw [a.int_inv, reps_ints b]; rfl
theorem reps_of_ints {G : Hp} : ∀ {ns : List Int}, Reps G (ns.map V.int) (ns.map D.int)
  | [] => Reps.nil
  | n :: ns => Reps.cons (.int n) reps_of_ints
theorem reps_strs {G : Hp} : ∀ {ns : List Str} {vs : List V}, Reps G vs (ns.map D.str) → vs = ns.map V.str
  | [], vs, h => h.nil_inv
  | n :: ns, vs, h => by
    obtain ⟨v, vr, rfl, a, b⟩ := Reps.cons_inv (ds := ns.map D.str) h
    rw [a.str_inv, reps_strs b]; rfl
theorem reps_bls {G : Hp} : ∀ {ns : List Bool} {vs : List V}, Reps G vs (ns.map D.bl) → vs = ns.map V.bl
  | [], vs, h => h.nil_inv
  | n :: ns, vs, h => by
    obtain ⟨v, vr, rfl, a, b⟩ := Reps.cons_inv (ds := ns.map D.bl) h
    rw [a.bl_inv, reps_bls b]; rfl
theorem wc_sum (hX : Std X) {d : D} {ns : List Int} [sd : SeeL M R d (ns.map D.int)] (q : Q (.int ns.sum) ⟨sl, M, R⟩) : WC X F (.builtin "sum") [d] ⟨sl, M, R⟩ Q := wc_of (cr_sum hX.calm) fun G σ H xs hh rr K hK => by
  obtain ⟨v, rfl, r⟩ := rr.one
  obtain ⟨p, vs, rfl, hS, hr⟩ := hh.seeL (K := X.K) r sd.see
  rw [reps_ints hr] at hS
  exact ⟨p, ns, rfl, hS, hK.here hh q (.int _)⟩
theorem wc_all (hX : Std X) {d : D} {ds : List D} (bs : List Bool) [sd : SeeL M R d ds] (e : ds = bs.map D.bl) (q : Q (.bl (bs.all id)) ⟨sl, M, R⟩) : WC X F (.builtin "all") [d] ⟨sl, M, R⟩ Q := wc_of (cr_all hX.calm) fun G σ H xs hh rr K hK => by
  obtain ⟨v, rfl, r⟩ := rr.one
  obtain ⟨p, vs, rfl, hS, hr⟩ := hh.seeL (K := X.K) r sd.see
  rw [e] at hr
  rw [reps_bls hr] at hS
  exact ⟨p, bs, rfl, hS, hK.here hh q (.bl _)⟩
theorem wc_any (hX : Std X) {d : D} {ds : List D} (bs : List Bool) [sd : SeeL M R d ds] (e : ds = bs.map D.bl) (q : Q (.bl (bs.any id)) ⟨sl, M, R⟩) : WC X F (.builtin "any") [d] ⟨sl, M, R⟩ Q := wc_of (cr_any hX.calm) fun G σ H xs hh rr K hK => by
  obtain ⟨v, rfl, r⟩ := rr.one
  obtain ⟨p, vs, rfl, hS, hr⟩ := hh.seeL (K := X.K) r sd.see
  rw [e] at hr
  rw [reps_bls hr] at hS
  exact ⟨p, bs, rfl, hS, hK.here hh q (.bl _)⟩
/-- isinstance(x, T), T a built-in type's name; the value's own type by its make -/
class TyD (M R : Mem) (d : D) (t : outParam String) : Prop where
  h : ∀ (K : PySem.W.Frag) (F : Fr) (G : Hp) (sl : List (Option D)) (σ : L2.St) (H : Hp) (v : V), Holds F G ⟨sl, M, R⟩ σ H → Rep G v d → TyX K H v (.type t)
instance TyD.non : TyD M R .non "NoneType" := ⟨fun K F G sl σ H v hh r => by rw [r.non_inv]; exact .base .non⟩
instance TyD.bl {b : Bool} : TyD M R (.bl b) "bool" := ⟨fun K F G sl σ H v hh r => by rw [r.bl_inv]; exact .base (.bl b)⟩
instance TyD.int {i : Int} : TyD M R (.int i) "int" := ⟨fun K F G sl σ H v hh r => by rw [r.int_inv]; exact .base (.int i)⟩
instance TyD.str {z : Str} : TyD M R (.str z) "str" := ⟨fun K F G sl σ H v hh r => by rw [r.str_inv]; exact .base (.str z)⟩
instance TyD.lst {d : D} {ds : List D} [sd : SeeL M R d ds] : TyD M R d "list" := ⟨fun K F G sl σ H v hh r => by
  rcases hh.see r sd.see with ⟨p, o, rfl, ho, hs⟩ | ⟨rfl, r⟩
  · obtain ⟨vs, rfl, _⟩ := hs.lst_inv
    rcases ho with ho | ⟨ob, ho⟩
    · exact .base (.lst ho)
    · exact .base (.frz ho)
  · obtain ⟨p, vs, rfl, e, _⟩ := r.lst_inv
    exact .base (.lst (hh.gh _ _ e))⟩
instance TyD.tup {d : D} {ds : List D} [sd : SeeT M R d ds] : TyD M R d "tuple" := ⟨fun K F G sl σ H v hh r => by
  rcases hh.see r sd.see with ⟨p, o, rfl, ho, hs⟩ | ⟨rfl, r⟩
  · obtain ⟨vs, rfl, _⟩ := hs.tup_inv
    rcases ho with ho | ⟨ob, ho⟩
    · exact .base (.tup ho)
    · exact .fTuple ho
  · obtain ⟨p, vs, rfl, e, _⟩ := r.tup_inv
    exact .base (.tup (hh.gh _ _ e))⟩
instance TyD.dK {d : D} {ds : List (Key × D)} [sd : SeeK M R d ds] : TyD M R d "dict" := ⟨fun K F G sl σ H v hh r => by
  obtain ⟨p, kvs, rfl, ho, _⟩ := hh.seeK r sd.see
  rcases ho with ho | ⟨ob, ho⟩
  · exact .base (.dK ho)
  · exact .fDict ho⟩
theorem wc_isi {d : D} {t T : String} {b : Bool} [h : TyD M R d t] (hb : kitB t T = some b) (q : Q (.bl b) ⟨sl, M, R⟩) : WC X F (.builtin "isinstance") [d, .ty T] ⟨sl, M, R⟩ Q := wc_of call_isi fun G σ H xs hh rr K hK => by
  obtain ⟨v, u, rfl, r1, r2⟩ := rr.two
  cases r2
  exact ⟨v, .ty T, _, _, b, rfl, .ty T, h.h X.K F G sl σ H v hh r1, kit_ty hb, hK.here hh q (.bl b)⟩

/-! ### methods of lists -/
def TyM (X : Cx) (F : Fr) (T : String) (d : D) (Γ : DL.Env) : Prop := ∀ G σ H v, Holds F G Γ σ H → Rep G v d → tyV X.K T v H
theorem tym_list {d : D} {ds : List D} [sd : SeeL M R d ds] : TyM X F "list" d ⟨sl, M, R⟩ := fun G σ H v hh r => by
  obtain ⟨p, vs, rfl, hS, _⟩ := hh.seeL (K := X.K) r sd.see
  exact .inl ⟨rfl, vs, hS⟩
theorem tym_str : TyM X F "str" (.str z) Γ := fun G σ H v hh r => by rw [r.str_inv]; rfl
theorem tym_dK {p : Addr} {kds : List (Key × D)} {k : Nat} [h : At M p (.dK kds) k] : TyM X F "dict" (.ref p) ⟨sl, M, R⟩ := fun G σ H v hh r => by
  obtain ⟨_, _, o, ho, hs⟩ := hh.mem.at_ _ (List.mem_of_getElem? h.e)
  obtain ⟨kvs, rfl, _⟩ := hs.dK_inv
  rw [r.ref_inv]
  exact .inr (.inr (.inl ⟨rfl, .inl ⟨kvs, ho⟩⟩))
/-- a method of a built-in type, by values -/
def WM (X : Cx) (F : Fr) (id : String) (o : D) (ds : List D) (Γ : DL.Env) (Q : D → DL.Env → Prop) : Prop :=
  ∀ G σ H x xs, Holds F G Γ σ H → Rep G x o → Reps G xs ds → ∀ R, Good F Q G σ R → ∀ (pins : List (Addr × Obj)) (s : Shared) (v : Value) (us : List Value), Inv X pins σ H s → RelV x v → Vals xs us → wpAny (model X.prog X.w) X.A (call (.builtin id) (v :: us)) (EP X pins σ R) X.xe s
section
variable {o e : Expr} {es : List Expr} {name : Str} {apos cpos : Pos} {T id : String}
theorem we_bm0 (pa : PlainAttrs T) (slot : Slot T name id) (hty : typeOf (.builtin id) = pure (.type "method_descriptor")) (hbase : attributeBase o name X.env (eval o X.env) = eval o X.env) (hline : (apos.endLine == cpos.line) = true)
    (h : WE X F o Γ fun d Γ1 => TyM X F T d Γ1 ∧ WM X F id d [] Γ1 Q) : WE X F (.Call (.Attribute o name apos) [] [] cpos) Γ Q := fun G σ H hh R hR pins s I => by
  have ho : tU X o σ H fun x H1 => tyV X.K T x H1 ∧ ∀ (pins : List (Addr × Obj)) (s : Shared) (v : Value) (us : List Value), Inv X pins σ H1 s → RelV x v → Vals [] us → wpAny (model X.prog X.w) X.A (call (.builtin id) (v :: us)) (EP X pins σ R) X.xe s :=
    h G σ H hh _ fun d Γ1 G1 v H1 q s1 h1 r1 => ⟨q.1 G1 σ H1 v h1 r1, q.2 G1 σ H1 v [] h1 r1 Reps.nil R (hR.later s1)⟩
  refine wpAny_Call_method0_late hbase hline (thn (ho pins s I) fun v s1 ⟨x, H1, I1, r1, ty, q1⟩ => ?_)
  obtain ⟨h1, h2⟩ := tyV_is I1 r1 ty
  exact ⟨T, id, pa, slot, hty, h1, h2, Calls.callWith_builtin rfl (PySem.evalArgs_none (q1 pins s1 v [] I1 r1 .nil))⟩
theorem we_bm (pa : PlainAttrs T) (slot : Slot T name id) (hty : typeOf (.builtin id) = pure (.type "method_descriptor")) (hbase : attributeBase o name X.env (eval o X.env) = eval o X.env)
    (hfew : ((backTo cpos (starEach (e :: es) X.env)).all (fun x => !x.1) && (backToKw cpos (keywordEach [] X.env)).all (fun x => x.1.isSome)
      && decide ((e :: es).length + ([] : List Keyword).length + (if ([] : List Keyword).isEmpty then 0 else 1) < 30)) = true)
    (hline : (apos.endLine == cpos.line) = true) (hs : starEach (e :: es) X.env = (false, eval e X.env) :: starEach es X.env) (hplain : (backTo cpos (starEach es X.env)).any (·.1) = false)
    (h : WE X F o Γ fun d Γ1 => TyM X F T d Γ1 ∧ WAV X F (e :: es) Γ1 fun ds Γ2 => WM X F id d ds Γ2 Q) : WE X F (.Call (.Attribute o name apos) (e :: es) [] cpos) Γ Q := fun G σ H hh R hR pins s I => by
  have ho : tU X o σ H fun x H1 => tyV X.K T x H1 ∧ tUA X (e :: es) σ H1 fun xs H2 => ∀ (pins : List (Addr × Obj)) (s : Shared) (v : Value) (us : List Value), Inv X pins σ H2 s → RelV x v → Vals xs us → wpAny (model X.prog X.w) X.A (call (.builtin id) (v :: us)) (EP X pins σ R) X.xe s :=
    h G σ H hh _ fun d Γ1 G1 v H1 q s1 h1 r1 => ⟨q.1 G1 σ H1 v h1 r1, q.2 G1 σ H1 h1 _ fun ds Γ2 G2 vs H2 q2 s2 h2 r2 => q2 G2 σ H2 v vs h2 (r1.mono s2) r2 R (hR.later (s1.trans s2))⟩
  refine wpAny_Call_method_late hbase hfew hline rfl (thn (ho pins s I) fun v s1 ⟨x, H1, I1, r1, ty, q1⟩ => ?_)
  obtain ⟨h1, h2⟩ := tyV_is I1 r1 ty
  refine ⟨T, id, pa, slot, hty, h1, h2, ?_⟩
  have hA := q1 cpos pins s1 I1
  rw [hs] at hA ⊢
  refine Calls.callWith_builtin (by show (false || (backTo cpos (starEach es X.env)).any (·.1)) = false; rw [hplain] <;> rfl) (Calls.evalArgs_plain ?_)
  exact thn hA fun us s2 ⟨xs, H2, I2, rs, q2⟩ => q2 pins s2 v us I2 r1 rs
end
theorem wm_of {id : String} {o : D} {ds : List D} {r : V → List V → Hp → VK → Prop} (h : MtR X id r) (q : ∀ G σ H x xs, Holds F G Γ σ H → Rep G x o → Reps G xs ds → ∀ R, Good F Q G σ R → r x xs H R) : WM X F id o ds Γ Q :=
  fun G σ H x xs hh r1 r2 R hR pins s v us I rv rs => h pins s σ H x xs v us R I rv rs (q G σ H x xs hh r1 r2 R hR)
section
variable {p : Addr} {xs : List D} {k : Nat} {v : D}
theorem wm_append [h : At M p (.lst xs) k] [h2 : SetM M k (p, .lst (xs ++ [v])) M'] (hl : xs.length < sizeLine) (q : Q .non ⟨sl, M', R⟩) : WM X F "list.append" (.ref p) [v] ⟨sl, M, R⟩ Q := wm_of mt_append fun G σ H x ys hh r1 r2 K hK => by
  obtain ⟨_, _, o, ho, hs⟩ := hh.mem.at_ _ (List.mem_of_getElem? h.e)
  obtain ⟨vs, rfl, hr⟩ := hs.lst_inv
  obtain ⟨y, rfl, ry⟩ := r2.one
  have hw := hh.write h.e (o' := .lst (vs ++ [y])) (.lst (hr.append (Reps.cons ry Reps.nil)))
  rw [← h2.e] at hw
  exact ⟨p, vs, y, r1.ref_inv, rfl, ho, by rw [hr.1]; exact hl, hK _ _ G _ _ q (Same.refl G) hw .non⟩
theorem wm_pop {x : D} [h : At M p (.lst (xs ++ [x])) k] [h2 : SetM M k (p, .lst xs) M'] (q : Q x ⟨sl, M', R⟩) : WM X F "list.pop" (.ref p) [] ⟨sl, M, R⟩ Q := wm_of mt_pop fun G σ H y ys hh r1 r2 K hK => by
  obtain ⟨_, _, o, ho, hs⟩ := hh.mem.at_ _ (List.mem_of_getElem? h.e)
  obtain ⟨vs, rfl, hr⟩ := hs.lst_inv
  have e : (xs ++ [x])[vs.length - 1]? = some x := by rw [hr.1]; simp
  obtain ⟨w, hw, rw'⟩ := hr.get e
  have hwr := hh.write h.e (o' := .lst vs.dropLast) (.lst (by have := hr.dropLast; rw [List.dropLast_concat] at this; exact this))
  rw [← h2.e] at hwr
  exact ⟨p, vs, w, r1.ref_inv, r2.nil_inv, ho, hw, hK _ _ G _ _ q (Same.refl G) hwr rw'⟩
theorem wm_extend {d : D} {ys : List D} [h : At M p (.lst xs) k] [h1 : PlL M d ys] [h2 : SetM M k (p, .lst (xs ++ ys)) M'] (hl : xs.length + ys.length ≤ sizeLine) (q : Q .non ⟨sl, M', R⟩) : WM X F "list.extend" (.ref p) [d] ⟨sl, M, R⟩ Q := wm_of mt_extend fun G σ H x zs hh r1 r2 K hK => by
  obtain ⟨_, _, o, ho, hs⟩ := hh.mem.at_ _ (List.mem_of_getElem? h.e)
  obtain ⟨vs, rfl, hr⟩ := hs.lst_inv
  obtain ⟨y, rfl, ry⟩ := r2.one
  obtain ⟨b, us, rfl, hb, rb⟩ := h1.h F G sl R σ H y hh ry
  have hw := hh.write h.e (o' := .lst (vs ++ us)) (.lst (hr.append rb))
  rw [← h2.e] at hw
  exact ⟨p, b, vs, us, r1.ref_inv, rfl, ho, hb, by rw [hr.1, rb.1]; exact hl, hK _ _ G _ _ q (Same.refl G) hw .non⟩
end

/-! ### slices -/
def WPt (X : Cx) (F : Fr) (e : Option Expr) (Γ : DL.Env) (Q : Option Int → DL.Env → Prop) : Prop := ∀ G σ H, Holds F G Γ σ H → ∀ R : Option Int → Hp → Prop, (∀ o Γ' G' H', Q o Γ' → Same G G' → Holds F G' Γ' σ H' → R o H') →
  ∀ (pins : List (Addr × Obj)) (s : Shared), Inv X pins σ H s → wpAny (model X.prog X.w) X.A (evalPart e X.env) (fun u s' => ∃ o H', Inv X pins σ H' s' ∧ IsPart u o ∧ R o H') X.xe s
theorem wpt_none {Q : Option Int → DL.Env → Prop} (q : Q none Γ) : WPt X F none Γ Q := fun G σ H hh R hR pins s I => po_none.run pins s σ H R I (hR none Γ G H q (Same.refl G) hh)
theorem wpt_some {e : Expr} {Q : Option Int → DL.Env → Prop} (h : WE X F e Γ fun d Γ1 => ∃ i, d = .int i ∧ Q (some i) Γ1) : WPt X F (some e) Γ Q := fun G σ H hh R hR pins s I =>
  (po_some pe_U).run pins s σ H R I (h G σ H hh _ fun d Γ1 G1 v H1 q s1 h1 r => by
    obtain ⟨i, rfl, q⟩ := q
    exact ⟨i, r.int_inv, hR _ Γ1 G1 H1 q s1 h1⟩)
/-- a slice by values -/
def WSl (X : Cx) (F : Fr) (d : D) (lo hi : Option Int) (Γ : DL.Env) (Q : D → DL.Env → Prop) : Prop :=
  ∀ G σ H x, Holds F G Γ σ H → Rep G x d → ∀ R, Good F Q G σ R → ∀ (pins : List (Addr × Obj)) (s : Shared) (v vl vu : Value) (sl : Addr), Inv X pins σ H s → RelV x v → s.heap.IsSliceOf sl vl vu .none → IsPart vl lo → IsPart vu hi →
    ∃ T id, typeLookup (.type T) "__getitem__" = pure (some (.builtin id)) ∧ s.TypeIs v T ∧ wpAny (model X.prog X.w) X.A (getItem v (.ref sl)) (EP X pins σ R) X.xe s
theorem we_slice {e : Expr} {lo hi : Option Expr} {pos p2 : Pos} (h : WE X F e Γ fun d Γ1 => WPt X F lo Γ1 fun l Γ2 => WPt X F hi Γ2 fun u Γ3 => WSl X F d l u Γ3 Q) : WE X F (.Subscript e (.Slice lo hi none p2) pos) Γ Q := fun G σ H hh R hR pins s I => by
  let RS : V → Option Int → Option Int → Hp → Prop := fun x l u H3 => ∀ (pins : List (Addr × Obj)) (s : Shared) (v vl vu : Value) (sl : Addr), Inv X pins σ H3 s → RelV x v → s.heap.IsSliceOf sl vl vu .none → IsPart vl l → IsPart vu u →
    ∃ T id, typeLookup (.type T) "__getitem__" = pure (some (.builtin id)) ∧ s.TypeIs v T ∧ wpAny (model X.prog X.w) X.A (getItem v (.ref sl)) (EP X pins σ R) X.xe s
  let RH : V → Option Int → Hp → Prop := fun x l H2 => ∀ (pins : List (Addr × Obj)) (s : Shared), Inv X pins σ H2 s → wpAny (model X.prog X.w) X.A (evalPart hi X.env) (fun u s' => ∃ o H', Inv X pins σ H' s' ∧ IsPart u o ∧ RS x l o H') X.xe s
  let RL : V → Hp → Prop := fun x H1 => ∀ (pins : List (Addr × Obj)) (s : Shared), Inv X pins σ H1 s → wpAny (model X.prog X.w) X.A (evalPart lo X.env) (fun u s' => ∃ o H', Inv X pins σ H' s' ∧ IsPart u o ∧ RH x o H') X.xe s
  have he : tU X e σ H RL := h G σ H hh _ fun d Γ1 G1 x H1 q s1 h1 r1 => q G1 σ H1 h1 _ fun l Γ2 G2 H2 q2 s2 h2 => q2 G2 σ H2 h2 _ fun u Γ3 G3 H3 q3 s3 h3 =>
    q3 G3 σ H3 x h3 (r1.mono (s2.trans s3)) R (hR.later ((s1.trans s2).trans s3))
  refine Subscript_ (thn (he pins s I) fun v s1 ⟨x, H1, I1, r1, q1⟩ => ?_)
  refine wpAny_Slice (thn (q1 pins s1 I1) fun vl s2 ⟨l, H2, I2, pl, q2⟩ => thn (q2 pins s2 I2) fun vu s3 ⟨u, H3, I3, pu, q3⟩ => ?_)
  rw [evalPart_none]
  refine wpAny_pure ?_
  have I4 : Inv X pins σ H3 { s3 with heap := s3.heap.push { cls := .type "slice", data := .fields #[vl, vu, .none] } } := I3.kept (t' := s3.toks) fun b ob q => Heap.get?_push_of_some _ q
  obtain ⟨T, id, hT, ht, hg⟩ := q3 pins { s3 with heap := s3.heap.push { cls := .type "slice", data := .fields #[vl, vu, .none] } } v vl vu s3.heap.objs.size I4 r1 (Heap.IsSliceOf.new ..) pl pu
  show wpAny (model X.prog X.w) X.A (subscriptTail e (.Slice lo hi none p2) v (.ref s3.heap.objs.size)) (EP X pins σ R) X.xe { s3 with heap := s3.heap.push { cls := .type "slice", data := .fields #[vl, vu, .none] } }
  exact tail_any (ops := [.ref s3.heap.objs.size, v]) ht hT hg (by with_unfolding_all rfl)
theorem wsl_of {d : D} {lo hi : Option Int} {r : V → Option Int → Option Int → Hp → VK → Prop} (h : SlR X r) (q : ∀ G σ H x, Holds F G Γ σ H → Rep G x d → ∀ R, Good F Q G σ R → r x lo hi H R) : WSl X F d lo hi Γ Q :=
  fun G σ H x hh rx R hR pins s v vl vu sl I rv hs pl pu => h pins s σ H x v vl vu lo hi sl R I rv hs pl pu (q G σ H x hh rx R hR)
def cutD {α : Type} (xs : List α) (lo hi : Option Int) : List α := (xs.drop (HT.sIx xs.length 0 lo)).take (HT.sIx xs.length xs.length hi - HT.sIx xs.length 0 lo)
theorem cut_rep {G : Hp} {vs : List V} {ds : List D} (r : Reps G vs ds) (lo hi : Option Int) : Reps G (cutV vs lo hi) (cutD ds lo hi) := by
  unfold cutV cutD
  rw [r.1]
  exact (r.drop _).take _
theorem wsl_list {d : D} {ds : List D} {lo hi : Option Int} [sd : SeeL M R d ds] (q : ∀ p, Q (.ref p) ⟨sl, (p, .lst (cutD ds lo hi)) :: M, R⟩) : WSl X F d lo hi ⟨sl, M, R⟩ Q := wsl_of sl_list fun G σ H x hh rx K hK => by
  obtain ⟨p, vs, rfl, hS, hr⟩ := hh.seeL (K := X.K) rx sd.see
  exact ⟨p, vs, rfl, hS, fun a ha => hK _ _ G _ _ (q a) (Same.refl G) (hh.newOwn ha (.lst (cut_rep hr lo hi))) (.ref a)⟩
/-- xs[::-1] by value -/
def WRev (F : Fr) (d : D) (Γ : DL.Env) (Q : D → DL.Env → Prop) : Prop := ∃ ds, See Γ.M Γ.R d (.lst ds) ∧ ∀ p, Q (.ref p) ⟨Γ.sl, (p, .lst ds.reverse) :: Γ.M, Γ.R⟩
theorem wrev_go {d : D} {ds : List D} [sd : SeeL M R d ds] (q : ∀ p, Q (.ref p) ⟨sl, (p, .lst ds.reverse) :: M, R⟩) : WRev F d ⟨sl, M, R⟩ Q := ⟨ds, sd.see, q⟩
theorem wrev_goM {α : Type} {f : α → D} {d : D} {xs : List α} [sd : SeeL M R d (xs.map f)] (q : ∀ p, Q (.ref p) ⟨sl, (p, .lst (xs.reverse.map f)) :: M, R⟩) : WRev F d ⟨sl, M, R⟩ Q := ⟨xs.map f, sd.see, by rw [← List.map_reverse]; exact q⟩
theorem we_rev {e : Expr} {k : Nat} {p1 p2 p3 pos : Pos} (h : WE X F e Γ fun d Γ1 => WRev F d Γ1 Q) :
    WE X F (.Subscript e (.Slice none none (some (.UnaryOp .USub (.Constant (.int 1) k p1) p2)) p3) pos) Γ Q := fun G σ H hh R hR =>
  tU_of (pe_revL pe_U) (h G σ H hh _ fun d Γ1 G1 v H1 q s1 h1 r => by
    obtain ⟨ds, sd, q⟩ := q
    obtain ⟨p, vs, rfl, hS, hr⟩ := h1.seeL (K := X.K) r sd
    exact ⟨p, vs, rfl, hS, fun a ha => hR _ _ G1 _ _ (q a) s1 (h1.newOwn ha (.lst hr.reverse)) (.ref a)⟩)
theorem cutD_map {α : Type} {f : α → D} {xs : List α} {lo hi : Option Int} : cutD (xs.map f) lo hi = (cutD xs lo hi).map f := by
  unfold cutD
  rw [List.length_map, List.map_take, List.map_drop]
theorem wsl_listM {α : Type} {f : α → D} {d : D} {xs : List α} {lo hi : Option Int} [sd : SeeL M R d (xs.map f)] (q : ∀ p, Q (.ref p) ⟨sl, (p, .lst ((cutD xs lo hi).map f)) :: M, R⟩) : WSl X F d lo hi ⟨sl, M, R⟩ Q := wsl_list (ds := xs.map f) (by rw [cutD_map]; exact q)
theorem wo_catM {α : Type} {f : α → D} {d1 d2 : D} {xs ys : List α} [h1 : PlL M d1 (xs.map f)] [h2 : PlL M d2 (ys.map f)] (hz : xs.length + ys.length ≤ sizeLine) (q : ∀ p, Q (.ref p) ⟨sl, (p, .lst ((xs ++ ys).map f)) :: M, R⟩) : WO X F (binaryOp .Add) d1 d2 ⟨sl, M, R⟩ Q :=
  wo_cat (xs := xs.map f) (ys := ys.map f) (by rw [List.length_map, List.length_map]; exact hz) (by rw [← List.map_append]; exact q)
end
end DL

/-! The D layer, part 7: comprehensions; data that is compared. -/
namespace DL
open PySem PySem.Spec PyProof.Rows L2

/-! ### a comprehension's block -/
def IsBlk (X X' : Cx) (scope : Scope) : Prop := ∃ (s : Shared) (H : Hp) (C : Addr) (cl : List (Str × Addr)) (fp : List Addr), X' = X.blk s H scope (compEnvC scope cl C X.env) fp
section
variable {P : Program} {w : World} {K : PySem.W.Frag} {mg : Str → Option Value} {base : Heap} {k : Nat} {X X' : Cx} {scope : Scope}
theorem IsBlk.inn (b : IsBlk X X' scope) (h : In X P w K mg base k) : In X' P w K mg base k := by
  obtain ⟨s, H, C, cl, fp, rfl⟩ := b
  exact ⟨h.prog, h.w, h.K, h.mg, h.base, h.room, h.calm, h.nd, rfl⟩
theorem relabel_look {env : PySem.Env} : ∀ {names : List (Str × NameKind)} {x : Str} {k : NameKind}, names.lookup x = some k →
    (names.map fun (n, k) => if (k == .free && env.scope.kind == .function && env.kindOf n == some .cell) then (n, .cell) else (n, k)).lookup x = some k ∨ (k = .free ∧ (names.map fun (n, k) => if (k == .free && env.scope.kind == .function && env.kindOf n == some .cell) then (n, .cell) else (n, k)).lookup x = some .cell)
  | [], _, _, h => by simp at h
  | (n, k₀) :: r, x, k, h => by
    rw [List.lookup_cons] at h
    rw [List.map_cons]
    by_cases hx : x == n
    · simp only [hx] at h
      cases h
      by_cases hc : (k₀ == .free && env.scope.kind == .function && env.kindOf n == some .cell) = true
      · have hk : k₀ = .free := by
          have h1 := (Bool.and_eq_true_iff.mp (Bool.and_eq_true_iff.mp hc).1).1
          cases k₀ <;> first | rfl | (revert h1; decide)
        refine .inr ⟨hk, ?_⟩
        simp only [hc, if_true, List.lookup_cons, hx]
      · refine .inl ?_
        simp only [hc, List.lookup_cons, hx, if_false, Bool.false_eq_true]
    · have hx' : (x == n) = false := by simpa using hx
      simp only [hx'] at h
      have ih := relabel_look (env := env) h
      have e : ∀ c : Bool, List.lookup x ((if c = true then (n, NameKind.cell) else (n, k₀)) :: r.map fun (n, k) => if (k == .free && env.scope.kind == .function && env.kindOf n == some .cell) then (n, NameKind.cell) else (n, k)) = List.lookup x (r.map fun (n, k) => if (k == .free && env.scope.kind == .function && env.kindOf n == some .cell) then (n, NameKind.cell) else (n, k)) := by
        intro c
        cases c <;> simp [List.lookup_cons, hx']
      rw [e]
      exact ih
theorem IsBlk.name (b : IsBlk X X' scope) {i : Nat} {x : Str} (hN : X.N[i]? = some x) (hl : scope.names.lookup x = some .local ∨ scope.names.lookup x = some .cell ∨ scope.names.lookup x = some .free) (d1 : (x == ("__debug__" : Str)) = false) (d2 : (x == ("__classdict__" : Str)) = false) : NameAt X' i x := by
  obtain ⟨s, H, C, cl, fp, rfl⟩ := b
  refine ⟨hN, ?_, d1, d2⟩
  rcases hl with h | h | h
  · rcases relabel_look (env := X.env) h with h | ⟨z, _⟩
    · exact .inl h
    · cases z
  · rcases relabel_look (env := X.env) h with h | ⟨z, _⟩
    · exact .inr (.inl h)
    · cases z
  · rcases relabel_look (env := X.env) h with h | ⟨z, h⟩
    · exact .inr (.inr h)
    · exact .inr (.inl h)
theorem IsBlk.store (b : IsBlk X X' scope) {i : Nat} {x : Str} (hN : X.N[i]? = some x) (hl : scope.names.lookup x = some .local ∨ scope.names.lookup x = some .cell) : StoreAt X' i x := by
  obtain ⟨s, H, C, cl, fp, rfl⟩ := b
  rcases hl with h | h
  · rcases relabel_look (env := X.env) h with h' | ⟨z, _⟩
    · exact ⟨hN, .inl h', .inr h'⟩
    · cases z
  · rcases relabel_look (env := X.env) h with h' | ⟨z, _⟩
    · exact ⟨hN, .inr h', .inl (by show (scope.names.lookup x == some .cell) = true; rw [h]; rfl)⟩
    · cases z
theorem IsBlk.gl (b : IsBlk X X' scope) {x : Str} (hl : scope.names.lookup x = some .globalImplicit) : Gl X' x := by
  obtain ⟨s, H, C, cl, fp, rfl⟩ := b
  rcases relabel_look (env := X.env) hl with h | ⟨z, _⟩
  · exact h
  · cases z
theorem IsBlk.blt (b : IsBlk X X' scope) {x : Str} {v : Value} (hl : scope.names.lookup x = some .globalImplicit) (hm : X.mg x = none) (hv : bootBuiltins x = some v) (hn : x ≠ "__name__") (hdb : (x == ("__debug__" : Str)) = false) : BltAt X' x v := by
  have g := b.gl hl
  obtain ⟨s, H, C, cl, fp, rfl⟩ := b
  exact ⟨g, hm, hv, hn, hdb⟩
end

theorem wipe_get (σ : L2.St) : ∀ (vs : List Nat) (j : Nat), (wipe σ vs)[j]? = if j ∈ vs ∧ j < σ.length then some none else σ[j]?
  | [], j => by simp [wipe]
  | v :: vs, j => by
    unfold wipe
    by_cases e : v = j
    · subst e
      rw [List.getElem?_set]
      simp only [if_pos, wipe_length]
      by_cases h : v < σ.length
      · rw [if_pos h, if_pos ⟨List.mem_cons_self, h⟩]
      · rw [if_neg h, if_neg fun z => h z.2, List.getElem?_eq_none (by omega)]
    · rw [List.getElem?_set_ne e, wipe_get σ vs j]
      by_cases h : j ∈ vs ∧ j < σ.length
      · rw [if_pos h, if_pos ⟨List.mem_cons_of_mem _ h.1, h.2⟩]
      · rw [if_neg h, if_neg fun z => h ⟨(List.mem_cons.mp z.1).resolve_left fun q => e q.symm, z.2⟩]
theorem wipe_set {σ : L2.St} {vs : List Nat} {i : Nat} {x : Option V} (h : i ∈ vs) : wipe (σ.set i x) vs = wipe σ vs := by
  apply List.ext_getElem?
  intro j
  rw [wipe_get, wipe_get, List.length_set]
  by_cases e : j ∈ vs ∧ j < σ.length
  · rw [if_pos e, if_pos e]
  · rw [if_neg e, if_neg e]
    by_cases q : i = j
    · subst q
      have hl : ¬ i < σ.length := fun z => e ⟨h, z⟩
      rw [List.getElem?_eq_none (by rw [List.length_set]; omega), List.getElem?_eq_none (by omega)]
    · rw [List.getElem?_set_ne q]
theorem wipe_wipe {σ : L2.St} {vs : List Nat} : wipe (wipe σ vs) vs = wipe σ vs := by
  apply List.ext_getElem?
  intro j
  rw [wipe_get, wipe_get, wipe_length]
  by_cases e : j ∈ vs ∧ j < σ.length
  · rw [if_pos e, if_pos e]
  · rw [if_neg e, if_neg e]
def wipeD (sl : List (Option D)) : List Nat → List (Option D)
  | [] => sl
  | v :: vs => (wipeD sl vs).set v none
theorem wipeD_len (sl : List (Option D)) : ∀ vs, (wipeD sl vs).length = sl.length
  | [] => rfl
  | v :: vs => by unfold wipeD; rw [List.length_set, wipeD_len sl vs]
theorem wipeD_get {sl : List (Option D)} {d : D} : ∀ {vs : List Nat} {j : Nat}, (wipeD sl vs)[j]? = some (some d) → sl[j]? = some (some d) ∧ j ∉ vs
  | [], j, h => ⟨h, by simp⟩
  | v :: vs, j, h => by
    unfold wipeD at h
    by_cases e : v = j
    · subst e
      rw [List.getElem?_set] at h
      simp only [if_pos] at h
      split at h <;> cases h
    · rw [List.getElem?_set_ne e] at h
      obtain ⟨a, b⟩ := wipeD_get h
      exact ⟨a, fun z => (List.mem_cons.mp z).elim (fun q => e q.symm) b⟩
class WipeS (sl : List (Option D)) (vs : List Nat) (sl' : outParam (List (Option D))) : Prop where
  e : sl' = wipeD sl vs
instance WipeS.nil {sl : List (Option D)} : WipeS sl [] sl := ⟨rfl⟩
instance WipeS.cons {sl sl1 sl2 : List (Option D)} {v : Nat} {vs : List Nat} [h : WipeS sl vs sl1] [h2 : SetS sl1 v none sl2] : WipeS sl (v :: vs) sl2 := ⟨by rw [h2.e, h.e]; rfl⟩
section
variable {F : Fr} {G G' : Hp} {σ σ' : L2.St} {H H' : Hp} {sl sl' : List (Option D)} {M M' R : Mem}
/-- other slots -/
theorem Holds.slots (h : Holds F G ⟨sl, M, R⟩ σ H) (hl : σ'.length = sl'.length) (hs : ∀ (i : Nat) (d : D), sl'[i]? = some (some d) → ∃ v, σ'[i]? = some (some v) ∧ Rep G v d) : Holds F G ⟨sl', M, R⟩ σ' H :=
  ⟨h.g0, h.gh, h.bh, h.gb, h.nw, hl, hs, h.mem, h.rd⟩
theorem Holds.wiped (h : Holds F G ⟨sl, M, R⟩ σ H) (vs : List Nat) : Holds F G ⟨wipeD sl vs, M, R⟩ (wipe σ vs) H := by
  refine h.slots (by rw [wipe_length, wipeD_len]; exact h.len) fun i d e => ?_
  obtain ⟨a, b⟩ := wipeD_get e
  obtain ⟨v, c, r⟩ := h.sl i d a
  exact ⟨v, by rw [wipe_get, if_neg fun z => b z.1]; exact c, r⟩
end

/-- a clause's target: it stores at the block's own names alone -/
def WGC (X : Cx) (F : Fr) (tg : Expr) (d : D) (vs : List Nat) (Γ : DL.Env) (Q : DL.Env → Prop) : Prop := ∀ G σ H v, Holds F G Γ σ H → Rep G v d → ∀ R : L2.St → Hp → Prop, (∀ Γ' G' σ' H', Q Γ' → Same G G' → Holds F G' Γ' σ' H' → wipe σ' vs = wipe σ vs → R σ' H') → tUG X tg v σ H R
def WGCs (X : Cx) (F : Fr) (tg : List Expr) (ds : List D) (vs : List Nat) (Γ : DL.Env) (Q : DL.Env → Prop) : Prop := ∀ G σ H xs, Holds F G Γ σ H → Reps G xs ds → ∀ R : L2.St → Hp → Prop, (∀ Γ' G' σ' H', Q Γ' → Same G G' → Holds F G' Γ' σ' H' → wipe σ' vs = wipe σ vs → R σ' H') → tUGs X tg xs σ H R
def WTs (X : Cx) (F : Fr) (ifs : List Expr) (Γ : DL.Env) (Q : Bool → DL.Env → Prop) : Prop := ∀ G σ H, Holds F G Γ σ H → ∀ R : Bool → Hp → Prop, GoodB F Q G σ R → ∀ (pins : List (Addr × Obj)) (s : Shared), Inv X pins σ H s →
  wpAny (model X.prog X.w) X.A (forIn ifs true fun c r => if r = true then do let ok ← isTrue c X.env (eval c X.env); pure (ForInStep.yield ok) else pure (ForInStep.yield r)) (TP X pins σ R) X.xe s
section
variable {X : Cx} {F : Fr} {Γ : DL.Env} {Q : D → DL.Env → Prop} {sl sl' : List (Option D)} {M M' R : Mem} {vs : List Nat} {QG : DL.Env → Prop}
theorem wgc_name {i : Nat} {x : Str} {pos : Pos} {d : D} (hX : Std X) (n : StoreAt X i x) (hi : i ∈ vs) (q : Put i d Γ QG) : WGC X F (.Name x pos) d vs Γ QG := fun G σ H v hh r K hK =>
  tUG_of (pg_name hX.nd n.hN n.loc n.fn) (hK _ G _ H q (Same.refl G) (hh.setSl r i) (wipe_set hi))
theorem wgcs_nil (q : QG Γ) : WGCs X F [] [] vs Γ QG := fun G σ H xs hh r K hK => by
  rw [r.nil_inv]
  exact tUGs_of pgs_nil ⟨rfl, hK Γ G σ H q (Same.refl G) hh rfl⟩
theorem wgcs_cons {e : Expr} {es : List Expr} {d : D} {ds : List D} (hs : (assignEach (e :: es) X.env).map (·.2) = assign e X.env :: (assignEach es X.env).map (·.2)) (h : WGC X F e d vs Γ fun Γ1 => WGCs X F es ds vs Γ1 QG) : WGCs X F (e :: es) (d :: ds) vs Γ QG := fun G σ H xs hh r K hK => by
  obtain ⟨v, vr, rfl, ra, rb⟩ := r.cons_inv
  refine tUGs_of (pgs_cons pg_U pgs_U hs) ⟨v, vr, rfl, h G σ H v hh ra _ fun Γ' G' σ' H' q s h' e1 => q G' σ' H' vr h' (rb.mono s) K fun Γ2 G2 σ2 H2 q2 s2 h2 e2 => hK Γ2 G2 σ2 H2 q2 (s.trans s2) h2 (e2.trans e1)⟩
theorem wgc_tup {es : List Expr} {k : Nat} {pos : Pos} {d : D} {ds : List D} (hX : Std X) [s : SeeT M R d ds] (hn : (assignEach es X.env).length = ds.length) (hst : (assignEach es X.env).findIdx? (·.1) = none) (h : WGCs X F es ds vs ⟨sl, M, R⟩ QG) : WGC X F (.Tuple es k pos) d vs ⟨sl, M, R⟩ QG := fun G σ H v hh r K hK => by
  obtain ⟨p, xs, rfl, hS, hr⟩ := hh.seeT (K := X.K) r s.see
  exact tUG_of (pg_tup hX.calm pgs_U hn hst) ⟨p, xs, rfl, hS, hr.1, h G σ H xs hh hr K hK⟩
theorem wts_nil {Q : Bool → DL.Env → Prop} (q : Q true Γ) : WTs X F [] Γ Q := fun G σ H hh R hR pins s I => pts_nil.run pins s σ H R I (hR true Γ G H q (Same.refl G) hh)
theorem wts_one {c : Expr} {Q : Bool → DL.Env → Prop} (h : WT X F c Γ Q) : WTs X F [c] Γ Q := fun G σ H hh R hR pins s I => (pts_one pt_U).run pins s σ H R I (h G σ H hh R hR)

/-- what a comprehension is asked: the list grows at a; W by the turn, what is made so far, our own things -/
def LcPost (X : Cx) (F : Fr) (tg elt : Expr) (ifs : List Expr) (scope : Scope) (vs : List Nat) (sl : List (Option D)) (M R : Mem) (items : List D) (stand : DL.Env → Prop) (a : Addr) (Q : List D → Mem → Prop) : Prop :=
  ∃ W : Nat → List D → Mem → Prop, W 0 [] M ∧ (∀ i acc M', W i acc M' → stand ⟨wipeD sl vs, (a, .lst acc) :: M', R⟩) ∧
    (∀ (i : Nat) x acc M', items[i]? = some x → W i acc M' → ∀ X', IsBlk X X' scope → WGC X' F tg x vs ⟨wipeD sl vs, (a, .lst acc) :: M', R⟩ fun Γ2 => ∀ X', IsBlk X X' scope → WTs X' F ifs Γ2 fun b Γ3 =>
      (b = true → ∀ X', IsBlk X X' scope → WE X' F elt Γ3 fun y Γ4 => Fz F y Γ4 fun y Γ5 => ∃ s5 M5, Γ5 = ⟨s5, (a, .lst acc) :: M5, R⟩ ∧ acc.length < sizeLine ∧ W (i + 1) (acc ++ [y]) M5) ∧
      (b = false → ∃ s5 M5, Γ3 = ⟨s5, (a, .lst acc) :: M5, R⟩ ∧ W (i + 1) acc M5)) ∧
    ∀ acc M', W items.length acc M' → Q acc M'
def tgB (X : Cx) (tg : Expr) (scope : Scope) : TG := fun v σ H Q => ∀ (s : Shared) (H0 : Hp) (C : Addr) (cl : List (Str × Addr)) (fp : List Addr), tUG (X.blk s H0 scope (compEnvC scope cl C X.env) fp) tg v σ H Q
def ttB (X : Cx) (ifs : List Expr) (scope : Scope) : TT := fun σ H Q => ∀ (s : Shared) (H0 : Hp) (C : Addr) (cl : List (Str × Addr)) (fp : List Addr) (pins : List (Addr × Obj)) (s' : Shared), Inv (X.blk s H0 scope (compEnvC scope cl C X.env) fp) pins σ H s' →
  wpAny (model X.prog X.w) X.A (forIn ifs true fun c r => if r = true then do let ok ← isTrue c (compEnvC scope cl C X.env) (eval c (compEnvC scope cl C X.env)); pure (ForInStep.yield ok) else pure (ForInStep.yield r)) (TP (X.blk s H0 scope (compEnvC scope cl C X.env) fp) pins σ Q) (fun _ _ => False) s'
def teB (X : Cx) (elt : Expr) (scope : Scope) : TE := fun σ H Q => ∀ (s : Shared) (H0 : Hp) (C : Addr) (cl : List (Str × Addr)) (fp : List Addr), tU (X.blk s H0 scope (compEnvC scope cl C X.env) fp) elt σ H Q
theorem pg_B {tg : Expr} {scope : Scope} (s : Shared) (H0 : Hp) (C : Addr) (cl : List (Str × Addr)) (fp : List Addr) : PG (X.blk s H0 scope (compEnvC scope cl C X.env) fp) tg (tgB X tg scope) := ⟨fun pins s' σ H v u Q I r h => h s H0 C cl fp pins s' u I r⟩
theorem pts_B {ifs : List Expr} {scope : Scope} (s : Shared) (H0 : Hp) (C : Addr) (cl : List (Str × Addr)) (fp : List Addr) : PTs (X.blk s H0 scope (compEnvC scope cl C X.env) fp) ifs (ttB X ifs scope) := ⟨fun pins s' σ H Q I h => h s H0 C cl fp pins s' I⟩
theorem pe_B {elt : Expr} {scope : Scope} (s : Shared) (H0 : Hp) (C : Addr) (cl : List (Str × Addr)) (fp : List Addr) : PE (X.blk s H0 scope (compEnvC scope cl C X.env) fp) elt (teB X elt scope) := ⟨fun pins s' σ H Q I h => h s H0 C cl fp pins s' I⟩
theorem lc_sem {tg elt iter : Expr} {ifs : List Expr} {scope : Scope} {own : List (Str × Nat)}
    (h : WI X F tg iter Γ fun items stand Γ1 => ∀ a, LcPost X F tg elt ifs scope (own.map (·.2)) Γ1.sl Γ1.M Γ1.R items stand a fun acc M' => Q (.ref a) ⟨Γ1.sl, (a, .lst acc) :: M', Γ1.R⟩)
    {G : Hp} {σ : L2.St} {H : Hp} (hh : Holds F G Γ σ H) {K : VK} (hK : Good F Q G σ K) :
    tLc (tUI X tg iter) (tgB X tg scope) (ttB X ifs scope) (teB X elt scope) (own.map (·.2)) σ H K := by
  refine h G σ H hh _ fun items stand Γ1 G1 H1 J hp s1 h1 js => ?_
  intro a ha
  obtain ⟨W, w0, wst, turn, done⟩ := hp a
  have hb : Holds F G1 ⟨wipeD Γ1.sl (own.map (·.2)), (a, .lst []) :: Γ1.M, Γ1.R⟩ (wipe σ (own.map (·.2))) (upd H1 a (.lst [])) := (h1.newOwn (o := .lst []) ha (.lst Reps.nil)).wiped (own.map (·.2))
  refine ⟨fun i m H' => i + m = items.length ∧ ∃ acc M' G', Same G1 G' ∧ Holds F G' ⟨wipeD Γ1.sl (own.map (·.2)), (a, .lst acc) :: M', Γ1.R⟩ (wipe σ (own.map (·.2))) H' ∧ W i acc M', ⟨items.length, by omega, [], Γ1.M, G1, Same.refl _, hb, w0⟩, fun i m H' hW => ?_⟩
  obtain ⟨em, acc, M', G', sg, h', w⟩ := hW
  obtain ⟨stop, go⟩ := js _ G' _ H' sg h' (wst i acc M' w)
  by_cases hi : i < items.length
  · obtain ⟨g1, g2⟩ := go i items[i] (List.getElem?_eq_getElem hi)
    -- what the next turn is to find
    have next : ∀ {s5 : List (Option D)} {acc' : List D} {M5 : Mem} {G5 : Hp} {σ5 : L2.St} {H5 : Hp}, Same G1 G5 → Holds F G5 ⟨s5, (a, .lst acc') :: M5, Γ1.R⟩ σ5 H5 → W (i + 1) acc' M5 →
        i + 1 + (m - 1) = items.length ∧ ∃ acc M' G', Same G1 G' ∧ Holds F G' ⟨wipeD Γ1.sl (own.map (·.2)), (a, .lst acc) :: M', Γ1.R⟩ (wipe σ (own.map (·.2))) H5 ∧ W (i + 1) acc M' := fun {s5 acc' M5 G5 σ5 H5} s5' h5 w5 => by
      refine ⟨by omega, acc', M5, G5, s5', ?_, w5⟩
      refine h5.slots hb.len fun j d e => ?_
      obtain ⟨v, c, r⟩ := hb.sl j d e
      exact ⟨v, c, r.mono s5'⟩
    refine .inr ⟨g1, fun H'' => i + 1 + (m - 1) = items.length ∧ ∃ acc M' G', Same G1 G' ∧ Holds F G' ⟨wipeD Γ1.sl (own.map (·.2)), (a, .lst acc) :: M', Γ1.R⟩ (wipe σ (own.map (·.2))) H'' ∧ W (i + 1) acc M', fun H'' z => ⟨m - 1, by omega, z⟩, fun v H'' y => ?_⟩
    obtain ⟨G2, s2, h2, r2⟩ := g2 v H'' y
    intro sh H0 C cl fp
    refine turn i _ acc M' (List.getElem?_eq_getElem hi) w _ ⟨sh, H0, C, cl, fp, rfl⟩ G2 _ H'' v h2 r2 _ fun Γ2 G3 σ3 H3 q3 s3 h3 e3 => ?_
    refine ⟨by rw [e3, wipe_wipe], ?_⟩
    intro sh H0 C cl fp
    intro pins s' I
    refine q3 _ ⟨sh, H0, C, cl, fp, rfl⟩ G3 σ3 H3 h3 _ (fun b Γ4 G4 H4 q4 s4 h4 => ?_) pins s' I
    cases b with
    | false =>
      rw [if_neg Bool.false_ne_true]
      obtain ⟨s5, M5, rfl, w5⟩ := q4.2 rfl
      exact next (((sg.trans s2).trans s3).trans s4) h4 w5
    | true =>
      rw [if_pos rfl]
      intro sh H0 C cl fp
      refine we_fz (q4.1 rfl _ ⟨sh, H0, C, cl, fp, rfl⟩) G4 σ3 H4 h4 _ fun y Γ5 G5 vy H5 q5 s5 h5 r5 => ?_
      obtain ⟨sl5, M5, rfl, hl, w5⟩ := q5
      obtain ⟨_, _, o, ho, hs⟩ := h5.mem.at_ (a, .lst acc) List.mem_cons_self
      obtain ⟨vs5, rfl, hr⟩ := hs.lst_inv
      refine ⟨vs5, ho, by rw [hr.1]; exact hl, ?_⟩
      have hw := h5.write (k := 0) (c := .lst acc) (c' := .lst (acc ++ [y])) (o' := .lst (vs5 ++ [vy])) rfl (.lst (hr.append (Reps.cons r5 Reps.nil)))
      exact next ((((sg.trans s2).trans s3).trans s4).trans s5) hw w5
  · have ei : i = items.length := by omega
    subst ei
    refine .inl ⟨stop, hK _ _ G' _ _ (done acc M' w) (s1.trans sg) ?_ (.ref a)⟩
    refine h'.slots h1.len fun j d e => ?_
    obtain ⟨v, c, r⟩ := h1.sl j d e
    exact ⟨v, c, r.mono sg⟩
theorem we_lc {tg elt iter : Expr} {ifs : List Expr} {scope : Scope} {own : List (Str × Nat)} {pos : Pos} (hX : Std X) (ok : BlkOk X.N X.env.scope scope own) (hs : ∀ x, foldedSetIterable iter X.env x = pure x)
    (h : WI X F tg iter Γ fun items stand Γ1 => ∀ a, LcPost X F tg elt ifs scope (own.map (·.2)) Γ1.sl Γ1.M Γ1.R items stand a fun acc M' => Q (.ref a) ⟨Γ1.sl, (a, .lst acc) :: M', Γ1.R⟩) :
    WE X F (.ListComp elt [⟨tg, iter, ifs, 0⟩] scope pos) Γ Q := fun G σ H hh K hK => by
  refine tU_of (pe_lc hX.calm hX.nd pi_U ok pg_B pts_B pe_B hs) ?_
  exact lc_sem h hh hK
theorem ws_setLc {i : Nat} {y : Str} {py pos spos : Pos} {tg elt iter : Expr} {ifs : List Expr} {scope : Scope} {own : List (Str × Nat)} {O : Out} (hX : Std X) (hy : X.N[i]? = some y) (hyl : X.env.scope.names.lookup y = some .local)
    (hsw : swapsWith (.ListComp elt [⟨tg, iter, ifs, 0⟩] scope pos) (some (.Name y py)) spos.line X.env = pure true) (ok : BlkOk X.N X.env.scope scope own) (hs : ∀ x, foldedSetIterable iter X.env x = pure x)
    (h : WI X F tg iter Γ fun items stand Γ1 => ∀ a, LcPost X F tg elt ifs scope (own.map (·.2)) Γ1.sl Γ1.M Γ1.R items stand a fun acc M' => Put i (.ref a) ⟨Γ1.sl, (a, .lst acc) :: M', Γ1.R⟩ O.nx) :
    WS X F (.Assign [.Name y py] (.ListComp elt [⟨tg, iter, ifs, 0⟩] scope pos) spos) Γ O := fun G σ H hh E hE => by
  refine tUS_of (ps_setLc hX.calm hX.nd hy hyl hsw pi_U ok pg_B pts_B pe_B hs) ?_
  exact lc_sem (Q := fun d Γ1 => Put i d Γ1 O.nx) h hh fun d Γ1 G1 v H1 q s1 h1 r1 => hE.nx _ G1 _ H1 q s1 (h1.setSl r1 i)
end

/-! ### data that is compared -/
mutual
def D.py : D → PyData
  | .non => .none
  | .bl b => .bool b
  | .int i => .int i
  | .str x => .str x
  | .tup ds => .tuple (pys ds)
  | .lst ds => .list (pys ds)
  | _ => .none
def pys : List D → List PyData
  | [] => []
  | d :: ds => d.py :: pys ds
end
mutual
def D.pure : D → Bool
  | .non => true
  | .bl _ => true
  | .int _ => true
  | .str _ => true
  | .tup ds => pures ds
  | .lst ds => pures ds
  | _ => false
def pures : List D → Bool
  | [] => true
  | d :: ds => d.pure && pures ds
end
mutual
theorem dp_of {K : PySem.W.Frag} {G H : Hp} (e : Same G H) : ∀ (d : D) (v : V), Rep G v d → d.pure = true → Dp K H v d.py
  | .non, v, r, _ => by rw [r.non_inv]; exact .non
  | .bl b, v, r, _ => by rw [r.bl_inv]; exact .bl b
  | .int i, v, r, _ => by rw [r.int_inv]; exact .int i
  | .str x, v, r, _ => by rw [r.str_inv]; exact .str x
  | .tup ds, v, r, h => by
    obtain ⟨p, vs, rfl, e1, rr⟩ := r.tup_inv
    rw [D.py]
    exact .tup (.inl (.inl (e _ _ e1))) (dps_of e ds vs rr (by rw [D.pure] at h; exact h))
  | .lst ds, v, r, h => by
    obtain ⟨p, vs, rfl, e1, rr⟩ := r.lst_inv
    rw [D.py]
    exact .lst (.inl (.inl (e _ _ e1))) (dps_of e ds vs rr (by rw [D.pure] at h; exact h))
  | .ref _, v, r, h => by simp [D.pure] at h
  | .ty _, v, r, h => by simp [D.pure] at h
  | .dK _, v, r, h => by simp [D.pure] at h
  | .dT _, v, r, h => by simp [D.pure] at h
  | .st _, v, r, h => by simp [D.pure] at h
  | .ins _ _, v, r, h => by simp [D.pure] at h
theorem dps_of {K : PySem.W.Frag} {G H : Hp} (e : Same G H) : ∀ (ds : List D) (vs : List V), Reps G vs ds → pures ds = true → DpAll K H vs (pys ds)
  | [], vs, r, _ => by rw [r.nil_inv, pys]; exact .nil
  | d :: ds, vs, r, h => by
    obtain ⟨v, vr, rfl, a, b⟩ := r.cons_inv
    rw [pures, Bool.and_eq_true] at h
    rw [pys]
    exact .cons (dp_of e d v a h.1) (dps_of e ds vr b h.2)
end
/-- a value as it is compared -/
class SeeA (M R : Mem) (d : D) (c : outParam D) : Prop where
  see : See M R d c
instance (priority := 10) SeeA.self {M R : Mem} {d : D} : SeeA M R d d := ⟨.self _⟩
instance SeeA.rd {M R : Mem} {p : Addr} {c : D} {k : Nat} [h : At R p c k] : SeeA M R (.ref p) c := ⟨.rd (List.mem_of_getElem? h.e)⟩
instance SeeA.own {M R : Mem} {p : Addr} {c : D} {k : Nat} [h : At M p c k] : SeeA M R (.ref p) c := ⟨.own (List.mem_of_getElem? h.e)⟩
instance (priority := low) SeeA.wk {R : Mem} {d c : D} {q : Addr × D} [h : SeeA [] R d c] : SeeA [] (q :: R) d c := ⟨see_wk h.see⟩
instance (priority := low) SeeA.any' {M R : Mem} {d c : D} [h : SeeA [] R d c] : SeeA M R d c := ⟨h.see.any⟩
section
variable {X : Cx} {F : Fr} {Q : D → DL.Env → Prop} {sl : List (Option D)} {M R : Mem}
theorem Holds.seeDp {G : Hp} {σ : L2.St} {H : Hp} {Γ : DL.Env} (hh : Holds F G Γ σ H) {K : PySem.W.Frag} {d c : D} {v : V} (r : Rep G v d) (s : See Γ.M Γ.R d c) (h : c.pure = true) : Dp K H v c.py := by
  rcases hh.see r s with ⟨p, o, rfl, ho, hs⟩ | ⟨rfl, r⟩
  · cases hs with
    | lst rr =>
      rw [D.pure] at h; rw [D.py]
      exact .lst (.inl ho) (dps_of hh.gh _ _ rr h)
    | tup rr =>
      rw [D.pure] at h; rw [D.py]
      exact .tup (.inl ho) (dps_of hh.gh _ _ rr h)
    | dK _ _ => simp [D.pure] at h
    | dT _ _ => simp [D.pure] at h
    | ins _ _ => simp [D.pure] at h
  · exact dp_of hh.gh _ _ r h
def okPy (c : D) : Prop := c.pure = true ∧ SeqAt.shaped c.py = true
theorem wo_eqD (hX : Std X) {d1 d2 c1 c2 : D} [s1 : SeeA M R d1 c1] [s2 : SeeA M R d2 c2] (h1 : okPy c1) (h2 : okPy c2) (q : Q (.bl (PyData.eqv c1.py c2.py)) ⟨sl, M, R⟩) : WO X F (compareOp .Eq) d1 d2 ⟨sl, M, R⟩ Q :=
  wo_of (op_eqD hX.hu) fun G σ H x y hh r1 r2 K hK => ⟨_, _, hh.seeDp r1 s1.see h1.1, hh.seeDp r2 s2.see h2.1, h1.2, h2.2, hK.here hh q (.bl _)⟩
theorem wo_neD (hX : Std X) {d1 d2 c1 c2 : D} [s1 : SeeA M R d1 c1] [s2 : SeeA M R d2 c2] (h1 : okPy c1) (h2 : okPy c2) (q : Q (.bl (!PyData.eqv c1.py c2.py)) ⟨sl, M, R⟩) : WO X F (compareOp .NotEq) d1 d2 ⟨sl, M, R⟩ Q :=
  wo_of (op_neD hX.hu) fun G σ H x y hh r1 r2 K hK => ⟨_, _, hh.seeDp r1 s1.see h1.1, hh.seeDp r2 s2.see h2.1, h1.2, h2.2, hK.here hh q (.bl _)⟩
end
end DL

/-! The D layer, part 8: names of a def's context; the defs of a text; branches. -/
namespace DL
open PySem PySem.Spec PyProof.Rows L2

section
variable {P : Program} {w : World} {K : PySem.W.Frag} {mg : Str → Option Value} {base : Heap} {k : Nat} {X : Cx} {N : List Str} {sc : Scope}
theorem Nm.name (n : Nm X N sc) {i : Nat} {x : Str} (hN : N[i]? = some x) (hl : sc.names.lookup x = some .local ∨ sc.names.lookup x = some .cell) (d1 : (x == ("__debug__" : Str)) = false) (d2 : (x == ("__classdict__" : Str)) = false) : NameAt X i x := by
  refine ⟨by rw [n.N]; exact hN, ?_, d1, d2⟩
  rw [n.sc]
  exact hl.elim .inl fun z => .inr (.inl z)
theorem Nm.store (n : Nm X N sc) {i : Nat} {x : Str} (hN : N[i]? = some x) (hl : sc.names.lookup x = some .local ∨ sc.names.lookup x = some .cell) : StoreAt X i x :=
  ⟨by rw [n.N]; exact hN, by rw [n.sc]; exact hl, .inl (by rw [n.fn])⟩
theorem Nm.gl (n : Nm X N sc) {x : Str} (hl : sc.names.lookup x = some .globalImplicit) : Gl X x := by
  show X.env.scope.names.lookup x = _
  rw [n.sc]; exact hl
theorem Nm.blt (n : Nm X N sc) (hX : In X P w K mg base k) {x : Str} {v : Value} (hl : sc.names.lookup x = some .globalImplicit) (hm : mg x = none) (hv : bootBuiltins x = some v) (hn : x ≠ "__name__") (hdb : (x == ("__debug__" : Str)) = false) : BltAt X x v :=
  ⟨n.gl hl, by rw [hX.mg]; exact hm, hv, hn, hdb⟩
theorem IsBlk.blt' {X' : Cx} {scope : Scope} (b : IsBlk X X' scope) (hX : In X P w K mg base k) {x : Str} {v : Value} (hl : scope.names.lookup x = some .globalImplicit) (hm : mg x = none) (hv : bootBuiltins x = some v) (hn : x ≠ "__name__") (hdb : (x == ("__debug__" : Str)) = false) : BltAt X' x v :=
  b.blt hl (by rw [hX.mg]; exact hm) hv hn hdb
theorem Nm.blk (n : Nm X N sc) {scope : Scope} {own : List (Str × Nat)} (h : blkC N sc scope own = true) : BlkOk X.N X.env.scope scope own := by
  rw [n.N, n.sc]; exact blkOk_by h
/-- a def of the text -/
def DefAt (K : PySem.W.Frag) (mg : Str → Option Value) (x : Str) (st : Stmt) : Prop := ∃ (f : Addr) (fd : FuncData), Fun K x x st f fd ∧ mg x = some (.ref f)
theorem calD {x : Str} {st : Stmt} {N ps : List Str} {k : Nat} {S : SpD} (Da : DefAt K mg x st) (Sc : FnScope N ps (defScope st)) (hb : ∀ f fd, Fun K x x st f fd → Binds K fd ps []) (len : ∀ ds M R Q, S ds M R Q → ds.length = ps.length)
    (hbody : ∀ (X : Cx) (F : Fr), In X P w K mg base k → Nm X N (defScope st) → ∀ ds M R Q, S ds M R Q → WSs X F (defBody st) ⟨startD N.length ds, M, R⟩ (outD Q)) : Cal P w K mg base (k + 1) x S := by
  obtain ⟨f, fd, Fu, hm⟩ := Da
  exact ⟨f, fd, ps, fnD Fu Sc len hbody, hm, Fu.kp, hb f fd Fu⟩
end

/-! ### isinstance -/
class Kit (t T : String) (b : outParam Bool) : Prop where
  h : kitB t T = some b
instance : Kit "NoneType" "int" false := ⟨by decide +kernel⟩
instance : Kit "NoneType" "bool" false := ⟨by decide +kernel⟩
instance : Kit "NoneType" "str" false := ⟨by decide +kernel⟩
instance : Kit "NoneType" "tuple" false := ⟨by decide +kernel⟩
instance : Kit "NoneType" "list" false := ⟨by decide +kernel⟩
instance : Kit "NoneType" "dict" false := ⟨by decide +kernel⟩
instance : Kit "int" "int" true := ⟨by decide +kernel⟩
instance : Kit "int" "bool" false := ⟨by decide +kernel⟩
instance : Kit "int" "str" false := ⟨by decide +kernel⟩
instance : Kit "int" "tuple" false := ⟨by decide +kernel⟩
instance : Kit "int" "list" false := ⟨by decide +kernel⟩
instance : Kit "int" "dict" false := ⟨by decide +kernel⟩
instance : Kit "str" "int" false := ⟨by decide +kernel⟩
instance : Kit "str" "bool" false := ⟨by decide +kernel⟩
instance : Kit "str" "str" true := ⟨by decide +kernel⟩
instance : Kit "str" "tuple" false := ⟨by decide +kernel⟩
instance : Kit "str" "list" false := ⟨by decide +kernel⟩
instance : Kit "str" "dict" false := ⟨by decide +kernel⟩
instance : Kit "bool" "int" true := ⟨by decide +kernel⟩
instance : Kit "bool" "bool" true := ⟨by decide +kernel⟩
instance : Kit "bool" "str" false := ⟨by decide +kernel⟩
instance : Kit "bool" "tuple" false := ⟨by decide +kernel⟩
instance : Kit "bool" "list" false := ⟨by decide +kernel⟩
instance : Kit "bool" "dict" false := ⟨by decide +kernel⟩
instance : Kit "list" "int" false := ⟨by decide +kernel⟩
instance : Kit "list" "bool" false := ⟨by decide +kernel⟩
instance : Kit "list" "str" false := ⟨by decide +kernel⟩
instance : Kit "list" "tuple" false := ⟨by decide +kernel⟩
instance : Kit "list" "list" true := ⟨by decide +kernel⟩
instance : Kit "list" "dict" false := ⟨by decide +kernel⟩
instance : Kit "tuple" "int" false := ⟨by decide +kernel⟩
instance : Kit "tuple" "bool" false := ⟨by decide +kernel⟩
instance : Kit "tuple" "str" false := ⟨by decide +kernel⟩
instance : Kit "tuple" "tuple" true := ⟨by decide +kernel⟩
instance : Kit "tuple" "list" false := ⟨by decide +kernel⟩
instance : Kit "tuple" "dict" false := ⟨by decide +kernel⟩
instance : Kit "dict" "int" false := ⟨by decide +kernel⟩
instance : Kit "dict" "bool" false := ⟨by decide +kernel⟩
instance : Kit "dict" "str" false := ⟨by decide +kernel⟩
instance : Kit "dict" "tuple" false := ⟨by decide +kernel⟩
instance : Kit "dict" "list" false := ⟨by decide +kernel⟩
instance : Kit "dict" "dict" true := ⟨by decide +kernel⟩
theorem wc_isK {X : Cx} {F : Fr} {Q : D → DL.Env → Prop} {sl : List (Option D)} {M R : Mem} {d : D} {t T : String} {b : Bool} [h : TyD M R d t] [k : Kit t T b] (q : Q (.bl b) ⟨sl, M, R⟩) : WC X F (.builtin "isinstance") [d, .ty T] ⟨sl, M, R⟩ Q := wc_isi k.h q

/-! ### comprehensions -/
def LcEnd (F : Fr) (a : Addr) (acc : List D) (R : Mem) (W : List D → Mem → Prop) (y : D) (Γ : DL.Env) : Prop := Fz F y Γ fun y Γ5 => ∃ s5 M5, Γ5 = ⟨s5, (a, .lst acc) :: M5, R⟩ ∧ acc.length < sizeLine ∧ W (acc ++ [y]) M5
def LcAt (X : Cx) (F : Fr) (tg elt : Expr) (ifs : List Expr) (scope : Scope) (vs : List Nat) (items : List D) (stand : DL.Env → Prop) (Γ : DL.Env) (Q : D → DL.Env → Prop) : Prop :=
  ∀ a, LcPost X F tg elt ifs scope vs Γ.sl Γ.M Γ.R items stand a fun acc M' => Q (.ref a) ⟨Γ.sl, (a, .lst acc) :: M', Γ.R⟩
theorem lcend_id {F : Fr} {a : Addr} {acc : List D} {R M5 : Mem} {s5 : List (Option D)} {W : List D → Mem → Prop} {y : D} (hl : acc.length < sizeLine) (hw : W (acc ++ [y]) M5) : LcEnd F a acc R W y ⟨s5, (a, .lst acc) :: M5, R⟩ := fz_id ⟨_, _, rfl, hl, hw⟩
theorem lcend_lst {F : Fr} {a p : Addr} {acc ds : List D} {R M M5 : Mem} {k : Nat} {s5 s6 : List (Option D)} {W : List D → Mem → Prop} [h : At M p (.lst ds) k] [h2 : DelM M k ((a, .lst acc) :: M5)] [h3 : FzS s5 p (.lst ds) s6] (hl : acc.length < sizeLine) (hw : W (acc ++ [.lst ds]) M5) : LcEnd F a acc R W (.ref p) ⟨s5, M, R⟩ := fz_lst ⟨_, _, rfl, hl, hw⟩
section
variable {P : Program} {w : World} {K : PySem.W.Frag} {mg : Str → Option Value} {base : Heap} {k : Nat} {X : Cx} {F : Fr} {Γ : DL.Env} {Q : D → DL.Env → Prop} {sl slw : List (Option D)} {M R : Mem} {elt c : Expr} {scope : Scope} {items : List D} {stand : DL.Env → Prop}
/-- [e for x in ..] -/
theorem lc_name {i : Nat} {x : Str} {pos : Pos} (hX : In X P w K mg base k) (hN : X.N[i]? = some x) (hl : scope.names.lookup x = some .local ∨ scope.names.lookup x = some .cell) [h : WipeS sl [i] slw]
    (W : Nat → List D → Mem → Prop) (w0 : W 0 [] M) (hst : ∀ a j acc M', W j acc M' → stand ⟨slw, (a, .lst acc) :: M', R⟩)
    (turn : ∀ a (j : Nat) d acc M', items[j]? = some d → W j acc M' → Put i d ⟨slw, (a, .lst acc) :: M', R⟩ fun Γ2 => ∀ X', IsBlk X X' scope → WE X' F elt Γ2 (LcEnd F a acc R (W (j + 1))))
    (done : ∀ a acc M', W items.length acc M' → Q (.ref a) ⟨sl, (a, .lst acc) :: M', R⟩) : LcAt X F (.Name x pos) elt [] scope [i] items stand ⟨sl, M, R⟩ Q := fun a => by
  refine ⟨W, w0, fun j acc M' hw => ?_, fun j d acc M' hd hw X' hb => ?_, done a⟩
  · rw [← h.e]; exact hst a j acc M' hw
  · rw [← h.e]
    have hX' := (hb.inn hX).std
    refine wgc_name hX' (hb.store hN hl) List.mem_cons_self ?_
    intro X2 hb2
    refine wts_nil ⟨fun _ X3 hb3 => ?_, fun z => Bool.noConfusion z⟩
    exact turn a j d acc M' hd hw X3 hb3
/-- [e for x in .. if c] -/
theorem lc_name1 {i : Nat} {x : Str} {pos : Pos} (hX : In X P w K mg base k) (hN : X.N[i]? = some x) (hl : scope.names.lookup x = some .local ∨ scope.names.lookup x = some .cell) [h : WipeS sl [i] slw]
    (W : Nat → List D → Mem → Prop) (w0 : W 0 [] M) (hst : ∀ a j acc M', W j acc M' → stand ⟨slw, (a, .lst acc) :: M', R⟩)
    (turn : ∀ a (j : Nat) d acc M', items[j]? = some d → W j acc M' → Put i d ⟨slw, (a, .lst acc) :: M', R⟩ fun Γ2 => ∀ X', IsBlk X X' scope → WT X' F c Γ2 fun b Γ3 => (b = true → ∀ X', IsBlk X X' scope → WE X' F elt Γ3 (LcEnd F a acc R (W (j + 1)))) ∧ (b = false → ∃ s5 M5, Γ3 = ⟨s5, (a, .lst acc) :: M5, R⟩ ∧ W (j + 1) acc M5))
    (done : ∀ a acc M', W items.length acc M' → Q (.ref a) ⟨sl, (a, .lst acc) :: M', R⟩) : LcAt X F (.Name x pos) elt [c] scope [i] items stand ⟨sl, M, R⟩ Q := fun a => by
  refine ⟨W, w0, fun j acc M' hw => ?_, fun j d acc M' hd hw X' hb => ?_, done a⟩
  · rw [← h.e]; exact hst a j acc M' hw
  · rw [← h.e]
    have hX' := (hb.inn hX).std
    refine wgc_name hX' (hb.store hN hl) List.mem_cons_self ?_
    intro X2 hb2
    exact wts_one (turn a j d acc M' hd hw X2 hb2)
/-- [e for x, y in ..] -/
theorem lc_two {i i2 kt : Nat} {x x2 : Str} {pos p1 p2 : Pos} (hX : In X P w K mg base k) (hN : X.N[i]? = some x) (hl : scope.names.lookup x = some .local ∨ scope.names.lookup x = some .cell) (hN2 : X.N[i2]? = some x2) (hl2 : scope.names.lookup x2 = some .local ∨ scope.names.lookup x2 = some .cell) [h : WipeS sl [i, i2] slw]
    (W : Nat → List D → Mem → Prop) (w0 : W 0 [] M) (hst : ∀ a j acc M', W j acc M' → stand ⟨slw, (a, .lst acc) :: M', R⟩)
    (turn : ∀ a (j : Nat) d acc M', items[j]? = some d → W j acc M' → ∃ d1 d2, d = .tup [d1, d2] ∧ Put i d1 ⟨slw, (a, .lst acc) :: M', R⟩ fun Γ1 => Put i2 d2 Γ1 fun Γ2 => ∀ X', IsBlk X X' scope → WE X' F elt Γ2 (LcEnd F a acc R (W (j + 1))))
    (done : ∀ a acc M', W items.length acc M' → Q (.ref a) ⟨sl, (a, .lst acc) :: M', R⟩) : LcAt X F (.Tuple [.Name x p1, .Name x2 p2] kt pos) elt [] scope [i, i2] items stand ⟨sl, M, R⟩ Q := fun a => by
  refine ⟨W, w0, fun j acc M' hw => ?_, fun j d acc M' hd hw X' hb => ?_, done a⟩
  · rw [← h.e]; exact hst a j acc M' hw
  · rw [← h.e]
    have hX' := (hb.inn hX).std
    obtain ⟨d1, d2, rfl, ht⟩ := turn a j d acc M' hd hw
    refine wgc_tup hX' rfl rfl ?_
    refine wgcs_cons rfl (wgc_name hX' (hb.store hN hl) List.mem_cons_self ?_)
    refine wgcs_cons rfl (wgc_name hX' (hb.store hN2 hl2) (List.mem_cons_of_mem _ List.mem_cons_self) ?_)
    refine wgcs_nil ?_
    intro X2 hb2
    refine wts_nil ⟨fun _ X3 hb3 => ?_, fun z => Bool.noConfusion z⟩
    exact ht X3 hb3
theorem lc_two1 {i i2 kt : Nat} {x x2 : Str} {pos p1 p2 : Pos} (hX : In X P w K mg base k) (hN : X.N[i]? = some x) (hl : scope.names.lookup x = some .local ∨ scope.names.lookup x = some .cell) (hN2 : X.N[i2]? = some x2) (hl2 : scope.names.lookup x2 = some .local ∨ scope.names.lookup x2 = some .cell) [h : WipeS sl [i, i2] slw]
    (W : Nat → List D → Mem → Prop) (w0 : W 0 [] M) (hst : ∀ a j acc M', W j acc M' → stand ⟨slw, (a, .lst acc) :: M', R⟩)
    (turn : ∀ a (j : Nat) d acc M', items[j]? = some d → W j acc M' → ∃ d1 d2, d = .tup [d1, d2] ∧ Put i d1 ⟨slw, (a, .lst acc) :: M', R⟩ fun Γ1 => Put i2 d2 Γ1 fun Γ2 => ∀ X', IsBlk X X' scope → WT X' F c Γ2 fun b Γ3 => (b = true → ∀ X', IsBlk X X' scope → WE X' F elt Γ3 (LcEnd F a acc R (W (j + 1)))) ∧ (b = false → ∃ s5 M5, Γ3 = ⟨s5, (a, .lst acc) :: M5, R⟩ ∧ W (j + 1) acc M5))
    (done : ∀ a acc M', W items.length acc M' → Q (.ref a) ⟨sl, (a, .lst acc) :: M', R⟩) : LcAt X F (.Tuple [.Name x p1, .Name x2 p2] kt pos) elt [c] scope [i, i2] items stand ⟨sl, M, R⟩ Q := fun a => by
  refine ⟨W, w0, fun j acc M' hw => ?_, fun j d acc M' hd hw X' hb => ?_, done a⟩
  · rw [← h.e]; exact hst a j acc M' hw
  · rw [← h.e]
    have hX' := (hb.inn hX).std
    obtain ⟨d1, d2, rfl, ht⟩ := turn a j d acc M' hd hw
    refine wgc_tup hX' rfl rfl ?_
    refine wgcs_cons rfl (wgc_name hX' (hb.store hN hl) List.mem_cons_self ?_)
    refine wgcs_cons rfl (wgc_name hX' (hb.store hN2 hl2) (List.mem_cons_of_mem _ List.mem_cons_self) ?_)
    refine wgcs_nil ?_
    intro X2 hb2
    exact wts_one (ht X2 hb2)
theorem we_lc' {tg iter : Expr} {ifs : List Expr} {own : List (Str × Nat)} {vs : List Nat} {pos : Pos} (hX : Std X) (ok : BlkOk X.N X.env.scope scope own) (hs : ∀ x, foldedSetIterable iter X.env x = pure x) (hv : own.map (·.2) = vs)
    (h : WI X F tg iter Γ fun items stand Γ1 => LcAt X F tg elt ifs scope vs items stand Γ1 Q) : WE X F (.ListComp elt [⟨tg, iter, ifs, 0⟩] scope pos) Γ Q := we_lc hX ok hs (by rw [hv]; exact h)
theorem ws_setLc' {i : Nat} {y : Str} {py pos spos : Pos} {tg iter : Expr} {ifs : List Expr} {own : List (Str × Nat)} {vs : List Nat} {O : Out} (hX : Std X) (hy : X.N[i]? = some y) (hyl : X.env.scope.names.lookup y = some .local)
    (hsw : swapsWith (.ListComp elt [⟨tg, iter, ifs, 0⟩] scope pos) (some (.Name y py)) spos.line X.env = pure true) (ok : BlkOk X.N X.env.scope scope own) (hs : ∀ x, foldedSetIterable iter X.env x = pure x) (hv : own.map (·.2) = vs)
    (h : WI X F tg iter Γ fun items stand Γ1 => LcAt X F tg elt ifs scope vs items stand Γ1 fun d Γ2 => Put i d Γ2 O.nx) :
    WS X F (.Assign [.Name y py] (.ListComp elt [⟨tg, iter, ifs, 0⟩] scope pos) spos) Γ O := ws_setLc hX hy hyl hsw ok hs (by rw [hv]; exact h)
end

/-! ### branches -/
section
variable {A B : Prop} {p : Prop} [Decidable p] {c : Bool}
theorem br_true (h : A) : (true = true → A) ∧ (true = false → B) := ⟨fun _ => h, fun z => Bool.noConfusion z⟩
theorem br_false (h : B) : (false = true → A) ∧ (false = false → B) := ⟨fun z => Bool.noConfusion z, fun _ => h⟩
theorem br_dec (h1 : p → A) (h2 : ¬ p → B) : (decide p = true → A) ∧ (decide p = false → B) := ⟨fun z => h1 (of_decide_eq_true z), fun z => h2 (of_decide_eq_false z)⟩
theorem br_ndec (h1 : ¬ p → A) (h2 : p → B) : ((!decide p) = true → A) ∧ ((!decide p) = false → B) := by
  refine ⟨fun z => h1 ?_, fun z => h2 ?_⟩
  · simpa using z
  · simpa using z
theorem br_nndec (h1 : p → A) (h2 : ¬ p → B) : ((!(!decide p)) = true → A) ∧ ((!(!decide p)) = false → B) := by
  rw [Bool.not_not]; exact br_dec h1 h2
theorem br_is (e : c = true) (h : A) : (c = true → A) ∧ (c = false → B) := ⟨fun _ => h, fun z => by rw [e] at z; cases z⟩
theorem br_isnot (e : c = false) (h : B) : (c = true → A) ∧ (c = false → B) := ⟨fun z => (by rw [e] at z; cases z), fun _ => h⟩
/-- the other order: or -/
theorem rb_true (h : B) : (true = false → A) ∧ (true = true → B) := ⟨fun z => Bool.noConfusion z, fun _ => h⟩
theorem rb_false (h : A) : (false = false → A) ∧ (false = true → B) := ⟨fun _ => h, fun z => Bool.noConfusion z⟩
theorem rb_dec (h1 : ¬ p → A) (h2 : p → B) : (decide p = false → A) ∧ (decide p = true → B) := ⟨fun z => h1 (of_decide_eq_false z), fun z => h2 (of_decide_eq_true z)⟩
theorem rb_ndec (h1 : p → A) (h2 : ¬ p → B) : ((!decide p) = false → A) ∧ ((!decide p) = true → B) := by
  refine ⟨fun z => h1 ?_, fun z => h2 ?_⟩
  · simpa using z
  · simpa using z
theorem rb_isnot (e : c = false) (h : A) : (c = false → A) ∧ (c = true → B) := ⟨fun _ => h, fun z => by rw [e] at z; cases z⟩
theorem rb_is (e : c = true) (h : B) : (c = false → A) ∧ (c = true → B) := ⟨fun z => (by rw [e] at z; cases z), fun _ => h⟩
end
/-- the end of a def: what comes back -/
theorem out_rt {P : D → Mem → Prop} {d : D} {Γ : DL.Env} (M' : Mem) (nd : (M'.map (·.1)).Nodup) (hs : Sub M' Γ.M) (h : P d M') : (outD P).rt d Γ := ⟨M', nd, hs, h⟩
theorem rt0 {P : D → Mem → Prop} {d : D} {sl : List (Option D)} {M R : Mem} (h : P d []) : ∃ M', (M'.map (·.1)).Nodup ∧ Sub M' (⟨sl, M, R⟩ : DL.Env).M ∧ P d M' := ⟨[], List.nodup_nil, (fun _ z => nomatch z), h⟩
theorem rt1 {P : D → Mem → Prop} {d c : D} {p : Addr} {sl : List (Option D)} {M R : Mem} {k : Nat} [e : At M p c k] (h : P d [(p, c)]) : ∃ M', (M'.map (·.1)).Nodup ∧ Sub M' (⟨sl, M, R⟩ : DL.Env).M ∧ P d M' :=
  ⟨[(p, c)], by simp, fun q hq => by
    have : q = (p, c) := by simpa using hq
    subst this
    exact List.mem_of_getElem? e.e, h⟩
theorem rtR {P : D → Mem → Prop} {c : D} {p : Addr} {sl : List (Option D)} {M R : Mem} {k : Nat} [e : At M p c k] (h : P (.ref p) [(p, c)]) : ∃ M', (M'.map (·.1)).Nodup ∧ Sub M' (⟨sl, M, R⟩ : DL.Env).M ∧ P (.ref p) M' := rt1 h
/-- two places; they differ where the memory has no place twice -/
theorem out_same {P : D → Mem → Prop} {d : D} {sl : List (Option D)} {M R : Mem} (nd : (M.map (·.1)).Nodup) (h : P d M) : ∃ M', (M'.map (·.1)).Nodup ∧ Sub M' (⟨sl, M, R⟩ : DL.Env).M ∧ P d M' := ⟨M, nd, fun _ z => z, h⟩
/-- what holds in every state may be used -/
theorem wss_nd {X : Cx} {F : Fr} {sts : List Stmt} {sl : List (Option D)} {M R : Mem} {O : Out} (h : (M.map (·.1)).Nodup → WSs X F sts ⟨sl, M, R⟩ O) : WSs X F sts ⟨sl, M, R⟩ O := fun G σ H hh E hE => h hh.mem.nd G σ H hh E hE
theorem log_small {j : Int} (h0 : 0 < j) (h : j < 2 ^ 200) : j.natAbs.log2 < 9000 := by
  have e : j.natAbs < 2 ^ 200 := by omega
  exact Nat.lt_trans (PySem.Flt.log2_lt_of (by decide) e) (by decide)
theorem atI_in {α : Type} {xs : List α} {i : Int} (h0 : 0 ≤ i) (h1 : i < xs.length) : ∃ x, atI xs i = some x ∧ xs[i.toNat]? = some x := by
  obtain ⟨n, rfl⟩ := Int.eq_ofNat_of_zero_le h0
  have hi : n < xs.length := by omega
  exact ⟨xs[n], atI_nat (List.getElem?_eq_getElem hi), List.getElem?_eq_getElem hi⟩
section
variable {X : Cx} {F : Fr} {Γ : DL.Env} {Q : D → DL.Env → Prop} {sl sl' : List (Option D)} {M M' R : Mem} {ea eb : Expr}
/-- an item of a list that is told by a function -/
theorem wx_map {α : Type} {f : α → D} {d : D} {xs : List α} {i : Int} [sd : SeeL M R d (xs.map f)] (h0 : 0 ≤ i) (h1 : i < xs.length) (q : ∀ y, xs[i.toNat]? = some y → Q (f y) ⟨sl, M, R⟩) : WX X F ea eb d (.int i) ⟨sl, M, R⟩ Q := by
  obtain ⟨x, e1, e2⟩ := atI_in (xs := xs.map f) h0 (by rw [List.length_map]; exact h1)
  rw [List.getElem?_map] at e2
  obtain ⟨y, e3, rfl⟩ := Option.map_eq_some_iff.mp e2
  exact wx_list e1 (q y e3)
theorem wc_lenM {α : Type} {f : α → D} {d : D} {xs : List α} [sd : SeeQ M R d (xs.map f)] (q : Q (.int (xs.length : Int)) ⟨sl, M, R⟩) : WC X F (.builtin "len") [d] ⟨sl, M, R⟩ Q :=
  wc_len (ds := xs.map f) (by rw [List.length_map]; exact q)
theorem atI_mapI {α : Type} {f : α → D} {xs : List α} {i : Int} {y : α} (h : atI xs i = some y) : atI (xs.map f) i = some (f y) := by
  unfold atI at h ⊢
  rw [List.length_map]
  cases e : ixN xs.length i with
  | none => rw [e] at h; cases h
  | some j =>
    rw [e] at h
    show (xs.map f)[j]? = _
    rw [List.getElem?_map, show xs[j]? = some y from h]; rfl
theorem wx_mapN {α : Type} {f : α → D} {d : D} {xs : List α} {i : Int} {y : α} [sd : SeeL M R d (xs.map f)] (h : atI xs i = some y) (q : Q (f y) ⟨sl, M, R⟩) : WX X F ea eb d (.int i) ⟨sl, M, R⟩ Q := wx_list (atI_mapI h) q
theorem atI_last2 {α : Type} (xs : List α) (v w : α) : atI (xs ++ [v, w]) (-2) = some v := by
  unfold atI ixN
  have h : ((xs ++ [v, w]).length : Int) = xs.length + 2 := by simp
  rw [if_neg (by decide), if_pos (by omega)]
  show (xs ++ [v, w])[((-2 : Int) + ((xs ++ [v, w]).length : Int)).toNat]? = _
  rw [h, show ((-2 : Int) + ((xs.length : Int) + 2)).toNat = xs.length by omega]
  simp
theorem wm_popM {α : Type} {f : α → D} {p : Addr} {ys zs : List α} {z : α} {k : Nat} [h : At M p (.lst (ys.map f)) k] [h2 : SetM M k (p, .lst (zs.map f)) M'] (e : ys = zs ++ [z]) (q : Q (f z) ⟨sl, M', R⟩) : WM X F "list.pop" (.ref p) [] ⟨sl, M, R⟩ Q := by
  have h' : At M p (.lst (zs.map f ++ [f z])) k := ⟨by rw [h.e, e, List.map_append]; rfl⟩
  exact wm_pop q
theorem cut_m1 {α : Type} (l : List α) (x : α) : cutD (l ++ [x]) none (some (-1)) = l := by
  unfold cutD
  have e : HT.sIx (l ++ [x]).length (l ++ [x]).length (some (-1)) = l.length := by
    have h : ((l ++ [x]).length : Int) = l.length + 1 := by simp
    unfold HT.sIx
    rw [h]
    simp only [if_pos (show (-1 : Int) < 0 by decide)]
    omega
  rw [e, HT.sIx_none]
  simp
theorem sIx_pos {n d : Nat} {i : Int} (h : 0 ≤ i) : HT.sIx n d (some i) = min i.toNat n := by
  unfold HT.sIx
  simp only [if_neg (show ¬ i < 0 by omega)]
theorem cut_to {α : Type} (l : List α) {i : Int} (h : 0 ≤ i) : cutD l none (some i) = l.take i.toNat := by
  unfold cutD
  rw [sIx_pos h, HT.sIx_none, List.drop_zero, Nat.sub_zero, ← List.take_eq_take_min]
theorem cut_from {α : Type} (l : List α) {i : Int} (h : 0 ≤ i) : cutD l (some i) none = l.drop i.toNat := by
  unfold cutD
  rw [sIx_pos h, HT.sIx_none, List.take_of_length_le (by rw [List.length_drop]; exact Nat.le_refl _)]
  by_cases hl : i.toNat ≤ l.length
  · rw [Nat.min_eq_left hl]
  · rw [Nat.min_eq_right (by omega), List.drop_of_length_le (Nat.le_refl _), List.drop_of_length_le (by omega)]
theorem cut_mid {α : Type} (l : List α) {i j : Int} (h : 0 ≤ i) (h2 : 0 ≤ j) : cutD l (some i) (some j) = (l.drop i.toNat).take (j.toNat - i.toNat) := by
  unfold cutD
  rw [sIx_pos h, sIx_pos h2]
  by_cases hi : i.toNat ≤ l.length
  · rw [Nat.min_eq_left hi]
    by_cases hj : j.toNat ≤ l.length
    · rw [Nat.min_eq_left hj]
    · rw [Nat.min_eq_right (by omega), List.take_of_length_le (by rw [List.length_drop]; exact Nat.le_refl _), List.take_of_length_le (by rw [List.length_drop]; omega)]
  · rw [Nat.min_eq_right (show l.length ≤ i.toNat by omega), List.drop_of_length_le (Nat.le_refl _), List.drop_of_length_le (show l.length ≤ i.toNat by omega)]; simp
/-- a word behind a statement -/
theorem ws_mid {st : Stmt} {O : Out} (Mid : DL.Env → Prop) (h : WS X F st Γ { O with nx := Mid }) (h2 : ∀ Γ1, Mid Γ1 → O.nx Γ1) : WS X F st Γ O := ws_mono h h2 (fun _ _ z => z) (fun _ z => z) fun _ z => z
/-- an item of a sequence -/
theorem wx_seq {d : D} {ds : List D} {i : Int} [sd : SeeQ M R d ds] (h0 : 0 ≤ i) (h1 : i < ds.length) (q : ∀ y, ds[i.toNat]? = some y → Q y ⟨sl, M, R⟩) : WX X F ea eb d (.int i) ⟨sl, M, R⟩ Q := by
  obtain ⟨x, e1, e2⟩ := atI_in h0 h1
  rcases sd.see with s | s
  · have : SeeL M R d ds := ⟨s⟩
    exact wx_list e1 (q x e2)
  · have : SeeT M R d ds := ⟨s⟩
    exact wx_tup e1 (q x e2)
instance (priority := low) SeeQ.any' {d : D} {ds : List D} [h : SeeQ [] R d ds] : SeeQ M R d ds := ⟨h.see.elim (fun z => .inl z.any) fun z => .inr z.any⟩
instance (priority := low) SeeQ.wk {q : Addr × D} {d : D} {ds : List D} [h : SeeQ [] R d ds] : SeeQ [] (q :: R) d ds := ⟨h.see.elim (fun z => .inl (see_wk z)) fun z => .inr (see_wk z)⟩
/-- data as the laws compare them: none, ints, texts, tuples and lists of such, to a depth -/
def Isd : Nat → D → Prop
  | _, .non => True
  | _, .int _ => True
  | _, .str _ => True
  | n + 1, .tup ds => ds.length ≤ 16777216 ∧ ∀ d ∈ ds, Isd n d
  | n + 1, .lst ds => ds.length ≤ 16777216 ∧ ∀ d ∈ ds, Isd n d
  | _, _ => False
/-- what a value is: itself, or a list at its place -/
inductive Sh (R : Mem) : D → D → Prop where
  | self (c : D) : Sh R c c
  | lst {d : D} {ds : List D} (h : SeeL [] R d ds) : Sh R d (.lst ds)
theorem wc_allM (hX : Std X) {d : D} {bs : List Bool} [sd : SeeL M R d (bs.map D.bl)] (q : Q (.bl (bs.all id)) ⟨sl, M, R⟩) : WC X F (.builtin "all") [d] ⟨sl, M, R⟩ Q := wc_all hX bs rfl q
theorem wc_anyM (hX : Std X) {d : D} {bs : List Bool} [sd : SeeL M R d (bs.map D.bl)] (q : Q (.bl (bs.any id)) ⟨sl, M, R⟩) : WC X F (.builtin "any") [d] ⟨sl, M, R⟩ Q := wc_any hX bs rfl q
theorem all_rep (n : Nat) : (List.replicate n true).all id = true := by
  induction n with
  | zero => rfl
  | succ n ih => rw [List.replicate_succ, List.all_cons, ih]; rfl
end
end DL

/-! The D layer, part 9: forgetting; the law's own head. -/
namespace DL
open PySem PySem.Spec PyProof.Rows L2
/-! ### forgetting slots and places -/
inductive WkS : List (Option D) → List (Option D) → Prop where
  | nil : WkS [] []
  | keep {x : Option D} {a b : List (Option D)} : WkS a b → WkS (x :: a) (x :: b)
  | drop {x : Option D} {a b : List (Option D)} : WkS a b → WkS (x :: a) (none :: b)
theorem WkS.refl : ∀ a : List (Option D), WkS a a
  | [] => .nil
  | _ :: a => .keep (WkS.refl a)
theorem WkS.len {a b : List (Option D)} (h : WkS a b) : a.length = b.length := by
  induction h with
  | nil => rfl
  | keep _ ih => rw [List.length_cons, List.length_cons, ih]
  | drop _ ih => rw [List.length_cons, List.length_cons, ih]
theorem WkS.get {a b : List (Option D)} (h : WkS a b) : ∀ (i : Nat) (d : D), b[i]? = some (some d) → a[i]? = some (some d) := by
  induction h with
  | nil => exact fun _ _ z => z
  | keep _ ih =>
    intro i d z
    cases i with
    | zero => exact z
    | succ i => exact ih i d z
  | drop _ ih =>
    intro i d z
    cases i with
    | zero => cases z
    | succ i => exact ih i d z
structure Wk (Γ Γ' : DL.Env) : Prop where
  sl : WkS Γ.sl Γ'.sl
  M : Γ'.M.Sublist Γ.M
  R : Γ'.R = Γ.R
theorem Wk.refl (Γ : DL.Env) : Wk Γ Γ := ⟨.refl _, .refl _, rfl⟩
theorem Holds.weak {F : Fr} {G : Hp} {Γ Γ' : DL.Env} {σ : L2.St} {H : Hp} (h : Holds F G Γ σ H) (w : Wk Γ Γ') : Holds F G Γ' σ H :=
  ⟨h.g0, h.gh, h.bh, h.gb, h.nw, h.len.trans w.sl.len, fun i d e => h.sl i d (w.sl.get i d e), ⟨(w.M.map _).nodup h.mem.nd, fun q hq => h.mem.at_ q (w.M.subset hq)⟩, fun q hq => h.rd q (w.R ▸ hq)⟩
section
variable {X : Cx} {F : Fr} {Γ Γ' : DL.Env}
theorem wss_weak {sts : List Stmt} {O : Out} (w : Wk Γ Γ') (h : WSs X F sts Γ' O) : WSs X F sts Γ O := fun G σ H hh E hE => h G σ H (hh.weak w) E hE
def Out.wk (O : Out) : Out := { nx := fun Γ => ∃ Γ', Wk Γ Γ' ∧ O.nx Γ', rt := O.rt, bk := fun Γ => ∃ Γ', Wk Γ Γ' ∧ O.bk Γ', ct := fun Γ => ∃ Γ', Wk Γ Γ' ∧ O.ct Γ' }
theorem wss_wk {sts : List Stmt} {O : Out} (h : WSs X F sts Γ O.wk) : WSs X F sts Γ O := fun G σ H hh E hE =>
  h G σ H hh E ⟨fun Γ1 G1 σ1 H1 ⟨Γ2, a, b⟩ s h1 => hE.nx Γ2 G1 σ1 H1 b s (h1.weak a), hE.rt, fun Γ1 G1 σ1 H1 ⟨Γ2, a, b⟩ s h1 => hE.bk Γ2 G1 σ1 H1 b s (h1.weak a), fun Γ1 G1 σ1 H1 ⟨Γ2, a, b⟩ s h1 => hE.ct Γ2 G1 σ1 H1 b s (h1.weak a)⟩
theorem ws_wk {st : Stmt} {O : Out} (h : WS X F st Γ { O with nx := fun Γ => ∃ Γ', Wk Γ Γ' ∧ O.nx Γ' }) : WS X F st Γ O := fun G σ H hh E hE =>
  h G σ H hh E ⟨fun Γ1 G1 σ1 H1 ⟨Γ2, a, b⟩ s h1 => hE.nx Γ2 G1 σ1 H1 b s (h1.weak a), hE.rt, hE.bk, hE.ct⟩
end
/-! ### the law's own head -/
def spStart (K : PySem.W.Frag) : Sp := fun vs H Q _ => ∃ (a : Addr) (ns : List Int), vs = [.ref a] ∧ SqL K H a (ns.map V.int) ∧ ns.length ≤ 63 ∧ ∀ q p, H q = none → upd H q (.lst (ns.map V.int)) p = none → Q (.ref p) (upd (upd H q (.lst (ns.map V.int))) p (.lst [.ref q, .int 0, .int 0, .int 0]))
def spLaw (K : PySem.W.Frag) : Sp := fun vs H Q _ => ∃ (a : Addr) (ns : List Int), vs = [.ref a] ∧ SqL K H a (ns.map V.int) ∧ ns.length ≤ 63 ∧ ∀ H', Q (.bl true) H'
/-- what stands after _law_start(script) -/
theorem start_holds {H : Hp} {q p : Addr} {ns : List Int} {σ : L2.St} {sl : List (Option D)} (hq : H q = none) (hp : upd H q (.lst (ns.map V.int)) p = none) (h1 : σ.length = sl.length) (h2 : ∀ (i : Nat) (d : D), sl[i]? = some (some d) → d = .ref p ∧ σ[i]? = some (some (.ref p))) :
    Holds ⟨fun _ => none, fun _ => none⟩ (upd (fun _ => none) q (.lst (ns.map V.int))) ⟨sl, [(p, .lst [.lst (ns.map D.int), .int 0, .int 0, .int 0])], []⟩ σ (upd (upd H q (.lst (ns.map V.int))) p (.lst [.ref q, .int 0, .int 0, .int 0])) := by
  have hpq : p ≠ q := fun e => by
    rw [e, upd_same] at hp; cases hp
  refine ⟨(fun _ _ z => nomatch z), fun b o e => ?_, (fun _ _ z => nomatch z), (fun _ _ z => nomatch z), fun _ _ _ => .inr rfl, h1, fun i d e => ?_, ⟨by simp, fun z hz => ?_⟩, (fun _ z => nomatch z)⟩
  · by_cases hb : b = q
    · subst hb
      rw [upd_same] at e
      rw [upd_ne hpq.symm, upd_same]
      exact e
    · rw [upd_ne hb] at e; cases e
  · obtain ⟨rfl, e2⟩ := h2 i d e
    exact ⟨_, e2, .ref p⟩
  · have : z = (p, .lst [.lst (ns.map D.int), .int 0, .int 0, .int 0]) := by simpa using hz
    subst this
    refine ⟨rfl, upd_ne hpq, _, upd_same, .lst (.cons ?_ (.cons (.int 0) (.cons (.int 0) (.cons (.int 0) .nil))))⟩
    refine .lst upd_same (by simp) fun i v d e1 e2 => ?_
    rw [List.getElem?_map] at e1 e2
    obtain ⟨n, hn, rfl⟩ := Option.map_eq_some_iff.mp e1
    rw [hn] at e2
    cases e2
    exact .int n
end DL

namespace K20
/-! ### the mathematics: places, the way up, the way between -/
abbrev Pl := Int × Int
def par (L : List (Option Pl)) (p : Pl) : Option Pl := if 0 < p.2 then some (p.1, p.2 - 1) else (L[p.1.toNat]?).join
def mu (p : Pl) : Nat := p.1.toNat * 1000 + p.2.toNat
structure Ok (L : List (Option Pl)) : Prop where
  or : ∀ (k : Nat) (q : Pl), L[k]? = some (some q) → 0 ≤ q.1 ∧ q.1 < (k : Int) ∧ 0 ≤ q.2 ∧ q.2 ≤ 999
structure On (L : List (Option Pl)) (p : Pl) : Prop where
  l0 : 0 ≤ p.1
  l1 : p.1 < L.length
  m0 : 0 ≤ p.2
  m1 : p.2 ≤ 999
theorem join_some {α : Type} {o : Option (Option α)} {x : α} (h : o.join = some x) : o = some (some x) := by
  cases o with
  | none => cases h
  | some y => cases y with
    | none => cases h
    | some z => cases h; rfl
theorem par_on {L : List (Option Pl)} (h : Ok L) {p q : Pl} (hp : On L p) (e : par L p = some q) : On L q ∧ mu q < mu p := by
  unfold par at e
  split at e
  · rename_i hm
    cases e
    refine ⟨⟨hp.l0, hp.l1, by show 0 ≤ p.2 - 1; omega, by have := hp.m1; show p.2 - 1 ≤ 999; omega⟩, ?_⟩
    show p.1.toNat * 1000 + (p.2 - 1).toNat < p.1.toNat * 1000 + p.2.toNat
    omega
  · obtain ⟨a, b, c, d⟩ := h.or _ _ (join_some e)
    have hl := hp.l0
    have hl1 := hp.l1
    refine ⟨⟨a, by omega, c, d⟩, ?_⟩
    show q.1.toNat * 1000 + q.2.toNat < p.1.toNat * 1000 + p.2.toNat
    omega
/-- the place, its parent and so on -/
def upF (L : List (Option Pl)) : Nat → Pl → List Pl
  | 0, p => [p]
  | n + 1, p => p :: (par L p).elim [] (upF L n)
theorem upF_zero {L : List (Option Pl)} {p : Pl} : upF L 0 p = [p] := rfl
theorem upF_succ {L : List (Option Pl)} {n : Nat} {p : Pl} : upF L (n + 1) p = p :: (par L p).elim [] (upF L n) := rfl
def up (L : List (Option Pl)) (p : Pl) : List Pl := upF L (mu p) p
theorem upF_fuel {L : List (Option Pl)} (h : Ok L) : ∀ (n m : Nat) (p : Pl), On L p → mu p ≤ n → mu p ≤ m → upF L n p = upF L m p := by
  intro n
  induction n with
  | zero =>
    intro m p hp h0 _
    cases m with
    | zero => rfl
    | succ m =>
      rw [upF_zero, upF_succ]
      cases e : par L p with
      | none => rfl
      | some q => have := (par_on h hp e).2; omega
  | succ n ih =>
    intro m p hp h1 h2
    cases m with
    | zero =>
      rw [upF_zero, upF_succ]
      cases e : par L p with
      | none => rfl
      | some q => have := (par_on h hp e).2; omega
    | succ m =>
      rw [upF_succ, upF_succ]
      cases e : par L p with
      | none => rfl
      | some q =>
        have hq := par_on h hp e
        show p :: upF L n q = p :: upF L m q
        rw [ih m q hq.1 (by omega) (by omega)]
theorem up_none {L : List (Option Pl)} {p : Pl} (e : par L p = none) : up L p = [p] := by
  unfold up
  cases mu p with
  | zero => rfl
  | succ n => rw [upF_succ, e]; rfl
theorem up_some {L : List (Option Pl)} (h : Ok L) {p q : Pl} (hp : On L p) (e : par L p = some q) : up L p = p :: up L q := by
  have hq := par_on h hp e
  unfold up
  cases hm : mu p with
  | zero => omega
  | succ n =>
    rw [upF_succ, e]
    show p :: upF L n q = p :: upF L (mu q) q
    rw [upF_fuel h n (mu q) q hq.1 (by omega) (Nat.le_refl _)]
theorem up_cons {L : List (Option Pl)} (p : Pl) : ∃ r, up L p = p :: r := by
  unfold up
  cases mu p with
  | zero => exact ⟨[], rfl⟩
  | succ n => exact ⟨_, rfl⟩
/-- up by strong induction -/
theorem up_ind {L : List (Option Pl)} (h : Ok L) (P : Pl → Prop) (h0 : ∀ p, On L p → par L p = none → P p) (h1 : ∀ p q, On L p → par L p = some q → On L q → P q → P p) : ∀ p, On L p → P p := by
  have aux : ∀ n p, mu p ≤ n → On L p → P p := by
    intro n
    induction n with
    | zero =>
      intro p hm hp
      cases e : par L p with
      | none => exact h0 p hp e
      | some q => have := (par_on h hp e).2; omega
    | succ n ih =>
      intro p hm hp
      cases e : par L p with
      | none => exact h0 p hp e
      | some q =>
        have hq := par_on h hp e
        exact h1 p q hp e hq.1 (ih q (by omega) hq.1)
  exact fun p hp => aux (mu p) p (Nat.le_refl _) hp
theorem up_len {L : List (Option Pl)} (h : Ok L) : ∀ p, On L p → (up L p).length ≤ mu p + 1 :=
  up_ind h _ (fun p hp e => by rw [up_none e]; show 1 ≤ _; omega) fun p q hp e hq ih => by
    rw [up_some h hp e, List.length_cons]
    have := (par_on h hp e).2
    omega
theorem up_mem {L : List (Option Pl)} (h : Ok L) : ∀ p, On L p → ∀ x ∈ up L p, On L x ∧ mu x ≤ mu p ∧ ∃ pre, up L p = pre ++ up L x ∧ ∀ y ∈ pre, mu x < mu y :=
  up_ind h _ (fun p hp e x hx => by
    rw [up_none e] at hx
    have : x = p := by simpa using hx
    subst this
    exact ⟨hp, Nat.le_refl _, [], rfl, fun y hy => nomatch hy⟩) fun p q hp e hq ih x hx => by
    have hm := (par_on h hp e).2
    rw [up_some h hp e] at hx ⊢
    rcases List.mem_cons.mp hx with rfl | hx
    · exact ⟨hp, Nat.le_refl _, [], by rw [up_some h hp e]; rfl, fun y hy => nomatch hy⟩
    · obtain ⟨a, b, pre, c, d⟩ := ih x hx
      refine ⟨a, by omega, p :: pre, by rw [c]; rfl, fun y hy => ?_⟩
      rcases List.mem_cons.mp hy with rfl | hy
      · omega
      · exact d y hy
theorem up_drop {L : List (Option Pl)} (h : Ok L) : ∀ p, On L p → ∀ (i : Nat) (x : Pl), (up L p)[i]? = some x → On L x ∧ up L x = (up L p).drop i :=
  up_ind h _ (fun p hp e i x hx => by
    rw [up_none e] at hx ⊢
    cases i with
    | zero => cases hx; exact ⟨hp, up_none e⟩
    | succ i => simp at hx) fun p q hp e hq ih i x hx => by
    rw [up_some h hp e] at hx ⊢
    cases i with
    | zero =>
      have e2 : p = x := by simpa using hx
      subst e2
      exact ⟨hp, up_some h hp e⟩
    | succ i => exact ih i x (by simpa using hx)
theorem up_nodup {L : List (Option Pl)} (h : Ok L) : ∀ p, On L p → (up L p).Nodup :=
  up_ind h _ (fun p hp e => by rw [up_none e]; simp) fun p q hp e hq ih => by
    rw [up_some h hp e, List.nodup_cons]
    refine ⟨fun hm => ?_, ih⟩
    have := (up_mem h q hq p hm).2.1
    have := (par_on h hp e).2
    omega
theorem up_last {L : List (Option Pl)} (h : Ok L) : ∀ p, On L p → ∃ r, (up L p).getLast? = some r ∧ ∀ x ∈ up L p, (up L x).getLast? = some r :=
  up_ind h _ (fun p hp e => by
    refine ⟨p, by rw [up_none e]; rfl, fun x hx => ?_⟩
    rw [up_none e] at hx
    have : x = p := by simpa using hx
    subst this
    rw [up_none e]; rfl) fun p q hp e hq ih => by
    obtain ⟨r, h1, h2⟩ := ih
    obtain ⟨rr, er⟩ := up_cons (L := L) q
    have hl : (up L p).getLast? = some r := by
      rw [up_some h hp e, er, List.getLast?_cons_cons, ← er]; exact h1
    refine ⟨r, hl, fun x hx => ?_⟩
    rw [up_some h hp e] at hx
    rcases List.mem_cons.mp hx with rfl | hx
    · exact hl
    · exact h2 x hx

/-- a and b meet at x: up from a by s, from b by t -/
structure Way (L : List (Option Pl)) (a b x : Pl) (s t : List Pl) : Prop where
  ha : up L a = s ++ up L x
  hb : up L b = t ++ up L x
  dis : ∀ y ∈ s, y ∉ t
theorem Way.symm {L : List (Option Pl)} {a b x : Pl} {s t : List Pl} (w : Way L a b x s t) : Way L b a x t s := ⟨w.hb, w.ha, fun y h1 h2 => w.dis y h2 h1⟩
/-- up to the first place that is in W, then down to it -/
def due (U W : List Pl) : Option (List Pl) := (U.find? fun x => decide (x ∈ W)).map fun x => U.takeWhile (fun y => !decide (y ∈ W)) ++ (W.takeWhile (fun y => decide (y ≠ x)) ++ [x]).reverse
theorem due_none {U W : List Pl} (h : ∀ x ∈ U, x ∉ W) : due U W = none := by
  unfold due
  rw [List.find?_eq_none.mpr fun x hx => by simpa using h x hx]; rfl
theorem due_at {U W s t r r' : List Pl} {x : Pl} (hU : U = s ++ x :: r) (hW : W = t ++ x :: r') (h1 : ∀ y ∈ s, y ∉ W) (h2 : x ∉ t) : due U W = some (s ++ x :: t.reverse) := by
  have hx : x ∈ W := by rw [hW]; simp
  have e1 : U.find? (fun x => decide (x ∈ W)) = some x := by
    rw [hU, List.find?_append, List.find?_eq_none.mpr fun y hy => by simpa using h1 y hy]
    simp [hx]
  have e2 : U.takeWhile (fun y => !decide (y ∈ W)) = s := by
    rw [hU, List.takeWhile_append_of_pos fun y hy => by simpa using h1 y hy]
    simp [hx]
  have e3 : W.takeWhile (fun y => decide (y ≠ x)) = t := by
    rw [hW, List.takeWhile_append_of_pos fun y hy => by
      have : y ≠ x := fun e => h2 (e ▸ hy)
      simpa using this]
    simp
  unfold due
  rw [e1, e2, Option.map_some, e3]
  simp
theorem Way.due {L : List (Option Pl)} (h : Ok L) {a b x : Pl} {s t : List Pl} (ha : On L a) (hb : On L b) (w : Way L a b x s t) : due (up L a) (up L b) = some (s ++ x :: t.reverse) := by
  obtain ⟨r, er⟩ := up_cons (L := L) x
  have na := up_nodup h a ha
  have nb := up_nodup h b hb
  rw [w.ha] at na
  rw [w.hb] at nb
  refine due_at (r := r) (r' := r) (by rw [w.ha, er]) (by rw [w.hb, er]) (fun y hy => ?_) fun hx => ?_
  · rw [w.hb, List.mem_append]
    rintro (z | z)
    · exact w.dis y hy z
    · exact (List.nodup_append.mp na).2.2 y hy y z rfl
  · exact (List.nodup_append.mp nb).2.2 x hx x (by rw [er]; exact List.mem_cons_self) rfl
/-- they meet where something is above both -/
theorem way_ex {L : List (Option Pl)} (h : Ok L) {a b : Pl} (ha : On L a) (hb : On L b) (hc : ∃ y ∈ up L a, y ∈ up L b) : ∃ x s t, Way L a b x s t ∧ On L x := by
  have key : ∀ U : List Pl, (∃ y ∈ U, y ∈ up L b) → ∃ s x r, U = s ++ x :: r ∧ x ∈ up L b ∧ ∀ y ∈ s, y ∉ up L b := by
    intro U
    induction U with
    | nil => rintro ⟨y, hy, _⟩; cases hy
    | cons u U ih =>
      intro hex
      by_cases hu : u ∈ up L b
      · exact ⟨[], u, U, rfl, hu, fun y hy => nomatch hy⟩
      · obtain ⟨y, hy, hy2⟩ := hex
        rcases List.mem_cons.mp hy with rfl | hy
        · exact absurd hy2 hu
        · obtain ⟨s, x, r, e, h1, h2⟩ := ih ⟨y, hy, hy2⟩
          refine ⟨u :: s, x, r, by rw [e]; rfl, h1, fun z hz => ?_⟩
          rcases List.mem_cons.mp hz with rfl | hz
          · exact hu
          · exact h2 z hz
  obtain ⟨s, x, r, e, h1, h2⟩ := key _ hc
  have e1 : (up L a)[s.length]? = some x := by rw [e]; simp
  obtain ⟨hx, e2⟩ := up_drop h a ha s.length x e1
  obtain ⟨_, _, t, e3, _⟩ := up_mem h b hb x h1
  refine ⟨x, s, t, ⟨?_, e3, fun y hy hy2 => h2 y hy ?_⟩, hx⟩
  · rw [e2, e]; simp
  · rw [e3]; exact List.mem_append_left _ hy2
/-- both ways round -/
theorem due_symm {L : List (Option Pl)} (h : Ok L) {a b : Pl} (ha : On L a) (hb : On L b) {P : List Pl} (e : due (up L a) (up L b) = some P) : due (up L b) (up L a) = some P.reverse := by
  by_cases hc : ∃ y ∈ up L a, y ∈ up L b
  · obtain ⟨x, s, t, w, _⟩ := way_ex h ha hb hc
    rw [w.due h ha hb] at e
    cases e
    rw [w.symm.due h hb ha]
    simp
  · rw [due_none fun x h1 h2 => hc ⟨x, h1, h2⟩] at e; cases e
theorem due_symm_none {L : List (Option Pl)} (h : Ok L) {a b : Pl} (ha : On L a) (hb : On L b) (e : due (up L a) (up L b) = none) : due (up L b) (up L a) = none := by
  refine due_none fun x h1 h2 => ?_
  obtain ⟨y, s, t, w, _⟩ := way_ex h ha hb ⟨x, h2, h1⟩
  rw [w.due h ha hb] at e; cases e
theorem part_last {α : Type} {P : List α} {i j : Nat} {v : α} (hij : i ≤ j) (hv : P[j]? = some v) : (P.drop i).take (j + 1 - i) = (P.drop i).take (j - i) ++ [v] := by
  rw [show j + 1 - i = (j - i) + 1 by omega, List.take_add_one, List.getElem?_drop, show i + (j - i) = j by omega, hv]
  rfl
theorem part_rev {α : Type} {P : List α} {i j : Nat} (hij : i ≤ j) (hj : j < P.length) : ((P.reverse.drop (P.length - 1 - j)).take (j + 1 - i)).reverse = (P.drop i).take (j + 1 - i) := by
  rw [List.drop_reverse, show P.length - (P.length - 1 - j) = j + 1 by omega, List.take_reverse, List.reverse_reverse, List.length_take, show min (j + 1) P.length - (j + 1 - i) = i by omega, List.drop_take]
/-- the half that goes up -/
theorem part_up {L : List (Option Pl)} (h : Ok L) {a x : Pl} {s : List Pl} {t : List Pl} (ha : On L a) (e : up L a = s ++ up L x) {i : Nat} {u : Pl} (hi : i ≤ s.length) (hu : (s ++ x :: t)[i]? = some u) : On L u ∧ up L u = s.drop i ++ up L x := by
  have e1 : (up L a)[i]? = some u := by
    obtain ⟨r, er⟩ := up_cons (L := L) x
    rw [e, er]
    by_cases hlt : i < s.length
    · rw [List.getElem?_append_left hlt] at hu ⊢; exact hu
    · have : i = s.length := by omega
      subst this
      rw [List.getElem?_append_right (Nat.le_refl _)] at hu ⊢
      simpa using hu
  obtain ⟨h1, h2⟩ := up_drop h a ha i u e1
  refine ⟨h1, ?_⟩
  rw [h2, e, List.drop_append_of_le_length hi]
theorem part_a {L : List (Option Pl)} (h : Ok L) {a b x : Pl} {s t : List Pl} (ha : On L a) (w : Way L a b x s t) {i j : Nat} {u v : Pl} (hij : i ≤ j) (hj : j ≤ s.length) (hu : (s ++ x :: t.reverse)[i]? = some u) (hv : (s ++ x :: t.reverse)[j]? = some v) :
    On L u ∧ On L v ∧ due (up L u) (up L v) = some (((s ++ x :: t.reverse).drop i).take (j + 1 - i)) := by
  obtain ⟨u1, u2⟩ := part_up h ha w.ha (by omega) hu
  obtain ⟨v1, v2⟩ := part_up h ha w.ha hj hv
  refine ⟨u1, v1, ?_⟩
  have e : s.drop i = (s.drop i).take (j - i) ++ s.drop j := by
    conv => lhs; rw [← List.take_append_drop (j - i) (s.drop i)]
    rw [List.drop_drop, show i + (j - i) = j by omega]
  have w2 : Way L u v v ((s.drop i).take (j - i)) [] := ⟨by rw [u2, v2, ← List.append_assoc, ← e], by simp, fun _ _ z => nomatch z⟩
  rw [w2.due h u1 v1, part_last hij hv, List.drop_append_of_le_length (by omega), List.take_append_of_le_length (by rw [List.length_drop]; omega)]
  rfl
/-- a part of the way is the way between its ends -/
theorem due_part {L : List (Option Pl)} (h : Ok L) {a b : Pl} (ha : On L a) (hb : On L b) {P : List Pl} (e : due (up L a) (up L b) = some P) {i j : Nat} {u v : Pl} (hij : i ≤ j) (hu : P[i]? = some u) (hv : P[j]? = some v) :
    On L u ∧ On L v ∧ due (up L u) (up L v) = some ((P.drop i).take (j + 1 - i)) := by
  by_cases hc : ∃ y ∈ up L a, y ∈ up L b
  · obtain ⟨x, s, t, w, _⟩ := way_ex h ha hb hc
    rw [w.due h ha hb] at e
    cases e
    have hj := (List.getElem?_eq_some_iff.mp hv).1
    have hPl : (s ++ x :: t.reverse).length = s.length + t.length + 1 := by simp; omega
    have hrev : (s ++ x :: t.reverse).reverse = t ++ x :: s.reverse := by simp
    by_cases h1 : j ≤ s.length
    · exact part_a h ha w hij h1 hu hv
    · have hv' : (t ++ x :: s.reverse)[s.length + t.length - j]? = some v := by
        rw [← hrev, List.getElem?_reverse (by omega), hPl, show s.length + t.length + 1 - 1 - (s.length + t.length - j) = j by omega]
        exact hv
      by_cases h2 : i ≤ s.length
      · obtain ⟨u1, u2⟩ := part_up h ha w.ha h2 hu
        obtain ⟨v1, v2⟩ := part_up h hb w.hb (by omega) hv'
        have w2 : Way L u v x (s.drop i) (t.drop (s.length + t.length - j)) := ⟨u2, v2, fun y y1 y2 => w.dis y (List.mem_of_mem_drop y1) (List.mem_of_mem_drop y2)⟩
        refine ⟨u1, v1, ?_⟩
        rw [w2.due h u1 v1, List.drop_append_of_le_length h2, List.take_append, List.length_drop, List.take_of_length_le (by rw [List.length_drop]; omega), show j + 1 - i - (s.length - i) = (j - s.length) + 1 by omega, List.take_succ_cons, List.take_reverse]
        rw [show t.length - (j - s.length) = s.length + t.length - j by omega]
      · have hu' : (t ++ x :: s.reverse)[s.length + t.length - i]? = some u := by
          rw [← hrev, List.getElem?_reverse (by omega), hPl, show s.length + t.length + 1 - 1 - (s.length + t.length - i) = i by omega]
          exact hu
        obtain ⟨v1, u1, d⟩ := part_a h hb w.symm (by omega) (by omega) hv' hu'
        refine ⟨u1, v1, ?_⟩
        rw [due_symm h v1 u1 d, ← hrev]
        have := part_rev (P := s ++ x :: t.reverse) hij hj
        rw [hPl, show s.length + t.length + 1 - 1 - j = s.length + t.length - j by omega] at this
        rw [← this, show s.length + t.length - i + 1 - (s.length + t.length - j) = j + 1 - i by omega]
  · rw [due_none fun x h1 h2 => hc ⟨x, h1, h2⟩] at e; cases e

theorem up_le {L : List (Option Pl)} (h : Ok L) {p : Pl} (hp : On L p) : (up L p).length ≤ 1000 * L.length := by
  have h1 := up_len h p hp
  have := hp.l0; have := hp.l1; have := hp.m0; have := hp.m1
  unfold mu at h1
  omega
theorem up_next {L : List (Option Pl)} (h : Ok L) {p : Pl} (hp : On L p) {i : Nat} {x : Pl} (hx : (up L p)[i]? = some x) : (par L x = none → i + 1 = (up L p).length) ∧ ∀ q, par L x = some q → (up L p)[i + 1]? = some q := by
  obtain ⟨hx', e⟩ := up_drop h p hp i x hx
  have hi := (List.getElem?_eq_some_iff.mp hx).1
  refine ⟨fun e1 => ?_, fun q e1 => ?_⟩
  · rw [up_none e1] at e
    have := congrArg List.length e
    simp at this; omega
  · rw [up_some h hx' e1] at e
    have h2 : ((up L p).drop i)[1]? = (x :: up L q)[1]? := by rw [e]
    rw [List.getElem?_drop] at h2
    obtain ⟨r, er⟩ := up_cons (L := L) q
    rw [h2, er]; rfl
/-- the first one of U that is in W, by places -/
theorem due_ix {U W : List Pl} (nW : W.Nodup) {k j : Nat} {x : Pl} (hk : U[k]? = some x) (hj : W[j]? = some x) (h1 : ∀ (i : Nat) y, i < k → U[i]? = some y → y ∉ W) : due U W = some (U.take k ++ (W.take (j + 1)).reverse) := by
  have hk' := (List.getElem?_eq_some_iff.mp hk).1
  have hj' := (List.getElem?_eq_some_iff.mp hj).1
  have eU : U = U.take k ++ x :: U.drop (k + 1) := by
    have e2 : U[k] = x := (List.getElem?_eq_some_iff.mp hk).2
    conv => lhs; rw [← List.take_append_drop k U, List.drop_eq_getElem_cons hk', e2]
  have eW : W = W.take j ++ x :: W.drop (j + 1) := by
    have e2 : W[j] = x := (List.getElem?_eq_some_iff.mp hj).2
    conv => lhs; rw [← List.take_append_drop j W, List.drop_eq_getElem_cons hj', e2]
  have c1 : ∀ y ∈ U.take k, y ∉ W := fun y hy => by
    obtain ⟨i, hi⟩ := List.getElem?_of_mem hy
    rw [List.getElem?_take] at hi
    split at hi
    · exact h1 i y (by assumption) hi
    · cases hi
  have c2 : x ∉ W.take j := fun hx => by
    rw [eW] at nW
    exact (List.nodup_append.mp nW).2.2 x hx x List.mem_cons_self rfl
  rw [due_at eU eW c1 c2, List.take_add_one, hj]
  simp
theorem due_no {U W : List Pl} (h : ∀ (i : Nat) y, i < U.length → U[i]? = some y → y ∉ W) : due U W = none := due_none fun x hx => by
  obtain ⟨i, hi⟩ := List.getElem?_of_mem hx
  exact h i x (List.getElem?_eq_some_iff.mp hi).1 hi
/-- lines without an origin are apart -/
theorem up_line {L : List (Option Pl)} (h : Ok L) (l : Int) (hl : L[l.toNat]? = some none) : ∀ p, On L p → p.1 = l → ∀ x ∈ up L p, x.1 = l :=
  up_ind h _ (fun p hp e e1 x hx => by
    rw [up_none e] at hx
    have : x = p := by simpa using hx
    subst this; exact e1) fun p q hp e hq ih e1 x hx => by
    rw [up_some h hp e] at hx
    rcases List.mem_cons.mp hx with rfl | hx
    · exact e1
    · refine ih ?_ x hx
      unfold par at e
      split at e
      · cases e; exact e1
      · rw [e1, hl] at e; cases e
theorem due_apart {L : List (Option Pl)} (h : Ok L) {a b : Pl} (ha : On L a) (hb : On L b) (h1 : L[a.1.toNat]? = some none) (h2 : L[b.1.toNat]? = some none) (ne : a.1 ≠ b.1) : due (up L a) (up L b) = none :=
  due_none fun x hx hx2 => ne ((up_line h a.1 h1 a ha rfl x hx).symm.trans (up_line h b.1 h2 b hb rfl x hx2))

end K20


namespace K20
open PySem PySem.Spec PyProof.Rows L2 DL
def topS (i : Nat) : Stmt := PySem.Challenge.pw_whatcomesfree_k20_ways_are_one.main.body.getD i (.Pass ⟨0, 0, 0, 0⟩)
abbrev s_parent_place : Stmt := topS 1
abbrev N_parent_place : List Str := ["lines", "place", "line", "mark"]
theorem sc_parent_place : FnScope N_parent_place ["lines", "place"] (defScope s_parent_place) := ⟨rfl, rfl, rfl, by decide +kernel, rfl, by decide +kernel, by decide +kernel⟩
abbrev s_way_up : Stmt := topS 2
abbrev N_way_up : List Str := ["lines", "place", "found"]
theorem sc_way_up : FnScope N_way_up ["lines", "place"] (defScope s_way_up) := ⟨rfl, rfl, rfl, by decide +kernel, rfl, by decide +kernel, by decide +kernel⟩
abbrev s_way : Stmt := topS 3
abbrev N_way : List Str := ["lines", "one", "other", "up", "down"]
theorem sc_way : FnScope N_way ["lines", "one", "other"] (defScope s_way) := ⟨rfl, rfl, rfl, by decide +kernel, rfl, by decide +kernel, by decide +kernel⟩
abbrev s_law_mix : Stmt := topS 5
abbrev N_law_mix : List Str := ["number"]
theorem sc_law_mix : FnScope N_law_mix ["number"] (defScope s_law_mix) := ⟨rfl, rfl, rfl, by decide +kernel, rfl, by decide +kernel, by decide +kernel⟩
abbrev s_law_start : Stmt := topS 6
abbrev N_law_start : List Str := ["script"]
theorem sc_law_start : FnScope N_law_start ["script"] (defScope s_law_start) := ⟨rfl, rfl, rfl, by decide +kernel, rfl, by decide +kernel, by decide +kernel⟩
abbrev s_law_next : Stmt := topS 7
abbrev N_law_next : List Str := ["state", "limit", "number", "drawn"]
theorem sc_law_next : FnScope N_law_next ["state", "limit"] (defScope s_law_next) := ⟨rfl, rfl, rfl, by decide +kernel, rfl, by decide +kernel, by decide +kernel⟩
abbrev s_law_is : Stmt := topS 8
abbrev N_law_is : List Str := ["told", "due", "key", "k"]
theorem sc_law_is : FnScope N_law_is ["told", "due"] (defScope s_law_is) := ⟨rfl, rfl, rfl, by decide +kernel, rfl, by decide +kernel, by decide +kernel⟩
abbrev s_law_forest : Stmt := topS 9
abbrev N_law_forest : List Str := ["state", "many", "most", "choice", "lines", "k", "origin"]
theorem sc_law_forest : FnScope N_law_forest ["state"] (defScope s_law_forest) := ⟨rfl, rfl, rfl, by decide +kernel, rfl, by decide +kernel, by decide +kernel⟩
abbrev s_law_parent : Stmt := topS 10
abbrev N_law_parent : List Str := ["lines", "place"]
theorem sc_law_parent : FnScope N_law_parent ["lines", "place"] (defScope s_law_parent) := ⟨rfl, rfl, rfl, by decide +kernel, rfl, by decide +kernel, by decide +kernel⟩
abbrev s_law_up : Stmt := topS 11
abbrev N_law_up : List Str := ["lines", "place", "found", "k", "above"]
theorem sc_law_up : FnScope N_law_up ["lines", "place"] (defScope s_law_up) := ⟨rfl, rfl, rfl, by decide +kernel, rfl, by decide +kernel, by decide +kernel⟩
abbrev s_law_due : Stmt := topS 12
abbrev N_law_due : List Str := ["lines", "one", "other", "down", "steps", "k", "up"]
theorem sc_law_due : FnScope N_law_due ["lines", "one", "other"] (defScope s_law_due) := ⟨rfl, rfl, rfl, by decide +kernel, rfl, by decide +kernel, by decide +kernel⟩
abbrev s_law_asked : Stmt := topS 13
abbrev N_law_asked : List Str := ["state", "lines", "one", "other", "due", "given", "told", "first", "last", "place"]
theorem sc_law_asked : FnScope N_law_asked ["state", "lines", "one", "other"] (defScope s_law_asked) := ⟨rfl, rfl, rfl, by decide +kernel, rfl, by decide +kernel, by decide +kernel⟩
abbrev s_law : Stmt := topS 14
abbrev N_law : List Str := ["script", "state", "lines", "most", "many", "k", "one", "other", "up"]
theorem sc_law : FnScope N_law ["script"] (defScope s_law) := ⟨rfl, rfl, rfl, by decide +kernel, rfl, by decide +kernel, by decide +kernel⟩
structure Tx (mg : Str → Option Value) : Prop where
  z_abs : mg "abs" = none
  z_all : mg "all" = none
  z_bool : mg "bool" = none
  z_dict : mg "dict" = none
  z_int : mg "int" = none
  z_isinstance : mg "isinstance" = none
  z_len : mg "len" = none
  z_list : mg "list" = none
  z_min : mg "min" = none
  z_range : mg "range" = none
  z_str : mg "str" = none
  z_tuple : mg "tuple" = none
theorem bo_abs : bootBuiltins "abs" = some (.builtin "abs") := by first | exact PySem.boot_abs | exact PyProof.Rows.boot_abs | decide +kernel
theorem bo_all : bootBuiltins "all" = some (.builtin "all") := by first | exact PySem.boot_all | exact PyProof.Rows.boot_all | decide +kernel
theorem bo_bool : bootBuiltins "bool" = some (.type "bool") := by first | exact PySem.boot_bool | exact PyProof.Rows.boot_bool | decide +kernel
theorem bo_dict : bootBuiltins "dict" = some (.type "dict") := by first | exact PySem.boot_dict | exact PyProof.Rows.boot_dict | decide +kernel
theorem bo_int : bootBuiltins "int" = some (.type "int") := by first | exact PySem.boot_int | exact PyProof.Rows.boot_int | decide +kernel
theorem bo_isinstance : bootBuiltins "isinstance" = some (.builtin "isinstance") := by first | exact PySem.boot_isinstance | exact PyProof.Rows.boot_isinstance | decide +kernel
theorem bo_len : bootBuiltins "len" = some (.builtin "len") := by first | exact PySem.boot_len | exact PyProof.Rows.boot_len | decide +kernel
theorem bo_list : bootBuiltins "list" = some (.type "list") := by first | exact PySem.boot_list | exact PyProof.Rows.boot_list | decide +kernel
theorem bo_min : bootBuiltins "min" = some (.builtin "min") := by first | exact PySem.boot_min | exact PyProof.Rows.boot_min | decide +kernel
theorem bo_range : bootBuiltins "range" = some (.type "range") := by first | exact PySem.boot_range | exact PyProof.Rows.boot_range | decide +kernel
theorem bo_str : bootBuiltins "str" = some (.type "str") := by first | exact PySem.boot_str | exact PyProof.Rows.boot_str | decide +kernel
theorem bo_tuple : bootBuiltins "tuple" = some (.type "tuple") := by first | exact PySem.boot_tuple | exact PyProof.Rows.boot_tuple | decide +kernel
end K20


namespace K20
open PySem PySem.Spec PyProof.Rows L2 DL
local macro_rules | `(tactic| row_cond dcall) => `(tactic| first
  | ((with_reducible refine' we_call (x := "parent_place") ?c ?x ?j ?g ?d ?e ?p ?_); (case c => assumption); (case x => assumption); (case j => first | decide | exact Nat.le_refl _ | omega); (case g => assumption); (case d => decide); (case e => rfl); (case p => rfl))
  | ((with_reducible refine' we_call (x := "way_up") ?c ?x ?j ?g ?d ?e ?p ?_); (case c => assumption); (case x => assumption); (case j => first | decide | exact Nat.le_refl _ | omega); (case g => assumption); (case d => decide); (case e => rfl); (case p => rfl))
  | ((with_reducible refine' we_call (x := "way") ?c ?x ?j ?g ?d ?e ?p ?_); (case c => assumption); (case x => assumption); (case j => first | decide | exact Nat.le_refl _ | omega); (case g => assumption); (case d => decide); (case e => rfl); (case p => rfl))
  | ((with_reducible refine' we_call (x := "_law_mix") ?c ?x ?j ?g ?d ?e ?p ?_); (case c => assumption); (case x => assumption); (case j => first | decide | exact Nat.le_refl _ | omega); (case g => assumption); (case d => decide); (case e => rfl); (case p => rfl))
  | ((with_reducible refine' we_call (x := "_law_start") ?c ?x ?j ?g ?d ?e ?p ?_); (case c => assumption); (case x => assumption); (case j => first | decide | exact Nat.le_refl _ | omega); (case g => assumption); (case d => decide); (case e => rfl); (case p => rfl))
  | ((with_reducible refine' we_call1 (x := "_law_next") ?c ?x ?j ?g ?d ?e ?p ?_); (case c => assumption); (case x => assumption); (case j => first | decide | exact Nat.le_refl _ | omega); (case g => assumption); (case d => decide); (case e => rfl); (case p => rfl))
  | ((with_reducible refine' we_call (x := "_law_is") ?c ?x ?j ?g ?d ?e ?p ?_); (case c => assumption); (case x => assumption); (case j => first | decide | exact Nat.le_refl _ | omega); (case g => assumption); (case d => decide); (case e => rfl); (case p => rfl))
  | ((with_reducible refine' we_call1 (x := "_law_forest") ?c ?x ?j ?g ?d ?e ?p ?_); (case c => assumption); (case x => assumption); (case j => first | decide | exact Nat.le_refl _ | omega); (case g => assumption); (case d => decide); (case e => rfl); (case p => rfl))
  | ((with_reducible refine' we_call (x := "_law_parent") ?c ?x ?j ?g ?d ?e ?p ?_); (case c => assumption); (case x => assumption); (case j => first | decide | exact Nat.le_refl _ | omega); (case g => assumption); (case d => decide); (case e => rfl); (case p => rfl))
  | ((with_reducible refine' we_call (x := "_law_up") ?c ?x ?j ?g ?d ?e ?p ?_); (case c => assumption); (case x => assumption); (case j => first | decide | exact Nat.le_refl _ | omega); (case g => assumption); (case d => decide); (case e => rfl); (case p => rfl))
  | ((with_reducible refine' we_call (x := "_law_due") ?c ?x ?j ?g ?d ?e ?p ?_); (case c => assumption); (case x => assumption); (case j => first | decide | exact Nat.le_refl _ | omega); (case g => assumption); (case d => decide); (case e => rfl); (case p => rfl))
  | ((with_reducible refine' we_call1 (x := "_law_asked") ?c ?x ?j ?g ?d ?e ?p ?_); (case c => assumption); (case x => assumption); (case j => first | decide | exact Nat.le_refl _ | omega); (case g => assumption); (case d => decide); (case e => rfl); (case p => rfl))
  | ((with_reducible refine' we_call (x := "law") ?c ?x ?j ?g ?d ?e ?p ?_); (case c => assumption); (case x => assumption); (case j => first | decide | exact Nat.le_refl _ | omega); (case g => assumption); (case d => decide); (case e => rfl); (case p => rfl)))
/-! the steps: one line a construct -/
local macro_rules | `(tactic| row_cond dlen) => `(tactic| (intro ds M R Q h; first | (obtain ⟨h1, _⟩ := h; subst h1; rfl) | (obtain ⟨_, h1, _⟩ := h; subst h1; rfl) | (obtain ⟨_, _, h1, _⟩ := h; subst h1; rfl) | (obtain ⟨_, _, _, h1, _⟩ := h; subst h1; rfl) | (obtain ⟨_, _, _, _, h1, _⟩ := h; subst h1; rfl) | (obtain ⟨_, _, _, _, _, h1, _⟩ := h; subst h1; rfl) | (obtain ⟨_, _, _, _, _, _, h1, _⟩ := h; subst h1; rfl) | (obtain ⟨_, _, _, _, _, _, _, h1, _⟩ := h; subst h1; rfl) | (obtain ⟨_, _, _, _, _, _, _, _, h1, _⟩ := h; subst h1; rfl) | (obtain ⟨_, _, _, _, _, _, _, _, _, h1, _⟩ := h; subst h1; rfl) | (obtain ⟨_, _, _, _, _, _, _, _, _, _, h1, _⟩ := h; subst h1; rfl) | (obtain ⟨_, _, _, _, _, _, _, _, _, _, _, h1, _⟩ := h; subst h1; rfl) | (obtain ⟨_, _, _, _, _, _, _, _, _, _, _, _, h1, _⟩ := h; subst h1; rfl)))
local macro_rules | `(tactic| row_cond dsz) => `(tactic| first | exact Nat.le_of_ble_eq_true rfl | assumption | (simp only [List.length_map, List.length_cons, List.length_append, List.length_nil, List.length_reverse, List.length_take, List.length_drop, PySem.sizeLine]; omega))
/- expressions -/
local macro_rules | `(tactic| row_cond dE) => `(tactic| first
  | ((with_reducible refine' we_name ?n ?e ?_); (case n => assumption); (case e => rfl))
  | (with_reducible refine we_int ?_)
  | (with_reducible refine we_bl ?_)
  | (with_reducible refine we_str ?_)
  | (with_reducible refine we_non ?_)
  | (with_reducible refine we_bin ?_)
  | ((with_reducible refine' we_cmp ?n ?_); (case n => rfl))
  | (with_reducible refine we_slice ?_)
  | (with_reducible refine we_rev ?_)
  | ((with_reducible refine' we_ix ?n ?_); (case n => exact fun _ _ => rfl))
  | (with_reducible refine we_tupV ?_)
  | (with_reducible refine we_lstV ?_)
  | ((with_reducible refine' we_blt ?b ?n ?m ?_); (case b => assumption); (case n => rfl); (case m => rfl))
  | ((with_reducible refine' we_typ ?b ?n ?m ?_); (case b => assumption); (case n => rfl); (case m => rfl))
  | ((with_reducible refine' we_tyName ?b ?_); (case b => assumption))
  | (with_reducible refine we_one ?_)
  | (with_reducible refine we_and ?_)
  | (with_reducible refine we_or ?_)
  | (with_reducible refine we_not ?_)
  | (with_reducible refine we_ifexp ?_)
  | ((with_reducible refine' we_un ?n ?_); (case n => exact fun z => nomatch z))
  | row_cond dcall
  | ((with_reducible refine we_bm (T := "list") PySem.F.plainAttrs_list PySem.F.slot_list_append PySem.F.type_list_append ?a ?b ?c ?d ?e ?_); (case a => rfl); (case b => rfl); (case c => rfl); (case d => rfl); (case e => rfl))
  | ((with_reducible refine we_bm0 (T := "list") PySem.F.plainAttrs_list PySem.F.slot_list_pop PySem.F.type_list_pop ?a ?b ?_); (case a => rfl); (case b => rfl))
  | ((with_reducible refine we_bm (T := "list") PySem.F.plainAttrs_list PySem.F.slot_list_extend PySem.F.type_list_extend ?a ?b ?c ?d ?e ?_); (case a => rfl); (case b => rfl); (case c => rfl); (case d => rfl); (case e => rfl)))
/- tests -/
local macro_rules | `(tactic| row_cond dT) => `(tactic| first
  | ((with_reducible refine' wt_cmp ?n ?_); (case n => rfl))
  | (with_reducible refine wt_not ?_)
  | (with_reducible refine wt_bool ?_)
  | (with_reducible refine ww_and1 ?_)
  | (with_reducible refine ww_or1 ?_)
  | (with_reducible refine ww_and ?_)
  | (with_reducible refine ww_or ?_)
  | ((with_reducible refine' wt_val ?n ?_); (case n => exact fun _ => rfl)))
/- statements -/
local macro_rules | `(tactic| row_cond dS) => `(tactic| first
  | (with_reducible refine wss_cons ?_)
  | (with_reducible refine wss_nil ?_)
  | ((with_reducible refine' ws_set ?a ?n ?h ?_); (case a => assumption); (case n => assumption); (case h => rfl))
  | ((with_reducible refine' ws_sub ?h ?_); (case h => rfl))
  | ((with_reducible refine' ws_asg ?a ?n ?h ?_); (case a => rfl); (case n => rfl); (case h => rfl))
  | (with_reducible refine ws_if ?_)
  | (with_reducible refine ws_ret ?_)
  | ((with_reducible refine' ws_expr ?h ?_); (case h => rfl))
  | (with_reducible refine ws_pass ?_)
  | (with_reducible refine ws_break ?_)
  | (with_reducible refine ws_continue ?_)
  | (with_reducible refine ws_retN ?_))
/- arguments, targets, values -/
local macro_rules | `(tactic| row_cond dV) => `(tactic| first
  | (with_reducible refine wa_nil ?_)
  | ((with_reducible refine' wa_cons ?n ?_); (case n => rfl))
  | (with_reducible refine wav_nil ?_)
  | ((with_reducible refine' wav_cons ?n ?_); (case n => rfl))
  | (with_reducible refine put_go ?_)
  | (with_reducible refine fz_lst ?_)
  | (with_reducible refine fz_tup ?_)
  | (with_reducible refine fz_id ?_)
  | (with_reducible refine own0_go ?_)
  | (with_reducible refine own1_go ?_)
  | (with_reducible refine app_go ?_)
  | (with_reducible refine mset_go ?_)
  | ((with_reducible refine' wg_name ?a ?n ?_); (case a => assumption); (case n => assumption))
  | ((with_reducible refine' wg_tup ?a ?n ?h ?_); (case a => assumption); (case n => rfl); (case h => rfl))
  | (with_reducible refine wgs_nil ?_)
  | ((with_reducible refine' wgs_cons ?n ?_); (case n => rfl))
  | (with_reducible refine wpt_none ?_)
  | (with_reducible refine wpt_some ?_)
  | ((with_reducible refine' wset_list ?n ?_); (case n => first | rfl | row_cond dix)))
/- what is walked -/
local macro_rules | `(tactic| row_cond dI) => `(tactic| first
  | ((with_reducible refine' wi_range1 ?a ?b ?c ?_); (case a => exact BltAt.gl (by assumption)); (case b => exact BltAt.mg (by assumption)); (case c => rfl))
  | ((with_reducible refine' wi_range2 ?a ?b ?c ?d ?_); (case a => exact BltAt.gl (by assumption)); (case b => exact BltAt.mg (by assumption)); (case c => rfl); (case d => rfl))
  | (with_reducible refine wi_val ?_)
  | (with_reducible refine wiv_list ?_)
  | (with_reducible refine wiv_tup ?_)
  | ((with_reducible refine' wgc_name ?a ?n ?h ?_); (case a => assumption); (case n => assumption); (case h => decide))
  | ((with_reducible refine' wgc_tup ?a ?n ?h ?_); (case a => assumption); (case n => rfl); (case h => rfl))
  | (with_reducible refine wgcs_nil ?_)
  | ((with_reducible refine' wgcs_cons ?n ?_); (case n => rfl))
  | (with_reducible refine wts_nil ?_)
  | (with_reducible refine wts_one ?_))
/- operations by values -/
local macro_rules | `(tactic| row_cond dO) => `(tactic| first
  | (with_reducible refine wo_add ?_)
  | (with_reducible refine wo_sub ?_)
  | ((with_reducible refine' wo_mulS ?n ?_); (case n => first | exact .inr ⟨by decide, by decide⟩ | exact .inl ⟨by decide, by decide⟩ | exact .inr ⟨by omega, by omega⟩ | exact .inl ⟨by omega, by omega⟩))
  | ((with_reducible refine' wo_fdiv ?n ?m ?_); (case n => first | decide | omega); (case m => first | decide | row_cond dlog))
  | ((with_reducible refine' wo_mod ?n ?_); (case n => first | decide | omega))
  | (with_reducible refine wo_powL ?_)
  | ((with_reducible refine' wo_pow ?n ?_); (case n => exact ⟨by decide, by decide, by decide⟩))
  | (with_reducible refine wo_xor ?_)
  | (with_reducible refine wo_lt ?_)
  | (with_reducible refine wo_le ?_)
  | (with_reducible refine wo_gt ?_)
  | (with_reducible refine wo_ge ?_)
  | (with_reducible refine wo_eqI ?_)
  | (with_reducible refine wo_neI ?_)
  | (with_reducible refine wo_eqS ?_)
  | (with_reducible refine wo_neS ?_)
  | (with_reducible refine wo_isN ?_)
  | (with_reducible refine wo_isnotN ?_)
  | (with_reducible refine wu_neg ?_)
  | (with_reducible refine wc_int ?_)
  | (with_reducible refine wc_intB ?_)
  | (with_reducible refine wc_abs ?_)
  | ((with_reducible refine' wc_max2 ?a ?_); (case a => assumption))
  | ((with_reducible refine' wc_min2 ?a ?_); (case a => assumption))
  | (with_reducible refine wc_list ?_)
  | (with_reducible refine wc_tuple ?_)
  | (with_reducible refine wc_lenM ?_)
  | (with_reducible refine wc_len ?_)
  | (with_reducible refine wc_isK ?_)
  | ((with_reducible refine' wc_allM ?a ?_); (case a => assumption))
  | ((with_reducible refine' wc_anyM ?a ?_); (case a => assumption))
  | ((with_reducible refine' wc_sum ?a ?_); (case a => assumption))
  | ((with_reducible refine' wx_list ?n ?_); (case n => row_cond dat))
  | ((with_reducible refine' wx_map ?a ?b ?_); (case a => omega); (case b => omega))
  | ((with_reducible refine' wx_seq ?a ?b ?_); (case a => omega); (case b => omega))
  | ((with_reducible refine' wx_tup ?n ?_); (case n => row_cond dat))
  | (with_reducible refine wsl_listM ?_)
  | (with_reducible refine wsl_list ?_)
  | (with_reducible refine wrev_goM ?_)
  | (with_reducible refine wrev_go ?_)
  | ((with_reducible refine' wo_catM ?n ?_); (case n => row_cond dsz))
  | ((with_reducible refine' wo_cat ?n ?_); (case n => row_cond dsz))
  | ((with_reducible refine' wm_append ?n ?_); (case n => row_cond dsz)))
local macro_rules | `(tactic| row_cond dat) => `(tactic| rfl)
local macro_rules | `(tactic| row_cond dix) => `(tactic| rfl)
local macro_rules | `(tactic| row_cond dlog) => `(tactic| first | decide | exact log_small (by omega) (by omega))
/- what stands between -/
local macro_rules | `(tactic| row_cond dQ) => `(tactic| first
  | (with_reducible refine ⟨_, rfl, ?_⟩)
  | (with_reducible refine br_true ?_)
  | (with_reducible refine br_false ?_)
  | (with_reducible refine rb_true ?_)
  | (with_reducible refine rb_false ?_)
  | ((with_reducible refine' br_dec ?_ ?_) <;> intro _)
  | ((with_reducible refine' br_ndec ?_ ?_) <;> intro _)
  | ((with_reducible refine' rb_dec ?_ ?_) <;> intro _)
  | ((with_reducible refine' rb_ndec ?_ ?_) <;> intro _)
  | (refine br_is rfl ?_)
  | (refine br_isnot rfl ?_)
  | (refine rb_is rfl ?_)
  | (refine rb_isnot rfl ?_)
  | ((with_reducible refine' ⟨⟨?a, ?b⟩, ?_⟩); (case a => omega); (case b => omega))
  | ((with_reducible refine' ⟨⟨?a, ?b, ?c, ?d⟩, ?_⟩); (case a => omega); (case b => omega); (case c => omega); (case d => omega))
  | (with_reducible refine app_go ?_)
  | (with_reducible refine ⟨tym_list, ?_⟩)
  | (with_reducible refine ⟨tym_str, ?_⟩)
  | ((with_reducible refine ⟨?n, ?_⟩); (case n => (show _ ≤ PySem.sizeLine); row_cond dsz))
  | (with_reducible intro _))
local macro_rules | `(tactic| row_cond dstart) => `(tactic| simp only [startD, List.map_cons, List.map_nil, List.length_cons, List.length_nil, List.cons_append, List.nil_append, Nat.zero_add, Nat.reduceAdd, Nat.reduceSub, List.replicate_succ, List.replicate_zero])
local macro_rules | `(tactic| row_cond d) => `(tactic| first | row_cond dE | row_cond dV | row_cond dO | row_cond dT | row_cond dS | row_cond dI | row_cond dmore | row_cond dspec | row_cond dQ)
local macro_rules | `(tactic| row_cond go) => `(tactic| repeat' (row_cond d))

/-! ### the draws -/
theorem xor_lt {a b : Int} (ha : 0 ≤ a) (hb : 0 ≤ b) (h1 : a < 2 ^ 64) (h2 : b < 2 ^ 64) : 0 ≤ Builtin.bitXor a b ∧ Builtin.bitXor a b < 2 ^ 64 := by
  refine ⟨Bits.bitXor_nonneg ha hb, ?_⟩
  rw [Bits.bitXor_pp ha hb]
  have := Nat.xor_lt_two_pow (x := a.toNat) (y := b.toNat) (n := 64) (by omega) (by omega)
  omega
def sp_law_mix : SpD := fun ds M _ Q => ∃ n, ds = [.int n] ∧ M = [] ∧ ∀ r : Int, 0 ≤ r → r < 2 ^ 64 → Q (.int r) []
theorem cal_law_mix {P : Program} {w : World} {K : PySem.W.Frag} {mg : Str → Option Value} {base : Heap} (T : Tx mg) (Da : DefAt K mg "_law_mix" s_law_mix)  : Cal P w K mg base (1) "_law_mix" sp_law_mix := by
  refine calD (k := 0) Da sc_law_mix (fun f fd Fu => Fu.binds fun _ _ _ _ _ _ us hl => match us, hl with | [_], _ => rfl) (by row_cond dlen) (fun X F hX nm ds M R Q hS => ?_)
  have hst := hX.std
  have n_number : NameAt X 0 "number" := nm.name rfl (.inl rfl) (by decide) (by decide)
  have s_number : StoreAt X 0 "number" := nm.store rfl (.inl rfl)
  have b_int : BltAt X "int" (.type "int") := nm.blt hX rfl T.z_int bo_int (by decide) (by decide)
  obtain ⟨n, rfl, rfl, hq⟩ := hS
  row_cond dstart
  refine wss_cons ?_
  row_cond go
  refine rt0 ?_
  have h1 := Int.emod_nonneg (n * 6364136223846793005 + 1442695040888963407) (show (18446744073709551616 : Int) ≠ 0 by decide)
  have h2 := Int.emod_lt_of_pos (n * 6364136223846793005 + 1442695040888963407) (show (0 : Int) < 18446744073709551616 by decide)
  generalize (n * 6364136223846793005 + 1442695040888963407) % 18446744073709551616 = a at *
  have h3 := Int.emod_nonneg (Builtin.bitXor a (a / 536870912) * 3935559000370003845 + 2691343689449507681) (show (18446744073709551616 : Int) ≠ 0 by decide)
  have h4 := Int.emod_lt_of_pos (Builtin.bitXor a (a / 536870912) * 3935559000370003845 + 2691343689449507681) (show (0 : Int) < 18446744073709551616 by decide)
  generalize (Builtin.bitXor a (a / 536870912) * 3935559000370003845 + 2691343689449507681) % 18446744073709551616 = b at *
  have h5 := xor_lt (a := b) (b := b / 4294967296) h3 (by omega) (by omega) (by omega)
  exact hq _ h5.1 h5.2
/-- a state of the draws -/
def DrawSt (d : D) : Prop := ∃ (ns : List Int) (i n c : Int), d = .lst [.lst (ns.map D.int), .int i, .int n, .int c] ∧ ns.length ≤ 63 ∧ 0 ≤ i ∧ 0 ≤ n
def sp_law_next : SpD := fun ds M _ Q => ∃ (p : Addr) (st : D) (lim : Int), ds = [.ref p, .int lim] ∧ M = [(p, st)] ∧ DrawSt st ∧ 0 < lim ∧ lim < 2 ^ 200 ∧ ∀ (r : Int) (st' : D), 0 ≤ r → r < lim → DrawSt st' → Q (.int r) [(p, st')]
theorem sp_law_mix_go {n : Int} {R : Mem} {Q : D → Mem → Prop} (h : ∀ r : Int, 0 ≤ r → r < 2 ^ 64 → Q (.int r) []) : sp_law_mix [.int n] [] R Q := ⟨n, rfl, rfl, h⟩
theorem sp_law_next_go {p : Addr} {st : D} {lim : Int} {R : Mem} {Q : D → Mem → Prop} (hs : DrawSt st) (h0 : 0 < lim) (h1 : lim < 2 ^ 200) (h : ∀ (r : Int) (st' : D), 0 ≤ r → r < lim → DrawSt st' → Q (.int r) [(p, st')]) : sp_law_next [.ref p, .int lim] [(p, st)] R Q :=
  ⟨p, st, lim, rfl, rfl, hs, h0, h1, h⟩
local macro_rules | `(tactic| row_cond dspec) => `(tactic| first
  | ((with_reducible refine' sp_law_next_go ?a ?b ?c ?_); (case a => assumption); (case b => first | decide | omega); (case c => first | decide | omega))
  | (with_reducible refine sp_law_mix_go ?_))
theorem cal_law_next {P : Program} {w : World} {K : PySem.W.Frag} {mg : Str → Option Value} {base : Heap} (T : Tx mg) (Da : DefAt K mg "_law_next" s_law_next) (c_law_mix : Cal P w K mg base 1 "_law_mix" sp_law_mix) : Cal P w K mg base (2) "_law_next" sp_law_next := by
  refine calD (k := 1) Da sc_law_next (fun f fd Fu => Fu.binds fun _ _ _ _ _ _ us hl => match us, hl with | [_, _], _ => rfl) (by row_cond dlen) (fun X F hX nm ds M R Q hS => ?_)
  have hst := hX.std
  have n_state : NameAt X 0 "state" := nm.name rfl (.inl rfl) (by decide) (by decide)
  have s_state : StoreAt X 0 "state" := nm.store rfl (.inl rfl)
  have n_limit : NameAt X 1 "limit" := nm.name rfl (.inl rfl) (by decide) (by decide)
  have s_limit : StoreAt X 1 "limit" := nm.store rfl (.inl rfl)
  have n_number : NameAt X 2 "number" := nm.name rfl (.inl rfl) (by decide) (by decide)
  have s_number : StoreAt X 2 "number" := nm.store rfl (.inl rfl)
  have n_drawn : NameAt X 3 "drawn" := nm.name rfl (.inl rfl) (by decide) (by decide)
  have s_drawn : StoreAt X 3 "drawn" := nm.store rfl (.inl rfl)
  have g_law_mix : Gl X "_law_mix" := nm.gl rfl
  have b_len : BltAt X "len" (.builtin "len") := nm.blt hX rfl T.z_len bo_len (by decide) (by decide)
  have b_abs : BltAt X "abs" (.builtin "abs") := nm.blt hX rfl T.z_abs bo_abs (by decide) (by decide)
  have b_int : BltAt X "int" (.type "int") := nm.blt hX rfl T.z_int bo_int (by decide) (by decide)
  obtain ⟨p, st, lim, rfl, rfl, ⟨ns, i, n, c, rfl, hl, hi, hn⟩, h0, h1, hq⟩ := hS
  row_cond dstart
  refine wss_cons ?_
  row_cond go
  · refine rt1 (k := 0) (hq _ _ (Int.emod_nonneg _ (by omega)) (Int.emod_lt_of_pos _ h0) ⟨ns, _, _, _, rfl, hl, by omega, Int.ediv_nonneg (by assumption) (by omega)⟩)
  · refine rt1 (k := 0) (hq _ _ (Int.emod_nonneg _ (by omega)) (Int.emod_lt_of_pos _ h0) ⟨ns, _, _, _, rfl, hl, by omega, Int.ediv_nonneg (by split <;> omega) (by omega)⟩)
  · refine rt1 (k := 0) (hq _ _ (Int.emod_nonneg _ (by omega)) (Int.emod_lt_of_pos _ h0) ⟨ns, _, _, _, rfl, hl, by omega, Int.ediv_nonneg (by assumption) (by omega)⟩)
  · refine rt1 (k := 0) (hq _ _ (Int.emod_nonneg _ (by omega)) (Int.emod_lt_of_pos _ h0) ⟨ns, _, _, _, rfl, hl, by omega, Int.ediv_nonneg (by assumption) (by omega)⟩)

end K20


namespace K20
open PySem PySem.Spec PyProof.Rows L2 DL
local macro_rules | `(tactic| row_cond dcall) => `(tactic| first
  | ((with_reducible refine' we_call (x := "parent_place") ?c ?x ?j ?g ?d ?e ?p ?_); (case c => assumption); (case x => assumption); (case j => first | decide | exact Nat.le_refl _ | omega); (case g => assumption); (case d => decide); (case e => rfl); (case p => rfl))
  | ((with_reducible refine' we_call (x := "way_up") ?c ?x ?j ?g ?d ?e ?p ?_); (case c => assumption); (case x => assumption); (case j => first | decide | exact Nat.le_refl _ | omega); (case g => assumption); (case d => decide); (case e => rfl); (case p => rfl))
  | ((with_reducible refine' we_call (x := "way") ?c ?x ?j ?g ?d ?e ?p ?_); (case c => assumption); (case x => assumption); (case j => first | decide | exact Nat.le_refl _ | omega); (case g => assumption); (case d => decide); (case e => rfl); (case p => rfl))
  | ((with_reducible refine' we_call (x := "_law_mix") ?c ?x ?j ?g ?d ?e ?p ?_); (case c => assumption); (case x => assumption); (case j => first | decide | exact Nat.le_refl _ | omega); (case g => assumption); (case d => decide); (case e => rfl); (case p => rfl))
  | ((with_reducible refine' we_call (x := "_law_start") ?c ?x ?j ?g ?d ?e ?p ?_); (case c => assumption); (case x => assumption); (case j => first | decide | exact Nat.le_refl _ | omega); (case g => assumption); (case d => decide); (case e => rfl); (case p => rfl))
  | ((with_reducible refine' we_call1 (x := "_law_next") ?c ?x ?j ?g ?d ?e ?p ?_); (case c => assumption); (case x => assumption); (case j => first | decide | exact Nat.le_refl _ | omega); (case g => assumption); (case d => decide); (case e => rfl); (case p => rfl))
  | ((with_reducible refine' we_call (x := "_law_is") ?c ?x ?j ?g ?d ?e ?p ?_); (case c => assumption); (case x => assumption); (case j => first | decide | exact Nat.le_refl _ | omega); (case g => assumption); (case d => decide); (case e => rfl); (case p => rfl))
  | ((with_reducible refine' we_call1 (x := "_law_forest") ?c ?x ?j ?g ?d ?e ?p ?_); (case c => assumption); (case x => assumption); (case j => first | decide | exact Nat.le_refl _ | omega); (case g => assumption); (case d => decide); (case e => rfl); (case p => rfl))
  | ((with_reducible refine' we_call (x := "_law_parent") ?c ?x ?j ?g ?d ?e ?p ?_); (case c => assumption); (case x => assumption); (case j => first | decide | exact Nat.le_refl _ | omega); (case g => assumption); (case d => decide); (case e => rfl); (case p => rfl))
  | ((with_reducible refine' we_call (x := "_law_up") ?c ?x ?j ?g ?d ?e ?p ?_); (case c => assumption); (case x => assumption); (case j => first | decide | exact Nat.le_refl _ | omega); (case g => assumption); (case d => decide); (case e => rfl); (case p => rfl))
  | ((with_reducible refine' we_call (x := "_law_due") ?c ?x ?j ?g ?d ?e ?p ?_); (case c => assumption); (case x => assumption); (case j => first | decide | exact Nat.le_refl _ | omega); (case g => assumption); (case d => decide); (case e => rfl); (case p => rfl))
  | ((with_reducible refine' we_call1 (x := "_law_asked") ?c ?x ?j ?g ?d ?e ?p ?_); (case c => assumption); (case x => assumption); (case j => first | decide | exact Nat.le_refl _ | omega); (case g => assumption); (case d => decide); (case e => rfl); (case p => rfl))
  | ((with_reducible refine' we_call (x := "law") ?c ?x ?j ?g ?d ?e ?p ?_); (case c => assumption); (case x => assumption); (case j => first | decide | exact Nat.le_refl _ | omega); (case g => assumption); (case d => decide); (case e => rfl); (case p => rfl)))
/-! the steps: one line a construct -/
local macro_rules | `(tactic| row_cond dlen) => `(tactic| (intro ds M R Q h; first | (obtain ⟨h1, _⟩ := h; subst h1; rfl) | (obtain ⟨_, h1, _⟩ := h; subst h1; rfl) | (obtain ⟨_, _, h1, _⟩ := h; subst h1; rfl) | (obtain ⟨_, _, _, h1, _⟩ := h; subst h1; rfl) | (obtain ⟨_, _, _, _, h1, _⟩ := h; subst h1; rfl) | (obtain ⟨_, _, _, _, _, h1, _⟩ := h; subst h1; rfl) | (obtain ⟨_, _, _, _, _, _, h1, _⟩ := h; subst h1; rfl) | (obtain ⟨_, _, _, _, _, _, _, h1, _⟩ := h; subst h1; rfl) | (obtain ⟨_, _, _, _, _, _, _, _, h1, _⟩ := h; subst h1; rfl) | (obtain ⟨_, _, _, _, _, _, _, _, _, h1, _⟩ := h; subst h1; rfl) | (obtain ⟨_, _, _, _, _, _, _, _, _, _, h1, _⟩ := h; subst h1; rfl) | (obtain ⟨_, _, _, _, _, _, _, _, _, _, _, h1, _⟩ := h; subst h1; rfl) | (obtain ⟨_, _, _, _, _, _, _, _, _, _, _, _, h1, _⟩ := h; subst h1; rfl)))
local macro_rules | `(tactic| row_cond dsz) => `(tactic| first | exact Nat.le_of_ble_eq_true rfl | assumption | (simp only [List.length_map, List.length_cons, List.length_append, List.length_nil, List.length_reverse, List.length_take, List.length_drop, PySem.sizeLine]; omega))
/- expressions -/
local macro_rules | `(tactic| row_cond dE) => `(tactic| first
  | ((with_reducible refine' we_name ?n ?e ?_); (case n => assumption); (case e => rfl))
  | (with_reducible refine we_int ?_)
  | (with_reducible refine we_bl ?_)
  | (with_reducible refine we_str ?_)
  | (with_reducible refine we_non ?_)
  | (with_reducible refine we_bin ?_)
  | ((with_reducible refine' we_cmp ?n ?_); (case n => rfl))
  | (with_reducible refine we_slice ?_)
  | (with_reducible refine we_rev ?_)
  | ((with_reducible refine' we_ix ?n ?_); (case n => exact fun _ _ => rfl))
  | (with_reducible refine we_tupV ?_)
  | (with_reducible refine we_lstV ?_)
  | ((with_reducible refine' we_blt ?b ?n ?m ?_); (case b => assumption); (case n => rfl); (case m => rfl))
  | ((with_reducible refine' we_typ ?b ?n ?m ?_); (case b => assumption); (case n => rfl); (case m => rfl))
  | ((with_reducible refine' we_tyName ?b ?_); (case b => assumption))
  | (with_reducible refine we_one ?_)
  | (with_reducible refine we_and ?_)
  | (with_reducible refine we_or ?_)
  | (with_reducible refine we_not ?_)
  | (with_reducible refine we_ifexp ?_)
  | ((with_reducible refine' we_un ?n ?_); (case n => exact fun z => nomatch z))
  | row_cond dcall
  | ((with_reducible refine we_bm (T := "list") PySem.F.plainAttrs_list PySem.F.slot_list_append PySem.F.type_list_append ?a ?b ?c ?d ?e ?_); (case a => rfl); (case b => rfl); (case c => rfl); (case d => rfl); (case e => rfl))
  | ((with_reducible refine we_bm0 (T := "list") PySem.F.plainAttrs_list PySem.F.slot_list_pop PySem.F.type_list_pop ?a ?b ?_); (case a => rfl); (case b => rfl))
  | ((with_reducible refine we_bm (T := "list") PySem.F.plainAttrs_list PySem.F.slot_list_extend PySem.F.type_list_extend ?a ?b ?c ?d ?e ?_); (case a => rfl); (case b => rfl); (case c => rfl); (case d => rfl); (case e => rfl)))
/- tests -/
local macro_rules | `(tactic| row_cond dT) => `(tactic| first
  | ((with_reducible refine' wt_cmp ?n ?_); (case n => rfl))
  | (with_reducible refine wt_not ?_)
  | (with_reducible refine wt_bool ?_)
  | (with_reducible refine ww_and1 ?_)
  | (with_reducible refine ww_or1 ?_)
  | (with_reducible refine ww_and ?_)
  | (with_reducible refine ww_or ?_)
  | ((with_reducible refine' wt_val ?n ?_); (case n => exact fun _ => rfl)))
/- statements -/
local macro_rules | `(tactic| row_cond dS) => `(tactic| first
  | (with_reducible refine wss_cons ?_)
  | (with_reducible refine wss_nil ?_)
  | ((with_reducible refine' ws_set ?a ?n ?h ?_); (case a => assumption); (case n => assumption); (case h => rfl))
  | ((with_reducible refine' ws_sub ?h ?_); (case h => rfl))
  | ((with_reducible refine' ws_asg ?a ?n ?h ?_); (case a => rfl); (case n => rfl); (case h => rfl))
  | (with_reducible refine ws_if ?_)
  | (with_reducible refine ws_ret ?_)
  | ((with_reducible refine' ws_expr ?h ?_); (case h => rfl))
  | (with_reducible refine ws_pass ?_)
  | (with_reducible refine ws_break ?_)
  | (with_reducible refine ws_continue ?_)
  | (with_reducible refine ws_retN ?_))
/- arguments, targets, values -/
local macro_rules | `(tactic| row_cond dV) => `(tactic| first
  | (with_reducible refine wa_nil ?_)
  | ((with_reducible refine' wa_cons ?n ?_); (case n => rfl))
  | (with_reducible refine wav_nil ?_)
  | ((with_reducible refine' wav_cons ?n ?_); (case n => rfl))
  | (with_reducible refine put_go ?_)
  | (with_reducible refine fz_lst ?_)
  | (with_reducible refine fz_tup ?_)
  | (with_reducible refine fz_id ?_)
  | (with_reducible refine own0_go ?_)
  | (with_reducible refine own1_go ?_)
  | (with_reducible refine app_go ?_)
  | (with_reducible refine mset_go ?_)
  | ((with_reducible refine' wg_name ?a ?n ?_); (case a => assumption); (case n => assumption))
  | ((with_reducible refine' wg_tup ?a ?n ?h ?_); (case a => assumption); (case n => rfl); (case h => rfl))
  | (with_reducible refine wgs_nil ?_)
  | ((with_reducible refine' wgs_cons ?n ?_); (case n => rfl))
  | (with_reducible refine wpt_none ?_)
  | (with_reducible refine wpt_some ?_)
  | ((with_reducible refine' wset_list ?n ?_); (case n => first | rfl | row_cond dix)))
/- what is walked -/
local macro_rules | `(tactic| row_cond dI) => `(tactic| first
  | ((with_reducible refine' wi_range1 ?a ?b ?c ?_); (case a => exact BltAt.gl (by assumption)); (case b => exact BltAt.mg (by assumption)); (case c => rfl))
  | ((with_reducible refine' wi_range2 ?a ?b ?c ?d ?_); (case a => exact BltAt.gl (by assumption)); (case b => exact BltAt.mg (by assumption)); (case c => rfl); (case d => rfl))
  | (with_reducible refine wi_val ?_)
  | (with_reducible refine wiv_list ?_)
  | (with_reducible refine wiv_tup ?_)
  | ((with_reducible refine' wgc_name ?a ?n ?h ?_); (case a => assumption); (case n => assumption); (case h => decide))
  | ((with_reducible refine' wgc_tup ?a ?n ?h ?_); (case a => assumption); (case n => rfl); (case h => rfl))
  | (with_reducible refine wgcs_nil ?_)
  | ((with_reducible refine' wgcs_cons ?n ?_); (case n => rfl))
  | (with_reducible refine wts_nil ?_)
  | (with_reducible refine wts_one ?_))
/- operations by values -/
local macro_rules | `(tactic| row_cond dO) => `(tactic| first
  | (with_reducible refine wo_add ?_)
  | (with_reducible refine wo_sub ?_)
  | ((with_reducible refine' wo_mulS ?n ?_); (case n => first | exact .inr ⟨by decide, by decide⟩ | exact .inl ⟨by decide, by decide⟩ | exact .inr ⟨by omega, by omega⟩ | exact .inl ⟨by omega, by omega⟩))
  | ((with_reducible refine' wo_fdiv ?n ?m ?_); (case n => first | decide | omega); (case m => first | decide | row_cond dlog))
  | ((with_reducible refine' wo_mod ?n ?_); (case n => first | decide | omega))
  | (with_reducible refine wo_powL ?_)
  | ((with_reducible refine' wo_pow ?n ?_); (case n => exact ⟨by decide, by decide, by decide⟩))
  | (with_reducible refine wo_xor ?_)
  | (with_reducible refine wo_lt ?_)
  | (with_reducible refine wo_le ?_)
  | (with_reducible refine wo_gt ?_)
  | (with_reducible refine wo_ge ?_)
  | (with_reducible refine wo_eqI ?_)
  | (with_reducible refine wo_neI ?_)
  | (with_reducible refine wo_eqS ?_)
  | (with_reducible refine wo_neS ?_)
  | (with_reducible refine wo_isN ?_)
  | (with_reducible refine wo_isnotN ?_)
  | (with_reducible refine wu_neg ?_)
  | (with_reducible refine wc_int ?_)
  | (with_reducible refine wc_intB ?_)
  | (with_reducible refine wc_abs ?_)
  | ((with_reducible refine' wc_max2 ?a ?_); (case a => assumption))
  | ((with_reducible refine' wc_min2 ?a ?_); (case a => assumption))
  | (with_reducible refine wc_list ?_)
  | (with_reducible refine wc_tuple ?_)
  | (with_reducible refine wc_lenM ?_)
  | (with_reducible refine wc_len ?_)
  | (with_reducible refine wc_isK ?_)
  | ((with_reducible refine' wc_allM ?a ?_); (case a => assumption))
  | ((with_reducible refine' wc_anyM ?a ?_); (case a => assumption))
  | ((with_reducible refine' wc_sum ?a ?_); (case a => assumption))
  | ((with_reducible refine' wx_list ?n ?_); (case n => row_cond dat))
  | ((with_reducible refine' wx_map ?a ?b ?_); (case a => omega); (case b => omega))
  | ((with_reducible refine' wx_seq ?a ?b ?_); (case a => omega); (case b => omega))
  | ((with_reducible refine' wx_tup ?n ?_); (case n => row_cond dat))
  | (with_reducible refine wsl_listM ?_)
  | (with_reducible refine wsl_list ?_)
  | (with_reducible refine wrev_goM ?_)
  | (with_reducible refine wrev_go ?_)
  | ((with_reducible refine' wo_catM ?n ?_); (case n => row_cond dsz))
  | ((with_reducible refine' wo_cat ?n ?_); (case n => row_cond dsz))
  | ((with_reducible refine' wm_append ?n ?_); (case n => row_cond dsz)))
local macro_rules | `(tactic| row_cond dat) => `(tactic| rfl)
local macro_rules | `(tactic| row_cond dix) => `(tactic| rfl)
local macro_rules | `(tactic| row_cond dlog) => `(tactic| first | decide | exact log_small (by omega) (by omega))
/- what stands between -/
local macro_rules | `(tactic| row_cond dQ) => `(tactic| first
  | (with_reducible refine ⟨_, rfl, ?_⟩)
  | (with_reducible refine br_true ?_)
  | (with_reducible refine br_false ?_)
  | (with_reducible refine rb_true ?_)
  | (with_reducible refine rb_false ?_)
  | ((with_reducible refine' br_dec ?_ ?_) <;> intro _)
  | ((with_reducible refine' br_ndec ?_ ?_) <;> intro _)
  | ((with_reducible refine' rb_dec ?_ ?_) <;> intro _)
  | ((with_reducible refine' rb_ndec ?_ ?_) <;> intro _)
  | (refine br_is rfl ?_)
  | (refine br_isnot rfl ?_)
  | (refine rb_is rfl ?_)
  | (refine rb_isnot rfl ?_)
  | ((with_reducible refine' ⟨⟨?a, ?b⟩, ?_⟩); (case a => omega); (case b => omega))
  | ((with_reducible refine' ⟨⟨?a, ?b, ?c, ?d⟩, ?_⟩); (case a => omega); (case b => omega); (case c => omega); (case d => omega))
  | (with_reducible refine app_go ?_)
  | (with_reducible refine ⟨tym_list, ?_⟩)
  | (with_reducible refine ⟨tym_str, ?_⟩)
  | ((with_reducible refine ⟨?n, ?_⟩); (case n => (show _ ≤ PySem.sizeLine); row_cond dsz))
  | (with_reducible intro _))
local macro_rules | `(tactic| row_cond dstart) => `(tactic| simp only [startD, List.map_cons, List.map_nil, List.length_cons, List.length_nil, List.cons_append, List.nil_append, Nat.zero_add, Nat.reduceAdd, Nat.reduceSub, List.replicate_succ, List.replicate_zero])
local macro_rules | `(tactic| row_cond d) => `(tactic| first | row_cond dE | row_cond dV | row_cond dO | row_cond dT | row_cond dS | row_cond dI | row_cond dmore | row_cond dspec | row_cond dQ)
local macro_rules | `(tactic| row_cond go) => `(tactic| repeat' (row_cond d))

/-! ### _law_is of equal data -/
def sp_law_is (n : Nat) : SpD := fun ds M R Q => ∃ (d1 d2 c : D), ds = [d1, d2] ∧ M = [] ∧ Sh R d1 c ∧ Sh R d2 c ∧ Isd n c ∧ Q (.bl true) []
theorem isd_flat : ∀ (n : Nat) (c : D), Isd n c → (c = .non ∨ (∃ i, c = .int i) ∨ ∃ z, c = .str z) ∨ ∃ m ds, n = m + 1 ∧ (c = .tup ds ∨ c = .lst ds) ∧ ds.length ≤ 16777216 ∧ ∀ d ∈ ds, Isd m d
  | _, .non, _ => .inl (.inl rfl)
  | _, .int _, _ => .inl (.inr (.inl ⟨_, rfl⟩))
  | _, .str _, _ => .inl (.inr (.inr ⟨_, rfl⟩))
  | m + 1, .tup ds, h => .inr ⟨m, ds, rfl, .inl rfl, h⟩
  | m + 1, .lst ds, h => .inr ⟨m, ds, rfl, .inr rfl, h⟩
  | 0, .tup _, h => h.elim
  | 0, .lst _, h => h.elim
  | 0, .bl _, h => h.elim
  | _ + 1, .bl _, h => h.elim
  | 0, .ref _, h => h.elim
  | _ + 1, .ref _, h => h.elim
  | 0, .ty _, h => h.elim
  | _ + 1, .ty _, h => h.elim
  | 0, .dK _, h => h.elim
  | _ + 1, .dK _, h => h.elim
  | 0, .dT _, h => h.elim
  | _ + 1, .dT _, h => h.elim
  | 0, .st _, h => h.elim
  | _ + 1, .st _, h => h.elim
  | 0, .ins _ _, h => h.elim
  | _ + 1, .ins _ _, h => h.elim
theorem cal_law_is0 {P : Program} {w : World} {K : PySem.W.Frag} {mg : Str → Option Value} {base : Heap} (T : Tx mg) (Da : DefAt K mg "_law_is" s_law_is)  : Cal P w K mg base (1) "_law_is" (sp_law_is 0) := by
  refine calD (k := 0) Da sc_law_is (fun f fd Fu => Fu.binds fun _ _ _ _ _ _ us hl => match us, hl with | [_, _], _ => rfl) (by row_cond dlen) (fun X F hX nm ds M R Q hS => ?_)
  have hst := hX.std
  have n_told : NameAt X 0 "told" := nm.name rfl (.inr rfl) (by decide) (by decide)
  have s_told : StoreAt X 0 "told" := nm.store rfl (.inr rfl)
  have n_due : NameAt X 1 "due" := nm.name rfl (.inr rfl) (by decide) (by decide)
  have s_due : StoreAt X 1 "due" := nm.store rfl (.inr rfl)
  have b_isinstance : BltAt X "isinstance" (.builtin "isinstance") := nm.blt hX rfl T.z_isinstance bo_isinstance (by decide) (by decide)
  have b_int : BltAt X "int" (.type "int") := nm.blt hX rfl T.z_int bo_int (by decide) (by decide)
  have b_bool : BltAt X "bool" (.type "bool") := nm.blt hX rfl T.z_bool bo_bool (by decide) (by decide)
  have b_str : BltAt X "str" (.type "str") := nm.blt hX rfl T.z_str bo_str (by decide) (by decide)
  have b_dict : BltAt X "dict" (.type "dict") := nm.blt hX rfl T.z_dict bo_dict (by decide) (by decide)
  have b_len : BltAt X "len" (.builtin "len") := nm.blt hX rfl T.z_len bo_len (by decide) (by decide)
  have b_all : BltAt X "all" (.builtin "all") := nm.blt hX rfl T.z_all bo_all (by decide) (by decide)
  have b_tuple : BltAt X "tuple" (.type "tuple") := nm.blt hX rfl T.z_tuple bo_tuple (by decide) (by decide)
  have b_list : BltAt X "list" (.type "list") := nm.blt hX rfl T.z_list bo_list (by decide) (by decide)
  have b_range : BltAt X "range" (.type "range") := nm.blt hX rfl T.z_range bo_range (by decide) (by decide)
  have m_range : X.mg "range" = none := by rw [hX.mg]; exact T.z_range
  obtain ⟨d1, d2, c, rfl, rfl, h1, h2, hd, hq⟩ := hS
  row_cond dstart
  rcases isd_flat _ c hd with (rfl | ⟨i, rfl⟩ | ⟨z, rfl⟩) | ⟨m, _, e, _⟩
  · (cases h1; cases h2); refine wss_cons ?_; row_cond go; exact rt0 hq
  · (cases h1; cases h2); refine wss_cons ?_; row_cond go; refine rt0 ?_; simpa using hq
  · (cases h1; cases h2); refine wss_cons ?_; row_cond go; refine rt0 ?_; simpa using hq
  · cases e
theorem sh_wk {q : Addr × D} {R : Mem} {d c : D} (h : Sh R d c) : Sh (q :: R) d c := by
  cases h with
  | self => exact .self _
  | lst h => exact .lst ⟨see_wk h.see⟩
local macro_rules | `(tactic| row_cond dspec) => `(tactic| fail)
theorem cal_law_isS {P : Program} {w : World} {K : PySem.W.Frag} {mg : Str → Option Value} {base : Heap} {n : Nat} (T : Tx mg) (Da : DefAt K mg "_law_is" s_law_is) (c_law_is : Cal P w K mg base (n+1) "_law_is" (sp_law_is n)) : Cal P w K mg base (n+2) "_law_is" (sp_law_is (n+1)) := by
  refine calD (k := (n+1)) Da sc_law_is (fun f fd Fu => Fu.binds fun _ _ _ _ _ _ us hl => match us, hl with | [_, _], _ => rfl) (by row_cond dlen) (fun X F hX nm ds M R Q hS => ?_)
  have hst := hX.std
  have n_told : NameAt X 0 "told" := nm.name rfl (.inr rfl) (by decide) (by decide)
  have s_told : StoreAt X 0 "told" := nm.store rfl (.inr rfl)
  have n_due : NameAt X 1 "due" := nm.name rfl (.inr rfl) (by decide) (by decide)
  have s_due : StoreAt X 1 "due" := nm.store rfl (.inr rfl)
  have b_isinstance : BltAt X "isinstance" (.builtin "isinstance") := nm.blt hX rfl T.z_isinstance bo_isinstance (by decide) (by decide)
  have b_int : BltAt X "int" (.type "int") := nm.blt hX rfl T.z_int bo_int (by decide) (by decide)
  have b_bool : BltAt X "bool" (.type "bool") := nm.blt hX rfl T.z_bool bo_bool (by decide) (by decide)
  have b_str : BltAt X "str" (.type "str") := nm.blt hX rfl T.z_str bo_str (by decide) (by decide)
  have b_dict : BltAt X "dict" (.type "dict") := nm.blt hX rfl T.z_dict bo_dict (by decide) (by decide)
  have b_len : BltAt X "len" (.builtin "len") := nm.blt hX rfl T.z_len bo_len (by decide) (by decide)
  have b_all : BltAt X "all" (.builtin "all") := nm.blt hX rfl T.z_all bo_all (by decide) (by decide)
  have b_tuple : BltAt X "tuple" (.type "tuple") := nm.blt hX rfl T.z_tuple bo_tuple (by decide) (by decide)
  have b_list : BltAt X "list" (.type "list") := nm.blt hX rfl T.z_list bo_list (by decide) (by decide)
  have b_range : BltAt X "range" (.type "range") := nm.blt hX rfl T.z_range bo_range (by decide) (by decide)
  have m_range : X.mg "range" = none := by rw [hX.mg]; exact T.z_range
  obtain ⟨d1, d2, c, rfl, rfl, h1, h2, hd, hq⟩ := hS
  row_cond dstart
  rcases isd_flat _ c hd with (rfl | ⟨i, rfl⟩ | ⟨z, rfl⟩) | ⟨m, ds, e, hc, hlen, hds⟩
  · (cases h1; cases h2); refine wss_cons ?_; row_cond go; exact rt0 hq
  · (cases h1; cases h2); refine wss_cons ?_; row_cond go; refine rt0 ?_; simpa using hq
  · (cases h1; cases h2); refine wss_cons ?_; row_cond go; refine rt0 ?_; simpa using hq
  · cases e
    rcases hc with rfl | rfl
    · (cases h1; cases h2)
      refine wss_cons ?_
      row_cond go
      · refine we_lc' hst (own := [("k", 3)]) (nm.blk (by decide +kernel)) (fun _ => rfl) rfl ?_
        row_cond go
        refine lc_name hX (by rw [nm.N]; rfl) (.inl rfl) (fun i acc M' => acc = (List.replicate i true).map D.bl ∧ M' = []) ⟨rfl, rfl⟩ (fun _ _ _ _ _ => trivial) (fun a i x acc M' hx hW => ?_) (fun a acc M' hW => ?_)
        · obtain ⟨rfl, rfl⟩ := hW
          obtain ⟨hi, rfl⟩ := rngD_at hx
          have hi' : i < ds.length := by omega
          refine put_go (fun X' hb => ?_)
          have hX_X' := hb.inn hX
          have hst_X' := hX_X'.std
          have n_k_X' : NameAt X' 3 "k" := hb.name (by rw [nm.N]; rfl) (by first | exact .inl rfl | exact .inr (.inl rfl) | exact .inr (.inr rfl)) (by decide) (by decide)
          have s_k_X' : StoreAt X' 3 "k" := hb.store (by rw [nm.N]; rfl) (by first | exact .inl rfl | exact .inr rfl)
          have g_law_is_X' : Gl X' "_law_is" := hb.gl rfl
          have n_told_X' : NameAt X' 0 "told" := hb.name (by rw [nm.N]; rfl) (by first | exact .inl rfl | exact .inr (.inl rfl) | exact .inr (.inr rfl)) (by decide) (by decide)
          have n_due_X' : NameAt X' 1 "due" := hb.name (by rw [nm.N]; rfl) (by first | exact .inl rfl | exact .inr (.inl rfl) | exact .inr (.inr rfl)) (by decide) (by decide)
          row_cond go
          rename_i y1 h1 y2 h2
          rw [h1] at h2; cases h2
          refine ⟨y1, y1, y1, rfl, rfl, .self _, .self _, hds _ (List.mem_of_getElem? h1), ?_⟩
          row_cond go
          refine lcend_id (by rw [List.length_map, List.length_replicate]; show i < 16777216; omega) ⟨by rw [List.replicate_succ', List.map_append]; rfl, rfl⟩
        · obtain ⟨rfl, rfl⟩ := hW
          row_cond go
          refine rt0 ?_
          rw [all_rep]; exact hq
      · rename_i z; exact absurd rfl z
    · have s1 : SeeL [] R d1 ds := by
        cases h1 with
        | self => exact SeeL.self
        | lst h => exact h
      have s2 : SeeL [] R d2 ds := by
        cases h2 with
        | self => exact SeeL.self
        | lst h => exact h
      have nn : isNon d2 = false := by
        cases h2 with
        | self => rfl
        | lst h =>
          cases h.see with
          | self => rfl
          | own h => cases h
          | rd h => rfl
      refine wss_cons ?_
      row_cond go
      refine br_isnot nn ?_
      row_cond go
      · refine we_lc' hst (own := [("k", 3)]) (nm.blk (by decide +kernel)) (fun _ => rfl) rfl ?_
        row_cond go
        refine lc_name hX (by rw [nm.N]; rfl) (.inl rfl) (fun i acc M' => acc = (List.replicate i true).map D.bl ∧ M' = []) ⟨rfl, rfl⟩ (fun _ _ _ _ _ => trivial) (fun a i x acc M' hx hW => ?_) (fun a acc M' hW => ?_)
        · obtain ⟨rfl, rfl⟩ := hW
          obtain ⟨hi, rfl⟩ := rngD_at hx
          have hi' : i < ds.length := by omega
          refine put_go (fun X' hb => ?_)
          have hX_X' := hb.inn hX
          have hst_X' := hX_X'.std
          have n_k_X' : NameAt X' 3 "k" := hb.name (by rw [nm.N]; rfl) (by first | exact .inl rfl | exact .inr (.inl rfl) | exact .inr (.inr rfl)) (by decide) (by decide)
          have s_k_X' : StoreAt X' 3 "k" := hb.store (by rw [nm.N]; rfl) (by first | exact .inl rfl | exact .inr rfl)
          have g_law_is_X' : Gl X' "_law_is" := hb.gl rfl
          have n_told_X' : NameAt X' 0 "told" := hb.name (by rw [nm.N]; rfl) (by first | exact .inl rfl | exact .inr (.inl rfl) | exact .inr (.inr rfl)) (by decide) (by decide)
          have n_due_X' : NameAt X' 1 "due" := hb.name (by rw [nm.N]; rfl) (by first | exact .inl rfl | exact .inr (.inl rfl) | exact .inr (.inr rfl)) (by decide) (by decide)
          row_cond go
          rename_i y1 h1 y2 h2
          rw [h1] at h2; cases h2
          refine ⟨y1, y1, y1, rfl, rfl, .self _, .self _, hds _ (List.mem_of_getElem? h1), ?_⟩
          row_cond go
          refine lcend_id (by rw [List.length_map, List.length_replicate]; show i < 16777216; omega) ⟨by rw [List.replicate_succ', List.map_append]; rfl, rfl⟩
        · obtain ⟨rfl, rfl⟩ := hW
          row_cond go
          refine rt0 ?_
          rw [all_rep]; exact hq
      · rename_i z; exact absurd rfl z

end K20


namespace K20
open PySem PySem.Spec PyProof.Rows L2 DL
local macro_rules | `(tactic| row_cond dcall) => `(tactic| first
  | ((with_reducible refine' we_call (x := "parent_place") ?c ?x ?j ?g ?d ?e ?p ?_); (case c => assumption); (case x => assumption); (case j => first | decide | exact Nat.le_refl _ | omega); (case g => assumption); (case d => decide); (case e => rfl); (case p => rfl))
  | ((with_reducible refine' we_call (x := "way_up") ?c ?x ?j ?g ?d ?e ?p ?_); (case c => assumption); (case x => assumption); (case j => first | decide | exact Nat.le_refl _ | omega); (case g => assumption); (case d => decide); (case e => rfl); (case p => rfl))
  | ((with_reducible refine' we_call (x := "way") ?c ?x ?j ?g ?d ?e ?p ?_); (case c => assumption); (case x => assumption); (case j => first | decide | exact Nat.le_refl _ | omega); (case g => assumption); (case d => decide); (case e => rfl); (case p => rfl))
  | ((with_reducible refine' we_call (x := "_law_mix") ?c ?x ?j ?g ?d ?e ?p ?_); (case c => assumption); (case x => assumption); (case j => first | decide | exact Nat.le_refl _ | omega); (case g => assumption); (case d => decide); (case e => rfl); (case p => rfl))
  | ((with_reducible refine' we_call (x := "_law_start") ?c ?x ?j ?g ?d ?e ?p ?_); (case c => assumption); (case x => assumption); (case j => first | decide | exact Nat.le_refl _ | omega); (case g => assumption); (case d => decide); (case e => rfl); (case p => rfl))
  | ((with_reducible refine' we_call1 (x := "_law_next") ?c ?x ?j ?g ?d ?e ?p ?_); (case c => assumption); (case x => assumption); (case j => first | decide | exact Nat.le_refl _ | omega); (case g => assumption); (case d => decide); (case e => rfl); (case p => rfl))
  | ((with_reducible refine' we_call (x := "_law_is") ?c ?x ?j ?g ?d ?e ?p ?_); (case c => assumption); (case x => assumption); (case j => first | decide | exact Nat.le_refl _ | omega); (case g => assumption); (case d => decide); (case e => rfl); (case p => rfl))
  | ((with_reducible refine' we_call1 (x := "_law_forest") ?c ?x ?j ?g ?d ?e ?p ?_); (case c => assumption); (case x => assumption); (case j => first | decide | exact Nat.le_refl _ | omega); (case g => assumption); (case d => decide); (case e => rfl); (case p => rfl))
  | ((with_reducible refine' we_call (x := "_law_parent") ?c ?x ?j ?g ?d ?e ?p ?_); (case c => assumption); (case x => assumption); (case j => first | decide | exact Nat.le_refl _ | omega); (case g => assumption); (case d => decide); (case e => rfl); (case p => rfl))
  | ((with_reducible refine' we_call (x := "_law_up") ?c ?x ?j ?g ?d ?e ?p ?_); (case c => assumption); (case x => assumption); (case j => first | decide | exact Nat.le_refl _ | omega); (case g => assumption); (case d => decide); (case e => rfl); (case p => rfl))
  | ((with_reducible refine' we_call (x := "_law_due") ?c ?x ?j ?g ?d ?e ?p ?_); (case c => assumption); (case x => assumption); (case j => first | decide | exact Nat.le_refl _ | omega); (case g => assumption); (case d => decide); (case e => rfl); (case p => rfl))
  | ((with_reducible refine' we_call1 (x := "_law_asked") ?c ?x ?j ?g ?d ?e ?p ?_); (case c => assumption); (case x => assumption); (case j => first | decide | exact Nat.le_refl _ | omega); (case g => assumption); (case d => decide); (case e => rfl); (case p => rfl))
  | ((with_reducible refine' we_call (x := "law") ?c ?x ?j ?g ?d ?e ?p ?_); (case c => assumption); (case x => assumption); (case j => first | decide | exact Nat.le_refl _ | omega); (case g => assumption); (case d => decide); (case e => rfl); (case p => rfl)))
/-! the steps: one line a construct -/
local macro_rules | `(tactic| row_cond dlen) => `(tactic| (intro ds M R Q h; first | (obtain ⟨h1, _⟩ := h; subst h1; rfl) | (obtain ⟨_, h1, _⟩ := h; subst h1; rfl) | (obtain ⟨_, _, h1, _⟩ := h; subst h1; rfl) | (obtain ⟨_, _, _, h1, _⟩ := h; subst h1; rfl) | (obtain ⟨_, _, _, _, h1, _⟩ := h; subst h1; rfl) | (obtain ⟨_, _, _, _, _, h1, _⟩ := h; subst h1; rfl) | (obtain ⟨_, _, _, _, _, _, h1, _⟩ := h; subst h1; rfl) | (obtain ⟨_, _, _, _, _, _, _, h1, _⟩ := h; subst h1; rfl) | (obtain ⟨_, _, _, _, _, _, _, _, h1, _⟩ := h; subst h1; rfl) | (obtain ⟨_, _, _, _, _, _, _, _, _, h1, _⟩ := h; subst h1; rfl) | (obtain ⟨_, _, _, _, _, _, _, _, _, _, h1, _⟩ := h; subst h1; rfl) | (obtain ⟨_, _, _, _, _, _, _, _, _, _, _, h1, _⟩ := h; subst h1; rfl) | (obtain ⟨_, _, _, _, _, _, _, _, _, _, _, _, h1, _⟩ := h; subst h1; rfl)))
local macro_rules | `(tactic| row_cond dsz) => `(tactic| first | exact Nat.le_of_ble_eq_true rfl | assumption | (simp only [List.length_map, List.length_cons, List.length_append, List.length_nil, List.length_reverse, List.length_take, List.length_drop, PySem.sizeLine]; omega))
/- expressions -/
local macro_rules | `(tactic| row_cond dE) => `(tactic| first
  | ((with_reducible refine' we_name ?n ?e ?_); (case n => assumption); (case e => rfl))
  | (with_reducible refine we_int ?_)
  | (with_reducible refine we_bl ?_)
  | (with_reducible refine we_str ?_)
  | (with_reducible refine we_non ?_)
  | (with_reducible refine we_bin ?_)
  | ((with_reducible refine' we_cmp ?n ?_); (case n => rfl))
  | (with_reducible refine we_slice ?_)
  | (with_reducible refine we_rev ?_)
  | ((with_reducible refine' we_ix ?n ?_); (case n => exact fun _ _ => rfl))
  | (with_reducible refine we_tupV ?_)
  | (with_reducible refine we_lstV ?_)
  | ((with_reducible refine' we_blt ?b ?n ?m ?_); (case b => assumption); (case n => rfl); (case m => rfl))
  | ((with_reducible refine' we_typ ?b ?n ?m ?_); (case b => assumption); (case n => rfl); (case m => rfl))
  | ((with_reducible refine' we_tyName ?b ?_); (case b => assumption))
  | (with_reducible refine we_one ?_)
  | (with_reducible refine we_and ?_)
  | (with_reducible refine we_or ?_)
  | (with_reducible refine we_not ?_)
  | (with_reducible refine we_ifexp ?_)
  | ((with_reducible refine' we_un ?n ?_); (case n => exact fun z => nomatch z))
  | row_cond dcall
  | ((with_reducible refine we_bm (T := "list") PySem.F.plainAttrs_list PySem.F.slot_list_append PySem.F.type_list_append ?a ?b ?c ?d ?e ?_); (case a => rfl); (case b => rfl); (case c => rfl); (case d => rfl); (case e => rfl))
  | ((with_reducible refine we_bm0 (T := "list") PySem.F.plainAttrs_list PySem.F.slot_list_pop PySem.F.type_list_pop ?a ?b ?_); (case a => rfl); (case b => rfl))
  | ((with_reducible refine we_bm (T := "list") PySem.F.plainAttrs_list PySem.F.slot_list_extend PySem.F.type_list_extend ?a ?b ?c ?d ?e ?_); (case a => rfl); (case b => rfl); (case c => rfl); (case d => rfl); (case e => rfl)))
/- tests -/
local macro_rules | `(tactic| row_cond dT) => `(tactic| first
  | ((with_reducible refine' wt_cmp ?n ?_); (case n => rfl))
  | (with_reducible refine wt_not ?_)
  | (with_reducible refine wt_bool ?_)
  | (with_reducible refine ww_and1 ?_)
  | (with_reducible refine ww_or1 ?_)
  | (with_reducible refine ww_and ?_)
  | (with_reducible refine ww_or ?_)
  | ((with_reducible refine' wt_val ?n ?_); (case n => exact fun _ => rfl)))
/- statements -/
local macro_rules | `(tactic| row_cond dS) => `(tactic| first
  | (with_reducible refine wss_cons ?_)
  | (with_reducible refine wss_nil ?_)
  | ((with_reducible refine' ws_set ?a ?n ?h ?_); (case a => assumption); (case n => assumption); (case h => rfl))
  | ((with_reducible refine' ws_sub ?h ?_); (case h => rfl))
  | ((with_reducible refine' ws_asg ?a ?n ?h ?_); (case a => rfl); (case n => rfl); (case h => rfl))
  | (with_reducible refine ws_if ?_)
  | (with_reducible refine ws_ret ?_)
  | ((with_reducible refine' ws_expr ?h ?_); (case h => rfl))
  | (with_reducible refine ws_pass ?_)
  | (with_reducible refine ws_break ?_)
  | (with_reducible refine ws_continue ?_)
  | (with_reducible refine ws_retN ?_))
/- arguments, targets, values -/
local macro_rules | `(tactic| row_cond dV) => `(tactic| first
  | (with_reducible refine wa_nil ?_)
  | ((with_reducible refine' wa_cons ?n ?_); (case n => rfl))
  | (with_reducible refine wav_nil ?_)
  | ((with_reducible refine' wav_cons ?n ?_); (case n => rfl))
  | (with_reducible refine put_go ?_)
  | (with_reducible refine fz_lst ?_)
  | (with_reducible refine fz_tup ?_)
  | (with_reducible refine fz_id ?_)
  | (with_reducible refine own0_go ?_)
  | (with_reducible refine own1_go ?_)
  | (with_reducible refine app_go ?_)
  | (with_reducible refine mset_go ?_)
  | ((with_reducible refine' wg_name ?a ?n ?_); (case a => assumption); (case n => assumption))
  | ((with_reducible refine' wg_tup ?a ?n ?h ?_); (case a => assumption); (case n => rfl); (case h => rfl))
  | (with_reducible refine wgs_nil ?_)
  | ((with_reducible refine' wgs_cons ?n ?_); (case n => rfl))
  | (with_reducible refine wpt_none ?_)
  | (with_reducible refine wpt_some ?_)
  | ((with_reducible refine' wset_list ?n ?_); (case n => first | rfl | row_cond dix)))
/- what is walked -/
local macro_rules | `(tactic| row_cond dI) => `(tactic| first
  | ((with_reducible refine' wi_range1 ?a ?b ?c ?_); (case a => exact BltAt.gl (by assumption)); (case b => exact BltAt.mg (by assumption)); (case c => rfl))
  | ((with_reducible refine' wi_range2 ?a ?b ?c ?d ?_); (case a => exact BltAt.gl (by assumption)); (case b => exact BltAt.mg (by assumption)); (case c => rfl); (case d => rfl))
  | (with_reducible refine wi_val ?_)
  | (with_reducible refine wiv_list ?_)
  | (with_reducible refine wiv_tup ?_)
  | ((with_reducible refine' wgc_name ?a ?n ?h ?_); (case a => assumption); (case n => assumption); (case h => decide))
  | ((with_reducible refine' wgc_tup ?a ?n ?h ?_); (case a => assumption); (case n => rfl); (case h => rfl))
  | (with_reducible refine wgcs_nil ?_)
  | ((with_reducible refine' wgcs_cons ?n ?_); (case n => rfl))
  | (with_reducible refine wts_nil ?_)
  | (with_reducible refine wts_one ?_))
/- operations by values -/
local macro_rules | `(tactic| row_cond dO) => `(tactic| first
  | (with_reducible refine wo_add ?_)
  | (with_reducible refine wo_sub ?_)
  | ((with_reducible refine' wo_mulS ?n ?_); (case n => first | exact .inr ⟨by decide, by decide⟩ | exact .inl ⟨by decide, by decide⟩ | exact .inr ⟨by omega, by omega⟩ | exact .inl ⟨by omega, by omega⟩))
  | ((with_reducible refine' wo_fdiv ?n ?m ?_); (case n => first | decide | omega); (case m => first | decide | row_cond dlog))
  | ((with_reducible refine' wo_mod ?n ?_); (case n => first | decide | omega))
  | (with_reducible refine wo_powL ?_)
  | ((with_reducible refine' wo_pow ?n ?_); (case n => exact ⟨by decide, by decide, by decide⟩))
  | (with_reducible refine wo_xor ?_)
  | (with_reducible refine wo_lt ?_)
  | (with_reducible refine wo_le ?_)
  | (with_reducible refine wo_gt ?_)
  | (with_reducible refine wo_ge ?_)
  | (with_reducible refine wo_eqI ?_)
  | (with_reducible refine wo_neI ?_)
  | (with_reducible refine wo_eqS ?_)
  | (with_reducible refine wo_neS ?_)
  | (with_reducible refine wo_isN ?_)
  | (with_reducible refine wo_isnotN ?_)
  | (with_reducible refine wu_neg ?_)
  | (with_reducible refine wc_int ?_)
  | (with_reducible refine wc_intB ?_)
  | (with_reducible refine wc_abs ?_)
  | ((with_reducible refine' wc_max2 ?a ?_); (case a => assumption))
  | ((with_reducible refine' wc_min2 ?a ?_); (case a => assumption))
  | (with_reducible refine wc_list ?_)
  | (with_reducible refine wc_tuple ?_)
  | (with_reducible refine wc_lenM ?_)
  | (with_reducible refine wc_len ?_)
  | (with_reducible refine wc_isK ?_)
  | ((with_reducible refine' wc_allM ?a ?_); (case a => assumption))
  | ((with_reducible refine' wc_anyM ?a ?_); (case a => assumption))
  | ((with_reducible refine' wc_sum ?a ?_); (case a => assumption))
  | ((with_reducible refine' wx_list ?n ?_); (case n => row_cond dat))
  | ((with_reducible refine' wx_map ?a ?b ?_); (case a => omega); (case b => omega))
  | ((with_reducible refine' wx_seq ?a ?b ?_); (case a => omega); (case b => omega))
  | ((with_reducible refine' wx_tup ?n ?_); (case n => row_cond dat))
  | (with_reducible refine wsl_listM ?_)
  | (with_reducible refine wsl_list ?_)
  | (with_reducible refine wrev_goM ?_)
  | (with_reducible refine wrev_go ?_)
  | ((with_reducible refine' wo_catM ?n ?_); (case n => row_cond dsz))
  | ((with_reducible refine' wo_cat ?n ?_); (case n => row_cond dsz))
  | ((with_reducible refine' wm_append ?n ?_); (case n => row_cond dsz)))
local macro_rules | `(tactic| row_cond dat) => `(tactic| rfl)
local macro_rules | `(tactic| row_cond dix) => `(tactic| rfl)
local macro_rules | `(tactic| row_cond dlog) => `(tactic| first | decide | exact log_small (by omega) (by omega))
/- what stands between -/
local macro_rules | `(tactic| row_cond dQ) => `(tactic| first
  | (with_reducible refine ⟨_, rfl, ?_⟩)
  | (with_reducible refine br_true ?_)
  | (with_reducible refine br_false ?_)
  | (with_reducible refine rb_true ?_)
  | (with_reducible refine rb_false ?_)
  | ((with_reducible refine' br_dec ?_ ?_) <;> intro _)
  | ((with_reducible refine' br_ndec ?_ ?_) <;> intro _)
  | ((with_reducible refine' rb_dec ?_ ?_) <;> intro _)
  | ((with_reducible refine' rb_ndec ?_ ?_) <;> intro _)
  | (refine br_is rfl ?_)
  | (refine br_isnot rfl ?_)
  | (refine rb_is rfl ?_)
  | (refine rb_isnot rfl ?_)
  | ((with_reducible refine' ⟨⟨?a, ?b⟩, ?_⟩); (case a => omega); (case b => omega))
  | ((with_reducible refine' ⟨⟨?a, ?b, ?c, ?d⟩, ?_⟩); (case a => omega); (case b => omega); (case c => omega); (case d => omega))
  | (with_reducible refine app_go ?_)
  | (with_reducible refine ⟨tym_list, ?_⟩)
  | (with_reducible refine ⟨tym_str, ?_⟩)
  | ((with_reducible refine ⟨?n, ?_⟩); (case n => (show _ ≤ PySem.sizeLine); row_cond dsz))
  | (with_reducible intro _))
local macro_rules | `(tactic| row_cond dstart) => `(tactic| simp only [startD, List.map_cons, List.map_nil, List.length_cons, List.length_nil, List.cons_append, List.nil_append, Nat.zero_add, Nat.reduceAdd, Nat.reduceSub, List.replicate_succ, List.replicate_zero])
local macro_rules | `(tactic| row_cond d) => `(tactic| first | row_cond dE | row_cond dV | row_cond dO | row_cond dT | row_cond dS | row_cond dI | row_cond dmore | row_cond dspec | row_cond dQ)
local macro_rules | `(tactic| row_cond go) => `(tactic| repeat' (row_cond d))

/-! ### the program's defs -/
abbrev encP (p : Pl) : D := .tup [.int p.1, .int p.2]
@[reducible] def encO : Option Pl → D
  | none => .non
  | some p => encP p
def sp_parent_place : SpD := fun ds M R Q => ∃ (dl : D) (L : List (Option Pl)) (p : Pl), ds = [dl, encP p] ∧ M = [] ∧ SeeL [] R dl (L.map encO) ∧ (0 ≤ p.1 ∧ p.1 < L.length) ∧ Q (encO (par L p)) []
theorem sp_parent_place_go {dl : D} {L : List (Option Pl)} {p : Pl} {R : Mem} {Q : D → Mem → Prop} [s : SeeL [] R dl (L.map encO)] (h0 : 0 ≤ p.1) (h1 : p.1 < L.length) (h : Q (encO (par L p)) []) : sp_parent_place [dl, encP p] [] R Q := ⟨dl, L, p, rfl, rfl, s, ⟨h0, h1⟩, h⟩
theorem cal_parent_place {P : Program} {w : World} {K : PySem.W.Frag} {mg : Str → Option Value} {base : Heap} (T : Tx mg) (Da : DefAt K mg "parent_place" s_parent_place)  : Cal P w K mg base (1) "parent_place" sp_parent_place := by
  refine calD (k := 0) Da sc_parent_place (fun f fd Fu => Fu.binds fun _ _ _ _ _ _ us hl => match us, hl with | [_, _], _ => rfl) (by row_cond dlen) (fun X F hX nm ds M R Q hS => ?_)
  have hst := hX.std
  have n_lines : NameAt X 0 "lines" := nm.name rfl (.inl rfl) (by decide) (by decide)
  have s_lines : StoreAt X 0 "lines" := nm.store rfl (.inl rfl)
  have n_place : NameAt X 1 "place" := nm.name rfl (.inl rfl) (by decide) (by decide)
  have s_place : StoreAt X 1 "place" := nm.store rfl (.inl rfl)
  have n_line : NameAt X 2 "line" := nm.name rfl (.inl rfl) (by decide) (by decide)
  have s_line : StoreAt X 2 "line" := nm.store rfl (.inl rfl)
  have n_mark : NameAt X 3 "mark" := nm.name rfl (.inl rfl) (by decide) (by decide)
  have s_mark : StoreAt X 3 "mark" := nm.store rfl (.inl rfl)
  obtain ⟨dl, L, ⟨l, m⟩, rfl, rfl, hl, ⟨h0, h1⟩, hq⟩ := hS
  row_cond dstart
  refine wss_cons ?_
  row_cond go
  · refine rt0 ?_
    have e : par L (l, m) = some (l, m - 1) := if_pos (by assumption)
    rw [e] at hq; exact hq
  · rename_i hm y hy
    refine rt0 ?_
    have e : par L (l, m) = y := (if_neg hm).trans (by rw [hy]; rfl)
    rw [e] at hq; exact hq
theorem on_len {L : List (Option Pl)} (h : Ok L) (hL : L.length ≤ 200) {p : Pl} (hp : On L p) : (up L p).length ≤ 201201 := by
  have h1 := up_len h p hp
  have := hp.l0; have := hp.l1; have := hp.m0; have := hp.m1
  unfold mu at h1
  omega
def sp_way_up : SpD := fun ds M R Q => ∃ (dl : D) (L : List (Option Pl)) (p : Pl), ds = [dl, encP p] ∧ M = [] ∧ SeeL [] R dl (L.map encO) ∧ Ok L ∧ L.length ≤ 200 ∧ On L p ∧ ∀ a, Q (.ref a) [(a, .lst ((up L p).map encP))]
theorem sp_way_up_go {dl : D} {L : List (Option Pl)} {p : Pl} {R : Mem} {Q : D → Mem → Prop} [s : SeeL [] R dl (L.map encO)] (h0 : Ok L) (h1 : L.length ≤ 200) (h2 : On L p) (h : ∀ a, Q (.ref a) [(a, .lst ((up L p).map encP))]) : sp_way_up [dl, encP p] [] R Q := ⟨dl, L, p, rfl, rfl, s, h0, h1, h2, h⟩
local macro_rules | `(tactic| row_cond dspec) => `(tactic| first
  | ((with_reducible refine' sp_parent_place_go ?a ?b ?_); (case a => first | omega | exact On.l0 (by assumption)); (case b => first | omega | exact On.l1 (by assumption)))
  | ((with_reducible refine' sp_way_up_go ?a ?b ?c ?_); (case a => assumption); (case b => assumption); (case c => assumption)))
theorem cal_way_up {P : Program} {w : World} {K : PySem.W.Frag} {mg : Str → Option Value} {base : Heap} (T : Tx mg) (Da : DefAt K mg "way_up" s_way_up) (c_parent_place : Cal P w K mg base 1 "parent_place" sp_parent_place) : Cal P w K mg base (2) "way_up" sp_way_up := by
  refine calD (k := 1) Da sc_way_up (fun f fd Fu => Fu.binds fun _ _ _ _ _ _ us hl => match us, hl with | [_, _], _ => rfl) (by row_cond dlen) (fun X F hX nm ds M R Q hS => ?_)
  have hst := hX.std
  have n_lines : NameAt X 0 "lines" := nm.name rfl (.inl rfl) (by decide) (by decide)
  have s_lines : StoreAt X 0 "lines" := nm.store rfl (.inl rfl)
  have n_place : NameAt X 1 "place" := nm.name rfl (.inl rfl) (by decide) (by decide)
  have s_place : StoreAt X 1 "place" := nm.store rfl (.inl rfl)
  have n_found : NameAt X 2 "found" := nm.name rfl (.inl rfl) (by decide) (by decide)
  have s_found : StoreAt X 2 "found" := nm.store rfl (.inl rfl)
  have g_parent_place : Gl X "parent_place" := nm.gl rfl
  obtain ⟨dl, L, p, rfl, rfl, hl, hok, hL, hp, hq⟩ := hS
  have hlen := on_len hok hL hp
  row_cond dstart
  refine wss_cons ?_
  row_cond go
  rename_i pf
  refine ws_while hst (fun n Γ => ∃ (acc : List Pl) (o : Option Pl), Γ = ⟨[some dl, some (encO o), some (.ref pf)], [(pf, .lst (acc.map encP))], R⟩ ∧ (∀ q, o = some q → On L q) ∧ acc ++ o.elim [] (up L) = up L p ∧ n = o.elim 0 (fun q => mu q + 1)) ⟨_, [], some p, rfl, (fun q e => by cases e; exact hp), rfl, rfl⟩ (fun n Γ hW => ?_)
  obtain ⟨acc, o, rfl, hon, hacc, rfl⟩ := hW
  have hal : acc.length ≤ 201201 := by
    have := congrArg List.length hacc
    rw [List.length_append] at this
    omega
  cases o with
  | none =>
    row_cond go
    have e : acc = up L p := by simpa using hacc
    subst e
    exact rt1 (k := 0) (hq pf)
  | some q =>
    have hq2 := hon q rfl
    show WT X F _ ⟨[some dl, some (encP q), some (.ref pf)], [(pf, .lst (acc.map encP))], R⟩ _
    row_cond go
    refine ⟨_, ?_, acc ++ [q], par L q, by rw [List.map_append]; rfl, fun r e => (par_on hok hq2 e).1, ?_, rfl⟩
    · cases e : par L q with
      | none => exact Nat.succ_pos _
      | some r => exact Nat.succ_lt_succ (par_on hok hq2 e).2
    · rw [← hacc, List.append_assoc]
      cases e : par L q with
      | none => show acc ++ ([q] ++ []) = acc ++ up L q; rw [up_none e]; rfl
      | some r => show acc ++ ([q] ++ up L r) = acc ++ up L q; rw [up_some hok hq2 e]; rfl

theorem okP (a : Pl) : okPy (encP a) := ⟨rfl, rfl⟩
theorem eqvP (a b : Pl) : PyData.eqv (encP a).py (encP b).py = decide (a = b) := by
  obtain ⟨a1, a2⟩ := a
  obtain ⟨b1, b2⟩ := b
  show PyData.eqv (.tuple [.int a1, .int a2]) (.tuple [.int b1, .int b2]) = _
  simp only [PyData.eqv, PyData.eqvAll, Bool.and_true]
  by_cases h1 : a1 = b1 <;> by_cases h2 : a2 = b2 <;> simp [h1, h2]
section
variable {X : Cx} {F : Fr} {Q : D → DL.Env → Prop} {sl : List (Option D)} {M R : Mem}
theorem wo_eqP (hX : Std X) {a b : Pl} (q : Q (.bl (decide (a = b))) ⟨sl, M, R⟩) : WO X F (compareOp .Eq) (encP a) (encP b) ⟨sl, M, R⟩ Q := wo_eqD hX (okP a) (okP b) (by rw [eqvP]; exact q)
theorem wo_neP (hX : Std X) {a b : Pl} (q : Q (.bl (!decide (a = b))) ⟨sl, M, R⟩) : WO X F (compareOp .NotEq) (encP a) (encP b) ⟨sl, M, R⟩ Q := wo_neD hX (okP a) (okP b) (by rw [eqvP]; exact q)
end
local macro_rules | `(tactic| row_cond dmore) => `(tactic| first
  | ((with_reducible refine' wo_eqP ?a ?_); (case a => assumption))
  | ((with_reducible refine' wo_neP ?a ?_); (case a => assumption)))
def RetW (o : Option (List Pl)) (Q : D → Mem → Prop) : Prop := (o = none → Q .non []) ∧ ∀ P, o = some P → ∀ p, Q (.ref p) [(p, .lst (P.map encP))]
def sp_way : SpD := fun ds M R Q => ∃ (dl : D) (L : List (Option Pl)) (a b : Pl), ds = [dl, encP a, encP b] ∧ M = [] ∧ SeeL [] R dl (L.map encO) ∧ Ok L ∧ L.length ≤ 200 ∧ On L a ∧ On L b ∧ RetW (due (up L a) (up L b)) Q
theorem last_of {α : Type} {l : List α} {x : α} (h : l.getLast? = some x) : ∃ r, l = r ++ [x] := by
  have hne : l ≠ [] := fun e => by rw [e] at h; cases h
  refine ⟨l.dropLast, ?_⟩
  have := List.dropLast_concat_getLast hne
  rw [List.getLast?_eq_some_getLast hne] at h
  cases h
  exact this.symm
theorem cal_way {P : Program} {w : World} {K : PySem.W.Frag} {mg : Str → Option Value} {base : Heap} (T : Tx mg) (Da : DefAt K mg "way" s_way) (c_way_up : Cal P w K mg base 2 "way_up" sp_way_up) : Cal P w K mg base (3) "way" sp_way := by
  refine calD (k := 2) Da sc_way (fun f fd Fu => Fu.binds fun _ _ _ _ _ _ us hl => match us, hl with | [_, _, _], _ => rfl) (by row_cond dlen) (fun X F hX nm ds M R Q hS => ?_)
  have hst := hX.std
  have n_lines : NameAt X 0 "lines" := nm.name rfl (.inl rfl) (by decide) (by decide)
  have s_lines : StoreAt X 0 "lines" := nm.store rfl (.inl rfl)
  have n_one : NameAt X 1 "one" := nm.name rfl (.inl rfl) (by decide) (by decide)
  have s_one : StoreAt X 1 "one" := nm.store rfl (.inl rfl)
  have n_other : NameAt X 2 "other" := nm.name rfl (.inl rfl) (by decide) (by decide)
  have s_other : StoreAt X 2 "other" := nm.store rfl (.inl rfl)
  have n_up : NameAt X 3 "up" := nm.name rfl (.inl rfl) (by decide) (by decide)
  have s_up : StoreAt X 3 "up" := nm.store rfl (.inl rfl)
  have n_down : NameAt X 4 "down" := nm.name rfl (.inl rfl) (by decide) (by decide)
  have s_down : StoreAt X 4 "down" := nm.store rfl (.inl rfl)
  have g_way_up : Gl X "way_up" := nm.gl rfl
  have b_len : BltAt X "len" (.builtin "len") := nm.blt hX rfl T.z_len bo_len (by decide) (by decide)
  obtain ⟨dl, L, a, b, rfl, rfl, hl, hok, hL, ha, hb, hq⟩ := hS
  have hla := on_len hok hL ha
  have hlb := on_len hok hL hb
  row_cond dstart
  refine wss_cons ?_
  row_cond go
  rename_i pu pd
  obtain ⟨ra, ea, ea'⟩ := up_last hok a ha
  obtain ⟨rb, eb, eb'⟩ := up_last hok b hb
  obtain ⟨ua, ea2⟩ := last_of ea
  obtain ⟨ub, eb2⟩ := last_of eb
  refine wx_mapN (y := ra) (by rw [ea2]; exact atI_last _ _) ?_
  row_cond go
  refine wx_mapN (y := rb) (by rw [eb2]; exact atI_last _ _) ?_
  row_cond go
  · -- no place is above both
    rename_i hne
    refine rt0 (hq.1 (due_none fun x h1 h2 => hne ?_))
    have e1 := ea' x h1
    have e2 := eb' x h2
    rw [e1] at e2; cases e2; rfl
  · rename_i hr
    subst hr
    have hc : ∃ y ∈ up L a, y ∈ up L b := ⟨ra, by rw [ea2]; simp, by rw [eb2]; simp⟩
    obtain ⟨x, s, t, wy, hx⟩ := way_ex hok ha hb hc
    have hdue := wy.due hok ha hb
    obtain ⟨r, er⟩ := up_cons (L := L) x
    refine ws_mid (fun Γ => Γ = ⟨[some dl, some (encP a), some (encP b), some (.ref pu), some (.ref pd)], [(pd, .lst ((t ++ [x]).map encP)), (pu, .lst ((s ++ [x]).map encP))], R⟩) ?_ ?_
    · refine ws_while hst (fun n Γ => ∃ c : List Pl, Γ = ⟨[some dl, some (encP a), some (encP b), some (.ref pu), some (.ref pd)], [(pd, .lst ((t ++ c).map encP)), (pu, .lst ((s ++ c).map encP))], R⟩ ∧ (∃ z, c = x :: z) ∧ n = c.length)
        ⟨_, up L x, by rw [wy.ha, wy.hb], ⟨r, er⟩, rfl⟩ (fun n Γ hW => ?_)
      obtain ⟨c, rfl, ⟨z, rfl⟩, rfl⟩ := hW
      rcases Classical.em (z = []) with rfl | hz
      · row_cond go
        · -- both have a place ahead of x: these differ
          rename_i h1 h2
          obtain ⟨s', u, es⟩ : ∃ s' u, s = s' ++ [u] := by
            rcases List.eq_nil_or_concat s with rfl | ⟨s', u, rfl⟩
            · simp at h1
            · exact ⟨s', u, by simp⟩
          obtain ⟨t', v, et⟩ : ∃ t' v, t = t' ++ [v] := by
            rcases List.eq_nil_or_concat t with rfl | ⟨t', v, rfl⟩
            · simp at h2
            · exact ⟨t', v, by simp⟩
          refine wx_mapN (y := u) (by rw [es, List.append_assoc]; exact atI_last2 _ _ _) ?_
          row_cond go
          refine wx_mapN (y := v) (by rw [et, List.append_assoc]; exact atI_last2 _ _ _) ?_
          row_cond go
          · rename_i e
            exact absurd (show u ∈ t by rw [et, e]; simp) (wy.dis u (by rw [es]; simp))
          · rfl
        · rfl
        · rfl
      · obtain ⟨e, y, rfl⟩ : ∃ e y, z = e ++ [y] := by
          rcases List.eq_nil_or_concat z with rfl | ⟨e, y, rfl⟩
          · exact absurd rfl hz
          · exact ⟨e, y, by simp⟩
        obtain ⟨e', v, ev⟩ : ∃ e' v, x :: e = e' ++ [v] := by
          rcases List.eq_nil_or_concat (x :: e) with h | ⟨e', v, h⟩
          · cases h
          · exact ⟨e', v, by simpa using h⟩
        have ev2 : x :: (e ++ [y]) = e' ++ [v, y] := by
          have := congrArg (· ++ [y]) ev
          simpa using this
        row_cond go
        · refine wx_mapN (y := v) (by rw [ev2, ← List.append_assoc]; exact atI_last2 _ _ _) ?_
          row_cond go
          refine wx_mapN (y := v) (by rw [ev2, ← List.append_assoc]; exact atI_last2 _ _ _) ?_
          row_cond go
          · refine wm_popM (zs := s ++ x :: e) (z := y) (by simp) ?_
            row_cond go
            refine wm_popM (zs := t ++ x :: e) (z := y) (by simp) ?_
            row_cond go
            exact ⟨_, by simp, x :: e, rfl, ⟨e, rfl⟩, rfl⟩
          · rename_i z
            exact absurd rfl z
        · rename_i h1 h2
          exfalso; simp at h2; omega
        · rename_i h1
          exfalso; simp at h1; omega
    · rintro Γ rfl
      have hls : s.length ≤ 201201 := by
        have h := hla
        rw [wy.ha, er] at h; simp at h; omega
      have hlt : t.length ≤ 201201 := by
        have h := hlb
        rw [wy.hb, er] at h; simp at h; omega
      row_cond go
      rw [cut_m1]
      row_cond go
      rename_i q1 q2 q3
      refine rtR ?_
      have := hq.2 _ hdue q3
      rw [show s ++ x :: t.reverse = (s ++ [x]) ++ t.reverse by simp] at this
      exact this

end K20


namespace K20
open PySem PySem.Spec PyProof.Rows L2 DL
local macro_rules | `(tactic| row_cond dcall) => `(tactic| first
  | ((with_reducible refine' we_call (x := "parent_place") ?c ?x ?j ?g ?d ?e ?p ?_); (case c => assumption); (case x => assumption); (case j => first | decide | exact Nat.le_refl _ | omega); (case g => assumption); (case d => decide); (case e => rfl); (case p => rfl))
  | ((with_reducible refine' we_call (x := "way_up") ?c ?x ?j ?g ?d ?e ?p ?_); (case c => assumption); (case x => assumption); (case j => first | decide | exact Nat.le_refl _ | omega); (case g => assumption); (case d => decide); (case e => rfl); (case p => rfl))
  | ((with_reducible refine' we_call (x := "way") ?c ?x ?j ?g ?d ?e ?p ?_); (case c => assumption); (case x => assumption); (case j => first | decide | exact Nat.le_refl _ | omega); (case g => assumption); (case d => decide); (case e => rfl); (case p => rfl))
  | ((with_reducible refine' we_call (x := "_law_mix") ?c ?x ?j ?g ?d ?e ?p ?_); (case c => assumption); (case x => assumption); (case j => first | decide | exact Nat.le_refl _ | omega); (case g => assumption); (case d => decide); (case e => rfl); (case p => rfl))
  | ((with_reducible refine' we_call (x := "_law_start") ?c ?x ?j ?g ?d ?e ?p ?_); (case c => assumption); (case x => assumption); (case j => first | decide | exact Nat.le_refl _ | omega); (case g => assumption); (case d => decide); (case e => rfl); (case p => rfl))
  | ((with_reducible refine' we_call1 (x := "_law_next") ?c ?x ?j ?g ?d ?e ?p ?_); (case c => assumption); (case x => assumption); (case j => first | decide | exact Nat.le_refl _ | omega); (case g => assumption); (case d => decide); (case e => rfl); (case p => rfl))
  | ((with_reducible refine' we_call (x := "_law_is") ?c ?x ?j ?g ?d ?e ?p ?_); (case c => assumption); (case x => assumption); (case j => first | decide | exact Nat.le_refl _ | omega); (case g => assumption); (case d => decide); (case e => rfl); (case p => rfl))
  | ((with_reducible refine' we_call1 (x := "_law_forest") ?c ?x ?j ?g ?d ?e ?p ?_); (case c => assumption); (case x => assumption); (case j => first | decide | exact Nat.le_refl _ | omega); (case g => assumption); (case d => decide); (case e => rfl); (case p => rfl))
  | ((with_reducible refine' we_call (x := "_law_parent") ?c ?x ?j ?g ?d ?e ?p ?_); (case c => assumption); (case x => assumption); (case j => first | decide | exact Nat.le_refl _ | omega); (case g => assumption); (case d => decide); (case e => rfl); (case p => rfl))
  | ((with_reducible refine' we_call (x := "_law_up") ?c ?x ?j ?g ?d ?e ?p ?_); (case c => assumption); (case x => assumption); (case j => first | decide | exact Nat.le_refl _ | omega); (case g => assumption); (case d => decide); (case e => rfl); (case p => rfl))
  | ((with_reducible refine' we_call (x := "_law_due") ?c ?x ?j ?g ?d ?e ?p ?_); (case c => assumption); (case x => assumption); (case j => first | decide | exact Nat.le_refl _ | omega); (case g => assumption); (case d => decide); (case e => rfl); (case p => rfl))
  | ((with_reducible refine' we_call1 (x := "_law_asked") ?c ?x ?j ?g ?d ?e ?p ?_); (case c => assumption); (case x => assumption); (case j => first | decide | exact Nat.le_refl _ | omega); (case g => assumption); (case d => decide); (case e => rfl); (case p => rfl))
  | ((with_reducible refine' we_call (x := "law") ?c ?x ?j ?g ?d ?e ?p ?_); (case c => assumption); (case x => assumption); (case j => first | decide | exact Nat.le_refl _ | omega); (case g => assumption); (case d => decide); (case e => rfl); (case p => rfl)))
/-! the steps: one line a construct -/
local macro_rules | `(tactic| row_cond dlen) => `(tactic| (intro ds M R Q h; first | (obtain ⟨h1, _⟩ := h; subst h1; rfl) | (obtain ⟨_, h1, _⟩ := h; subst h1; rfl) | (obtain ⟨_, _, h1, _⟩ := h; subst h1; rfl) | (obtain ⟨_, _, _, h1, _⟩ := h; subst h1; rfl) | (obtain ⟨_, _, _, _, h1, _⟩ := h; subst h1; rfl) | (obtain ⟨_, _, _, _, _, h1, _⟩ := h; subst h1; rfl) | (obtain ⟨_, _, _, _, _, _, h1, _⟩ := h; subst h1; rfl) | (obtain ⟨_, _, _, _, _, _, _, h1, _⟩ := h; subst h1; rfl) | (obtain ⟨_, _, _, _, _, _, _, _, h1, _⟩ := h; subst h1; rfl) | (obtain ⟨_, _, _, _, _, _, _, _, _, h1, _⟩ := h; subst h1; rfl) | (obtain ⟨_, _, _, _, _, _, _, _, _, _, h1, _⟩ := h; subst h1; rfl) | (obtain ⟨_, _, _, _, _, _, _, _, _, _, _, h1, _⟩ := h; subst h1; rfl) | (obtain ⟨_, _, _, _, _, _, _, _, _, _, _, _, h1, _⟩ := h; subst h1; rfl)))
local macro_rules | `(tactic| row_cond dsz) => `(tactic| first | exact Nat.le_of_ble_eq_true rfl | assumption | (simp only [List.length_map, List.length_cons, List.length_append, List.length_nil, List.length_reverse, List.length_take, List.length_drop, PySem.sizeLine]; omega))
/- expressions -/
local macro_rules | `(tactic| row_cond dE) => `(tactic| first
  | ((with_reducible refine' we_name ?n ?e ?_); (case n => assumption); (case e => rfl))
  | (with_reducible refine we_int ?_)
  | (with_reducible refine we_bl ?_)
  | (with_reducible refine we_str ?_)
  | (with_reducible refine we_non ?_)
  | (with_reducible refine we_bin ?_)
  | ((with_reducible refine' we_cmp ?n ?_); (case n => rfl))
  | (with_reducible refine we_slice ?_)
  | (with_reducible refine we_rev ?_)
  | ((with_reducible refine' we_ix ?n ?_); (case n => exact fun _ _ => rfl))
  | (with_reducible refine we_tupV ?_)
  | (with_reducible refine we_lstV ?_)
  | ((with_reducible refine' we_blt ?b ?n ?m ?_); (case b => assumption); (case n => rfl); (case m => rfl))
  | ((with_reducible refine' we_typ ?b ?n ?m ?_); (case b => assumption); (case n => rfl); (case m => rfl))
  | ((with_reducible refine' we_tyName ?b ?_); (case b => assumption))
  | (with_reducible refine we_one ?_)
  | (with_reducible refine we_and ?_)
  | (with_reducible refine we_or ?_)
  | (with_reducible refine we_not ?_)
  | (with_reducible refine we_ifexp ?_)
  | ((with_reducible refine' we_un ?n ?_); (case n => exact fun z => nomatch z))
  | row_cond dcall
  | ((with_reducible refine we_bm (T := "list") PySem.F.plainAttrs_list PySem.F.slot_list_append PySem.F.type_list_append ?a ?b ?c ?d ?e ?_); (case a => rfl); (case b => rfl); (case c => rfl); (case d => rfl); (case e => rfl))
  | ((with_reducible refine we_bm0 (T := "list") PySem.F.plainAttrs_list PySem.F.slot_list_pop PySem.F.type_list_pop ?a ?b ?_); (case a => rfl); (case b => rfl))
  | ((with_reducible refine we_bm (T := "list") PySem.F.plainAttrs_list PySem.F.slot_list_extend PySem.F.type_list_extend ?a ?b ?c ?d ?e ?_); (case a => rfl); (case b => rfl); (case c => rfl); (case d => rfl); (case e => rfl)))
/- tests -/
local macro_rules | `(tactic| row_cond dT) => `(tactic| first
  | ((with_reducible refine' wt_cmp ?n ?_); (case n => rfl))
  | (with_reducible refine wt_not ?_)
  | (with_reducible refine wt_bool ?_)
  | (with_reducible refine ww_and1 ?_)
  | (with_reducible refine ww_or1 ?_)
  | (with_reducible refine ww_and ?_)
  | (with_reducible refine ww_or ?_)
  | ((with_reducible refine' wt_val ?n ?_); (case n => exact fun _ => rfl)))
/- statements -/
local macro_rules | `(tactic| row_cond dS) => `(tactic| first
  | (with_reducible refine wss_cons ?_)
  | (with_reducible refine wss_nil ?_)
  | ((with_reducible refine' ws_set ?a ?n ?h ?_); (case a => assumption); (case n => assumption); (case h => rfl))
  | ((with_reducible refine' ws_sub ?h ?_); (case h => rfl))
  | ((with_reducible refine' ws_asg ?a ?n ?h ?_); (case a => rfl); (case n => rfl); (case h => rfl))
  | (with_reducible refine ws_if ?_)
  | (with_reducible refine ws_ret ?_)
  | ((with_reducible refine' ws_expr ?h ?_); (case h => rfl))
  | (with_reducible refine ws_pass ?_)
  | (with_reducible refine ws_break ?_)
  | (with_reducible refine ws_continue ?_)
  | (with_reducible refine ws_retN ?_))
/- arguments, targets, values -/
local macro_rules | `(tactic| row_cond dV) => `(tactic| first
  | (with_reducible refine wa_nil ?_)
  | ((with_reducible refine' wa_cons ?n ?_); (case n => rfl))
  | (with_reducible refine wav_nil ?_)
  | ((with_reducible refine' wav_cons ?n ?_); (case n => rfl))
  | (with_reducible refine put_go ?_)
  | (with_reducible refine fz_lst ?_)
  | (with_reducible refine fz_tup ?_)
  | (with_reducible refine fz_id ?_)
  | (with_reducible refine own0_go ?_)
  | (with_reducible refine own1_go ?_)
  | (with_reducible refine app_go ?_)
  | (with_reducible refine mset_go ?_)
  | ((with_reducible refine' wg_name ?a ?n ?_); (case a => assumption); (case n => assumption))
  | ((with_reducible refine' wg_tup ?a ?n ?h ?_); (case a => assumption); (case n => rfl); (case h => rfl))
  | (with_reducible refine wgs_nil ?_)
  | ((with_reducible refine' wgs_cons ?n ?_); (case n => rfl))
  | (with_reducible refine wpt_none ?_)
  | (with_reducible refine wpt_some ?_)
  | ((with_reducible refine' wset_list ?n ?_); (case n => first | rfl | row_cond dix)))
/- what is walked -/
local macro_rules | `(tactic| row_cond dI) => `(tactic| first
  | ((with_reducible refine' wi_range1 ?a ?b ?c ?_); (case a => exact BltAt.gl (by assumption)); (case b => exact BltAt.mg (by assumption)); (case c => rfl))
  | ((with_reducible refine' wi_range2 ?a ?b ?c ?d ?_); (case a => exact BltAt.gl (by assumption)); (case b => exact BltAt.mg (by assumption)); (case c => rfl); (case d => rfl))
  | (with_reducible refine wi_val ?_)
  | (with_reducible refine wiv_list ?_)
  | (with_reducible refine wiv_tup ?_)
  | ((with_reducible refine' wgc_name ?a ?n ?h ?_); (case a => assumption); (case n => assumption); (case h => decide))
  | ((with_reducible refine' wgc_tup ?a ?n ?h ?_); (case a => assumption); (case n => rfl); (case h => rfl))
  | (with_reducible refine wgcs_nil ?_)
  | ((with_reducible refine' wgcs_cons ?n ?_); (case n => rfl))
  | (with_reducible refine wts_nil ?_)
  | (with_reducible refine wts_one ?_))
/- operations by values -/
local macro_rules | `(tactic| row_cond dO) => `(tactic| first
  | (with_reducible refine wo_add ?_)
  | (with_reducible refine wo_sub ?_)
  | ((with_reducible refine' wo_mulS ?n ?_); (case n => first | exact .inr ⟨by decide, by decide⟩ | exact .inl ⟨by decide, by decide⟩ | exact .inr ⟨by omega, by omega⟩ | exact .inl ⟨by omega, by omega⟩))
  | ((with_reducible refine' wo_fdiv ?n ?m ?_); (case n => first | decide | omega); (case m => first | decide | row_cond dlog))
  | ((with_reducible refine' wo_mod ?n ?_); (case n => first | decide | omega))
  | (with_reducible refine wo_powL ?_)
  | ((with_reducible refine' wo_pow ?n ?_); (case n => exact ⟨by decide, by decide, by decide⟩))
  | (with_reducible refine wo_xor ?_)
  | (with_reducible refine wo_lt ?_)
  | (with_reducible refine wo_le ?_)
  | (with_reducible refine wo_gt ?_)
  | (with_reducible refine wo_ge ?_)
  | (with_reducible refine wo_eqI ?_)
  | (with_reducible refine wo_neI ?_)
  | (with_reducible refine wo_eqS ?_)
  | (with_reducible refine wo_neS ?_)
  | (with_reducible refine wo_isN ?_)
  | (with_reducible refine wo_isnotN ?_)
  | (with_reducible refine wu_neg ?_)
  | (with_reducible refine wc_int ?_)
  | (with_reducible refine wc_intB ?_)
  | (with_reducible refine wc_abs ?_)
  | ((with_reducible refine' wc_max2 ?a ?_); (case a => assumption))
  | ((with_reducible refine' wc_min2 ?a ?_); (case a => assumption))
  | (with_reducible refine wc_list ?_)
  | (with_reducible refine wc_tuple ?_)
  | (with_reducible refine wc_lenM ?_)
  | (with_reducible refine wc_len ?_)
  | (with_reducible refine wc_isK ?_)
  | ((with_reducible refine' wc_allM ?a ?_); (case a => assumption))
  | ((with_reducible refine' wc_anyM ?a ?_); (case a => assumption))
  | ((with_reducible refine' wc_sum ?a ?_); (case a => assumption))
  | ((with_reducible refine' wx_list ?n ?_); (case n => row_cond dat))
  | ((with_reducible refine' wx_map ?a ?b ?_); (case a => omega); (case b => omega))
  | ((with_reducible refine' wx_seq ?a ?b ?_); (case a => omega); (case b => omega))
  | ((with_reducible refine' wx_tup ?n ?_); (case n => row_cond dat))
  | (with_reducible refine wsl_listM ?_)
  | (with_reducible refine wsl_list ?_)
  | (with_reducible refine wrev_goM ?_)
  | (with_reducible refine wrev_go ?_)
  | ((with_reducible refine' wo_catM ?n ?_); (case n => row_cond dsz))
  | ((with_reducible refine' wo_cat ?n ?_); (case n => row_cond dsz))
  | ((with_reducible refine' wm_append ?n ?_); (case n => row_cond dsz)))
local macro_rules | `(tactic| row_cond dat) => `(tactic| rfl)
local macro_rules | `(tactic| row_cond dix) => `(tactic| rfl)
local macro_rules | `(tactic| row_cond dlog) => `(tactic| first | decide | exact log_small (by omega) (by omega))
/- what stands between -/
local macro_rules | `(tactic| row_cond dQ) => `(tactic| first
  | (with_reducible refine ⟨_, rfl, ?_⟩)
  | (with_reducible refine br_true ?_)
  | (with_reducible refine br_false ?_)
  | (with_reducible refine rb_true ?_)
  | (with_reducible refine rb_false ?_)
  | ((with_reducible refine' br_dec ?_ ?_) <;> intro _)
  | ((with_reducible refine' br_ndec ?_ ?_) <;> intro _)
  | ((with_reducible refine' rb_dec ?_ ?_) <;> intro _)
  | ((with_reducible refine' rb_ndec ?_ ?_) <;> intro _)
  | (refine br_is rfl ?_)
  | (refine br_isnot rfl ?_)
  | (refine rb_is rfl ?_)
  | (refine rb_isnot rfl ?_)
  | ((with_reducible refine' ⟨⟨?a, ?b⟩, ?_⟩); (case a => omega); (case b => omega))
  | ((with_reducible refine' ⟨⟨?a, ?b, ?c, ?d⟩, ?_⟩); (case a => omega); (case b => omega); (case c => omega); (case d => omega))
  | (with_reducible refine app_go ?_)
  | (with_reducible refine ⟨tym_list, ?_⟩)
  | (with_reducible refine ⟨tym_str, ?_⟩)
  | ((with_reducible refine ⟨?n, ?_⟩); (case n => (show _ ≤ PySem.sizeLine); row_cond dsz))
  | (with_reducible intro _))
local macro_rules | `(tactic| row_cond dstart) => `(tactic| simp only [startD, List.map_cons, List.map_nil, List.length_cons, List.length_nil, List.cons_append, List.nil_append, Nat.zero_add, Nat.reduceAdd, Nat.reduceSub, List.replicate_succ, List.replicate_zero])
local macro_rules | `(tactic| row_cond d) => `(tactic| first | row_cond dE | row_cond dV | row_cond dO | row_cond dT | row_cond dS | row_cond dI | row_cond dmore | row_cond dspec | row_cond dQ)
local macro_rules | `(tactic| row_cond go) => `(tactic| repeat' (row_cond d))

local macro_rules | `(tactic| row_cond dspec) => `(tactic| first
  | ((with_reducible refine' sp_parent_place_go ?a ?b ?_); (case a => first | omega | exact On.l0 (by assumption)); (case b => first | omega | exact On.l1 (by assumption)))
  | ((with_reducible refine' sp_way_up_go ?a ?b ?c ?_); (case a => assumption); (case b => assumption); (case c => assumption)))
local macro_rules | `(tactic| row_cond dmore) => `(tactic| first
  | ((with_reducible refine' wo_eqP ?a ?_); (case a => assumption))
  | ((with_reducible refine' wo_neP ?a ?_); (case a => assumption)))

/-! ### the law's defs -/
--theorem sp_law_is_go {n : Nat} {d1 d2 : D} {R : Mem} {Q : D → Mem → Prop} (c : D) (h1 : Sh R d1 c) (h2 : Sh R d2 c) (h : Isd n c) (q : Q (.bl true) []) : sp_law_is n [d1, d2] [] R Q := ⟨d1, d2, c, rfl, rfl, h1, h2, h, q⟩
theorem cal_law_parent {P : Program} {w : World} {K : PySem.W.Frag} {mg : Str → Option Value} {base : Heap} (T : Tx mg) (Da : DefAt K mg "_law_parent" s_law_parent)  : Cal P w K mg base (1) "_law_parent" sp_parent_place := by
  refine calD (k := 0) Da sc_law_parent (fun f fd Fu => Fu.binds fun _ _ _ _ _ _ us hl => match us, hl with | [_, _], _ => rfl) (by row_cond dlen) (fun X F hX nm ds M R Q hS => ?_)
  have hst := hX.std
  have n_lines : NameAt X 0 "lines" := nm.name rfl (.inl rfl) (by decide) (by decide)
  have s_lines : StoreAt X 0 "lines" := nm.store rfl (.inl rfl)
  have n_place : NameAt X 1 "place" := nm.name rfl (.inl rfl) (by decide) (by decide)
  have s_place : StoreAt X 1 "place" := nm.store rfl (.inl rfl)
  obtain ⟨dl, L, ⟨l, m⟩, rfl, rfl, hl, ⟨h0, h1⟩, hq⟩ := hS
  row_cond dstart
  refine wss_cons ?_
  row_cond go
  · refine rt0 ?_
    have e : par L (l, m) = some (l, m - 1) := if_pos (by assumption)
    rw [e] at hq; exact hq
  · rename_i hm y hy
    refine rt0 ?_
    have e : par L (l, m) = y := (if_neg hm).trans (by rw [hy]; rfl)
    rw [e] at hq; exact hq
theorem cal_law_up {P : Program} {w : World} {K : PySem.W.Frag} {mg : Str → Option Value} {base : Heap} (T : Tx mg) (Da : DefAt K mg "_law_up" s_law_up) (c_law_parent : Cal P w K mg base 1 "_law_parent" sp_parent_place) : Cal P w K mg base (2) "_law_up" sp_way_up := by
  refine calD (k := 1) Da sc_law_up (fun f fd Fu => Fu.binds fun _ _ _ _ _ _ us hl => match us, hl with | [_, _], _ => rfl) (by row_cond dlen) (fun X F hX nm ds M R Q hS => ?_)
  have hst := hX.std
  have n_lines : NameAt X 0 "lines" := nm.name rfl (.inl rfl) (by decide) (by decide)
  have s_lines : StoreAt X 0 "lines" := nm.store rfl (.inl rfl)
  have n_place : NameAt X 1 "place" := nm.name rfl (.inl rfl) (by decide) (by decide)
  have s_place : StoreAt X 1 "place" := nm.store rfl (.inl rfl)
  have n_found : NameAt X 2 "found" := nm.name rfl (.inl rfl) (by decide) (by decide)
  have s_found : StoreAt X 2 "found" := nm.store rfl (.inl rfl)
  have n_k : NameAt X 3 "k" := nm.name rfl (.inl rfl) (by decide) (by decide)
  have s_k : StoreAt X 3 "k" := nm.store rfl (.inl rfl)
  have n_above : NameAt X 4 "above" := nm.name rfl (.inl rfl) (by decide) (by decide)
  have s_above : StoreAt X 4 "above" := nm.store rfl (.inl rfl)
  have b_range : BltAt X "range" (.type "range") := nm.blt hX rfl T.z_range bo_range (by decide) (by decide)
  have b_len : BltAt X "len" (.builtin "len") := nm.blt hX rfl T.z_len bo_len (by decide) (by decide)
  have g_law_parent : Gl X "_law_parent" := nm.gl rfl
  have m_range : X.mg "range" = none := by rw [hX.mg]; exact T.z_range
  obtain ⟨dl, L, p, rfl, rfl, hl, hok, hL, hp, hq⟩ := hS
  have hlen := on_len hok hL hp
  have hle := up_le hok hp
  obtain ⟨rr, er⟩ := up_cons (L := L) p
  row_cond dstart
  refine wss_cons ?_
  row_cond go
  rename_i pf
  refine ws_for hst (fun _ => rfl) ?_
  row_cond go
  refine ⟨fun i Γ => ∃ sk sa, Γ = ⟨[some dl, some (encP p), some (.ref pf), sk, sa], [(pf, .lst (((up L p).take (i + 1)).map encP))], R⟩ ∧ i + 1 ≤ (up L p).length, ⟨none, none, by rw [er]; rfl, by rw [er]; simp⟩, fun _ _ _ => trivial, fun i x Γ hx hW => ?_, fun Γ hW => ?_⟩
  · obtain ⟨sk, sa, rfl, hi⟩ := hW
    obtain ⟨_, rfl⟩ := rngD_at hx
    obtain ⟨y, hy⟩ : ∃ y, (up L p)[i]? = some y := ⟨_, List.getElem?_eq_getElem (by omega)⟩
    have hoy := (up_drop hok p hp i y hy).1
    have ey : (up L p).take (i + 1) = (up L p).take i ++ [y] := by rw [List.take_add_one, hy]; rfl
    obtain ⟨hn1, hn2⟩ := up_next hok hp hy
    row_cond go
    refine wx_mapN (y := y) (by rw [ey]; exact atI_last _ _) ?_
    row_cond go
    cases e : par L y with
    | none =>
      have hl := hn1 e
      rw [List.take_of_length_le (by omega)]
      row_cond go
      exact rtR (hq pf)
    | some q =>
      have hn := hn2 q e
      have hl := (List.getElem?_eq_some_iff.mp hn).1
      row_cond go
      refine ⟨_, _, by rw [List.take_add_one (i := i + 1), hn, List.map_append]; rfl, by omega⟩
  · obtain ⟨sk, sa, rfl, hi⟩ := hW
    rw [rngD_len] at hi ⊢
    rw [List.take_of_length_le (by omega)]
    row_cond go
    exact rtR (hq pf)
def kP (p : Pl) : List Key := [.inl p.1, .inl p.2]
theorem kP_inj {p q : Pl} (h : kP p = kP q) : p = q := by
  obtain ⟨a, b⟩ := p
  obtain ⟨c, d⟩ := q
  unfold kP at h
  simp at h
  rw [h.1, h.2]
def tab (l : List Pl) : List (List Key × D) := l.zipIdx.map fun q => (kP q.1, D.int q.2)
theorem tab_len (l : List Pl) : (tab l).length = l.length := by unfold tab; simp
theorem look_tab {l : List Pl} (x : Pl) : (∀ (j : Nat), l[j]? = some x → (∀ (i : Nat), i < j → l[i]? ≠ some x) → lookD (tab l) (kP x) = some (.int j)) ∧ (x ∉ l → lookD (tab l) (kP x) = none) := by
  have key : ∀ (l : List Pl) (n : Nat), (∀ (j : Nat), l[j]? = some x → (∀ (i : Nat), i < j → l[i]? ≠ some x) → lookD ((l.zipIdx n).map fun q => (kP q.1, D.int q.2)) (kP x) = some (.int (n + j : Nat))) ∧ (x ∉ l → lookD ((l.zipIdx n).map fun q => (kP q.1, D.int q.2)) (kP x) = none) := by
    intro l
    induction l with
    | nil => exact fun n => ⟨fun j h => by simp at h, fun _ => rfl⟩
    | cons y l ih =>
      intro n
      rw [List.zipIdx_cons, List.map_cons]
      by_cases e : y = x
      · subst e
        refine ⟨fun j h h2 => ?_, fun h => absurd List.mem_cons_self h⟩
        cases j with
        | zero => simp [lookD]
        | succ j => exact absurd rfl (h2 0 (Nat.succ_pos _))
      · have ne : kP y ≠ kP x := fun z => e (kP_inj z)
        have sk : lookD ((kP y, D.int (n : Int)) :: (l.zipIdx (n + 1)).map fun q => (kP q.1, D.int q.2)) (kP x) = lookD ((l.zipIdx (n + 1)).map fun q => (kP q.1, D.int q.2)) (kP x) := by
          unfold lookD
          rw [List.find?_cons]
          simp [ne]
        rw [sk]
        obtain ⟨i1, i2⟩ := ih (n + 1)
        refine ⟨fun j h h2 => ?_, fun h => i2 fun z => h (List.mem_cons_of_mem _ z)⟩
        cases j with
        | zero => exact absurd (Option.some.inj h) e
        | succ j =>
          rw [i1 j h fun i hi z => h2 (i + 1) (by omega) z]
          show some (D.int ((n + 1 + j : Nat) : Int)) = some (D.int ((n + (j + 1) : Nat) : Int))
          rw [show n + 1 + j = n + (j + 1) by omega]
  obtain ⟨h1, h2⟩ := key l 0
  refine ⟨fun j h h3 => ?_, h2⟩
  have := h1 j h h3
  rw [Nat.zero_add] at this; exact this
theorem put_tab {l : List Pl} {x : Pl} (h : x ∉ l) : putD (tab l) (kP x) (.int (l.length : Int)) = tab (l ++ [x]) := by
  unfold putD
  have e : ((tab l).any fun kv => decide (kv.1 = kP x)) = false := by
    rw [List.any_eq_false]
    intro kv hkv
    unfold tab at hkv
    obtain ⟨⟨y, n⟩, hy, rfl⟩ := List.mem_map.mp hkv
    simp only [decide_eq_true_eq]
    intro z
    have := kP_inj z
    exact h (this ▸ (List.fst_mem_of_mem_zipIdx hy))
  rw [e]
  unfold tab
  rw [List.zipIdx_append, List.map_append]
  simp
theorem cal_law_due {P : Program} {w : World} {K : PySem.W.Frag} {mg : Str → Option Value} {base : Heap} (T : Tx mg) (Da : DefAt K mg "_law_due" s_law_due) (c_law_up : Cal P w K mg base 2 "_law_up" sp_way_up) : Cal P w K mg base (3) "_law_due" sp_way := by
  refine calD (k := 2) Da sc_law_due (fun f fd Fu => Fu.binds fun _ _ _ _ _ _ us hl => match us, hl with | [_, _, _], _ => rfl) (by row_cond dlen) (fun X F hX nm ds M R Q hS => ?_)
  have hst := hX.std
  have n_lines : NameAt X 0 "lines" := nm.name rfl (.inl rfl) (by decide) (by decide)
  have s_lines : StoreAt X 0 "lines" := nm.store rfl (.inl rfl)
  have n_one : NameAt X 1 "one" := nm.name rfl (.inl rfl) (by decide) (by decide)
  have s_one : StoreAt X 1 "one" := nm.store rfl (.inl rfl)
  have n_other : NameAt X 2 "other" := nm.name rfl (.inl rfl) (by decide) (by decide)
  have s_other : StoreAt X 2 "other" := nm.store rfl (.inl rfl)
  have n_down : NameAt X 3 "down" := nm.name rfl (.inl rfl) (by decide) (by decide)
  have s_down : StoreAt X 3 "down" := nm.store rfl (.inl rfl)
  have n_steps : NameAt X 4 "steps" := nm.name rfl (.inl rfl) (by decide) (by decide)
  have s_steps : StoreAt X 4 "steps" := nm.store rfl (.inl rfl)
  have n_k : NameAt X 5 "k" := nm.name rfl (.inl rfl) (by decide) (by decide)
  have s_k : StoreAt X 5 "k" := nm.store rfl (.inl rfl)
  have n_up : NameAt X 6 "up" := nm.name rfl (.inl rfl) (by decide) (by decide)
  have s_up : StoreAt X 6 "up" := nm.store rfl (.inl rfl)
  have g_law_up : Gl X "_law_up" := nm.gl rfl
  have b_range : BltAt X "range" (.type "range") := nm.blt hX rfl T.z_range bo_range (by decide) (by decide)
  have b_len : BltAt X "len" (.builtin "len") := nm.blt hX rfl T.z_len bo_len (by decide) (by decide)
  have m_range : X.mg "range" = none := by rw [hX.mg]; exact T.z_range
  obtain ⟨dl, L, a, b, rfl, rfl, hl, hok, hL, ha, hb, hq⟩ := hS
  have hla := on_len hok hL ha
  have hlb := on_len hok hL hb
  have nb := up_nodup hok b hb
  row_cond dstart
  refine wss_cons ?_
  row_cond go
  rename_i pd
  refine we_newT fun ps => ?_
  row_cond go
  refine ws_for hst (fun _ => rfl) ?_
  row_cond go
  refine ⟨fun i Γ => ∃ sk, Γ = ⟨[some dl, some (encP a), some (encP b), some (.ref pd), some (.ref ps), sk, none], [(ps, .dT (tab ((up L b).take i))), (pd, .lst ((up L b).map encP))], R⟩, ⟨none, rfl⟩, fun _ _ _ => trivial, fun i x Γ hx hW => ?_, fun Γ hW => ?_⟩
  · obtain ⟨sk, rfl⟩ := hW
    obtain ⟨hi, rfl⟩ := rngD_at hx
    have hi' : i < (up L b).length := by omega
    row_cond go
    rename_i y hy0
    have hy : (up L b)[i]? = some y := by simpa using hy0
    have hny : y ∉ (up L b).take i := fun z => by
      have e := nb
      rw [← List.take_append_drop i (up L b), List.nodup_append] at e
      refine e.2.2 y z y ?_ rfl
      rw [List.mem_iff_getElem?]
      exact ⟨0, by rw [List.getElem?_drop]; exact hy⟩
    have hput := put_tab hny
    rw [List.length_take, show min i (up L b).length = i by omega] at hput
    refine wset_dT hst (k := kP y) (by rw [tab_len, List.length_take]; show _ < 16777216; omega) ?_
    row_cond go
    refine ⟨some (.int (0 + (i : Int))), ?_⟩
    rw [Int.zero_add, hput, ← (by rw [List.take_add_one, hy]; rfl : (up L b).take (i + 1) = (up L b).take i ++ [y])]
  · obtain ⟨sk, rfl⟩ := hW
    rw [rngD_len, List.take_of_length_le (by omega)]
    row_cond go
    rename_i pu
    refine ws_for hst (fun _ => rfl) ?_
    row_cond go
    refine ⟨fun i Γ => ∃ sk, Γ = ⟨[some dl, some (encP a), some (encP b), some (.ref pd), some (.ref ps), sk, some (.ref pu)], [(pu, .lst ((up L a).map encP)), (ps, .dT (tab (up L b))), (pd, .lst ((up L b).map encP))], R⟩ ∧ ∀ (j : Nat) y, j < i → (up L a)[j]? = some y → y ∉ up L b, ⟨_, rfl, fun j y h => by omega⟩, fun _ _ _ => trivial, fun i x Γ hx hW => ?_, fun Γ hW => ?_⟩
    · obtain ⟨sk, rfl, hno⟩ := hW
      obtain ⟨hi, rfl⟩ := rngD_at hx
      have hi' : i < (up L a).length := by omega
      row_cond go
      rename_i x hx0
      have hx : (up L a)[i]? = some x := by simpa using hx0
      refine wo_inDT' hst (k := kP x) ?_
      by_cases hm : x ∈ up L b
      · obtain ⟨j, hj⟩ := List.getElem?_of_mem hm
        have hj' := (List.getElem?_eq_some_iff.mp hj).1
        have e := (look_tab (l := up L b) x).1 j hj fun i2 h2 e2 => by
          have := nd_ix nb e2 hj
          omega
        have hd := due_ix nb hx hj hno
        rw [e]
        row_cond go
        rename_i x2 hx2
        have : x2 = x := by rw [hx2] at hx0; cases hx0; rfl
        subst this
        refine wx_dT hst (k := kP x2) e ?_
        row_cond go
        rw [cut_to _ (by omega), cut_to _ (by omega), show ((j : Int) + 1).toNat = j + 1 by omega, show ((0 : Int) + (i : Int)).toNat = i by omega]
        row_cond go
        exact rtR (hq.2 _ hd _)
      · have e := (look_tab (l := up L b) x).2 hm
        rw [e]
        row_cond go
        rename_i j y h1 h2
        by_cases hj : j = i
        · subst hj; rw [hx] at h2; cases h2; exact hm
        · exact hno j y (by omega) h2
    · obtain ⟨sk, rfl, hno⟩ := hW
      rw [rngD_len] at hno
      have hd := due_no fun i y h1 h2 => hno i y (by omega) h2
      row_cond go
      exact rt0 (hq.1 hd)

end K20


namespace K20
open PySem PySem.Spec PyProof.Rows L2 DL
local macro_rules | `(tactic| row_cond dcall) => `(tactic| first
  | ((with_reducible refine' we_call (x := "parent_place") ?c ?x ?j ?g ?d ?e ?p ?_); (case c => assumption); (case x => assumption); (case j => first | decide | exact Nat.le_refl _ | omega); (case g => assumption); (case d => decide); (case e => rfl); (case p => rfl))
  | ((with_reducible refine' we_call (x := "way_up") ?c ?x ?j ?g ?d ?e ?p ?_); (case c => assumption); (case x => assumption); (case j => first | decide | exact Nat.le_refl _ | omega); (case g => assumption); (case d => decide); (case e => rfl); (case p => rfl))
  | ((with_reducible refine' we_call (x := "way") ?c ?x ?j ?g ?d ?e ?p ?_); (case c => assumption); (case x => assumption); (case j => first | decide | exact Nat.le_refl _ | omega); (case g => assumption); (case d => decide); (case e => rfl); (case p => rfl))
  | ((with_reducible refine' we_call (x := "_law_mix") ?c ?x ?j ?g ?d ?e ?p ?_); (case c => assumption); (case x => assumption); (case j => first | decide | exact Nat.le_refl _ | omega); (case g => assumption); (case d => decide); (case e => rfl); (case p => rfl))
  | ((with_reducible refine' we_call (x := "_law_start") ?c ?x ?j ?g ?d ?e ?p ?_); (case c => assumption); (case x => assumption); (case j => first | decide | exact Nat.le_refl _ | omega); (case g => assumption); (case d => decide); (case e => rfl); (case p => rfl))
  | ((with_reducible refine' we_call1 (x := "_law_next") ?c ?x ?j ?g ?d ?e ?p ?_); (case c => assumption); (case x => assumption); (case j => first | decide | exact Nat.le_refl _ | omega); (case g => assumption); (case d => decide); (case e => rfl); (case p => rfl))
  | ((with_reducible refine' we_call (x := "_law_is") ?c ?x ?j ?g ?d ?e ?p ?_); (case c => assumption); (case x => assumption); (case j => first | decide | exact Nat.le_refl _ | omega); (case g => assumption); (case d => decide); (case e => rfl); (case p => rfl))
  | ((with_reducible refine' we_call1 (x := "_law_forest") ?c ?x ?j ?g ?d ?e ?p ?_); (case c => assumption); (case x => assumption); (case j => first | decide | exact Nat.le_refl _ | omega); (case g => assumption); (case d => decide); (case e => rfl); (case p => rfl))
  | ((with_reducible refine' we_call (x := "_law_parent") ?c ?x ?j ?g ?d ?e ?p ?_); (case c => assumption); (case x => assumption); (case j => first | decide | exact Nat.le_refl _ | omega); (case g => assumption); (case d => decide); (case e => rfl); (case p => rfl))
  | ((with_reducible refine' we_call (x := "_law_up") ?c ?x ?j ?g ?d ?e ?p ?_); (case c => assumption); (case x => assumption); (case j => first | decide | exact Nat.le_refl _ | omega); (case g => assumption); (case d => decide); (case e => rfl); (case p => rfl))
  | ((with_reducible refine' we_call (x := "_law_due") ?c ?x ?j ?g ?d ?e ?p ?_); (case c => assumption); (case x => assumption); (case j => first | decide | exact Nat.le_refl _ | omega); (case g => assumption); (case d => decide); (case e => rfl); (case p => rfl))
  | ((with_reducible refine' we_call1 (x := "_law_asked") ?c ?x ?j ?g ?d ?e ?p ?_); (case c => assumption); (case x => assumption); (case j => first | decide | exact Nat.le_refl _ | omega); (case g => assumption); (case d => decide); (case e => rfl); (case p => rfl))
  | ((with_reducible refine' we_call (x := "law") ?c ?x ?j ?g ?d ?e ?p ?_); (case c => assumption); (case x => assumption); (case j => first | decide | exact Nat.le_refl _ | omega); (case g => assumption); (case d => decide); (case e => rfl); (case p => rfl)))
/-! the steps: one line a construct -/
local macro_rules | `(tactic| row_cond dlen) => `(tactic| (intro ds M R Q h; first | (obtain ⟨h1, _⟩ := h; subst h1; rfl) | (obtain ⟨_, h1, _⟩ := h; subst h1; rfl) | (obtain ⟨_, _, h1, _⟩ := h; subst h1; rfl) | (obtain ⟨_, _, _, h1, _⟩ := h; subst h1; rfl) | (obtain ⟨_, _, _, _, h1, _⟩ := h; subst h1; rfl) | (obtain ⟨_, _, _, _, _, h1, _⟩ := h; subst h1; rfl) | (obtain ⟨_, _, _, _, _, _, h1, _⟩ := h; subst h1; rfl) | (obtain ⟨_, _, _, _, _, _, _, h1, _⟩ := h; subst h1; rfl) | (obtain ⟨_, _, _, _, _, _, _, _, h1, _⟩ := h; subst h1; rfl) | (obtain ⟨_, _, _, _, _, _, _, _, _, h1, _⟩ := h; subst h1; rfl) | (obtain ⟨_, _, _, _, _, _, _, _, _, _, h1, _⟩ := h; subst h1; rfl) | (obtain ⟨_, _, _, _, _, _, _, _, _, _, _, h1, _⟩ := h; subst h1; rfl) | (obtain ⟨_, _, _, _, _, _, _, _, _, _, _, _, h1, _⟩ := h; subst h1; rfl)))
local macro_rules | `(tactic| row_cond dsz) => `(tactic| first | exact Nat.le_of_ble_eq_true rfl | assumption | (simp only [List.length_map, List.length_cons, List.length_append, List.length_nil, List.length_reverse, List.length_take, List.length_drop, PySem.sizeLine]; omega))
/- expressions -/
local macro_rules | `(tactic| row_cond dE) => `(tactic| first
  | ((with_reducible refine' we_name ?n ?e ?_); (case n => assumption); (case e => rfl))
  | (with_reducible refine we_int ?_)
  | (with_reducible refine we_bl ?_)
  | (with_reducible refine we_str ?_)
  | (with_reducible refine we_non ?_)
  | (with_reducible refine we_bin ?_)
  | ((with_reducible refine' we_cmp ?n ?_); (case n => rfl))
  | (with_reducible refine we_slice ?_)
  | (with_reducible refine we_rev ?_)
  | ((with_reducible refine' we_ix ?n ?_); (case n => exact fun _ _ => rfl))
  | (with_reducible refine we_tupV ?_)
  | (with_reducible refine we_lstV ?_)
  | ((with_reducible refine' we_blt ?b ?n ?m ?_); (case b => assumption); (case n => rfl); (case m => rfl))
  | ((with_reducible refine' we_typ ?b ?n ?m ?_); (case b => assumption); (case n => rfl); (case m => rfl))
  | ((with_reducible refine' we_tyName ?b ?_); (case b => assumption))
  | (with_reducible refine we_one ?_)
  | (with_reducible refine we_and ?_)
  | (with_reducible refine we_or ?_)
  | (with_reducible refine we_not ?_)
  | (with_reducible refine we_ifexp ?_)
  | ((with_reducible refine' we_un ?n ?_); (case n => exact fun z => nomatch z))
  | row_cond dcall
  | ((with_reducible refine we_bm (T := "list") PySem.F.plainAttrs_list PySem.F.slot_list_append PySem.F.type_list_append ?a ?b ?c ?d ?e ?_); (case a => rfl); (case b => rfl); (case c => rfl); (case d => rfl); (case e => rfl))
  | ((with_reducible refine we_bm0 (T := "list") PySem.F.plainAttrs_list PySem.F.slot_list_pop PySem.F.type_list_pop ?a ?b ?_); (case a => rfl); (case b => rfl))
  | ((with_reducible refine we_bm (T := "list") PySem.F.plainAttrs_list PySem.F.slot_list_extend PySem.F.type_list_extend ?a ?b ?c ?d ?e ?_); (case a => rfl); (case b => rfl); (case c => rfl); (case d => rfl); (case e => rfl)))
/- tests -/
local macro_rules | `(tactic| row_cond dT) => `(tactic| first
  | ((with_reducible refine' wt_cmp ?n ?_); (case n => rfl))
  | (with_reducible refine wt_not ?_)
  | (with_reducible refine wt_bool ?_)
  | (with_reducible refine ww_and1 ?_)
  | (with_reducible refine ww_or1 ?_)
  | (with_reducible refine ww_and ?_)
  | (with_reducible refine ww_or ?_)
  | ((with_reducible refine' wt_val ?n ?_); (case n => exact fun _ => rfl)))
/- statements -/
local macro_rules | `(tactic| row_cond dS) => `(tactic| first
  | (with_reducible refine wss_cons ?_)
  | (with_reducible refine wss_nil ?_)
  | ((with_reducible refine' ws_set ?a ?n ?h ?_); (case a => assumption); (case n => assumption); (case h => rfl))
  | ((with_reducible refine' ws_sub ?h ?_); (case h => rfl))
  | ((with_reducible refine' ws_asg ?a ?n ?h ?_); (case a => rfl); (case n => rfl); (case h => rfl))
  | (with_reducible refine ws_if ?_)
  | (with_reducible refine ws_ret ?_)
  | ((with_reducible refine' ws_expr ?h ?_); (case h => rfl))
  | (with_reducible refine ws_pass ?_)
  | (with_reducible refine ws_break ?_)
  | (with_reducible refine ws_continue ?_)
  | (with_reducible refine ws_retN ?_))
local macro_rules | `(tactic| row_cond dSn) => `(tactic| first
  | (with_reducible refine wss_cons ?_)
  | (with_reducible refine wss_nil ?_)
  | ((with_reducible refine' ws_set ?a ?n ?h ?_); (case a => assumption); (case n => assumption); (case h => rfl))
  | ((with_reducible refine' ws_sub ?h ?_); (case h => rfl))
  | ((with_reducible refine' ws_asg ?a ?n ?h ?_); (case a => rfl); (case n => rfl); (case h => rfl))
  | (with_reducible refine ws_ret ?_)
  | ((with_reducible refine' ws_expr ?h ?_); (case h => rfl))
  | (with_reducible refine ws_pass ?_)
  | (with_reducible refine ws_break ?_)
  | (with_reducible refine ws_continue ?_)
  | (with_reducible refine ws_retN ?_))
/- arguments, targets, values -/
local macro_rules | `(tactic| row_cond dV) => `(tactic| first
  | (with_reducible refine wa_nil ?_)
  | ((with_reducible refine' wa_cons ?n ?_); (case n => rfl))
  | (with_reducible refine wav_nil ?_)
  | ((with_reducible refine' wav_cons ?n ?_); (case n => rfl))
  | (with_reducible refine put_go ?_)
  | (with_reducible refine fz_lst ?_)
  | (with_reducible refine fz_tup ?_)
  | (with_reducible refine fz_id ?_)
  | (with_reducible refine own0_go ?_)
  | (with_reducible refine own1_go ?_)
  | (with_reducible refine app_go ?_)
  | (with_reducible refine mset_go ?_)
  | ((with_reducible refine' wg_name ?a ?n ?_); (case a => assumption); (case n => assumption))
  | ((with_reducible refine' wg_tup ?a ?n ?h ?_); (case a => assumption); (case n => rfl); (case h => rfl))
  | (with_reducible refine wgs_nil ?_)
  | ((with_reducible refine' wgs_cons ?n ?_); (case n => rfl))
  | (with_reducible refine wpt_none ?_)
  | (with_reducible refine wpt_some ?_)
  | ((with_reducible refine' wset_list ?n ?_); (case n => first | rfl | row_cond dix)))
/- what is walked -/
local macro_rules | `(tactic| row_cond dI) => `(tactic| first
  | ((with_reducible refine' wi_range1 ?a ?b ?c ?_); (case a => exact BltAt.gl (by assumption)); (case b => exact BltAt.mg (by assumption)); (case c => rfl))
  | ((with_reducible refine' wi_range2 ?a ?b ?c ?d ?_); (case a => exact BltAt.gl (by assumption)); (case b => exact BltAt.mg (by assumption)); (case c => rfl); (case d => rfl))
  | (with_reducible refine wi_val ?_)
  | (with_reducible refine wiv_list ?_)
  | (with_reducible refine wiv_tup ?_)
  | ((with_reducible refine' wgc_name ?a ?n ?h ?_); (case a => assumption); (case n => assumption); (case h => decide))
  | ((with_reducible refine' wgc_tup ?a ?n ?h ?_); (case a => assumption); (case n => rfl); (case h => rfl))
  | (with_reducible refine wgcs_nil ?_)
  | ((with_reducible refine' wgcs_cons ?n ?_); (case n => rfl))
  | (with_reducible refine wts_nil ?_)
  | (with_reducible refine wts_one ?_))
/- operations by values -/
local macro_rules | `(tactic| row_cond dO) => `(tactic| first
  | (with_reducible refine wo_add ?_)
  | (with_reducible refine wo_sub ?_)
  | ((with_reducible refine' wo_mulS ?n ?_); (case n => first | exact .inr ⟨by decide, by decide⟩ | exact .inl ⟨by decide, by decide⟩ | exact .inr ⟨by omega, by omega⟩ | exact .inl ⟨by omega, by omega⟩))
  | ((with_reducible refine' wo_fdiv ?n ?m ?_); (case n => first | decide | omega); (case m => first | decide | row_cond dlog))
  | ((with_reducible refine' wo_mod ?n ?_); (case n => first | decide | omega))
  | (with_reducible refine wo_powL ?_)
  | ((with_reducible refine' wo_pow ?n ?_); (case n => exact ⟨by decide, by decide, by decide⟩))
  | (with_reducible refine wo_xor ?_)
  | (with_reducible refine wo_lt ?_)
  | (with_reducible refine wo_le ?_)
  | (with_reducible refine wo_gt ?_)
  | (with_reducible refine wo_ge ?_)
  | (with_reducible refine wo_eqI ?_)
  | (with_reducible refine wo_neI ?_)
  | (with_reducible refine wo_eqS ?_)
  | (with_reducible refine wo_neS ?_)
  | (with_reducible refine wo_isN ?_)
  | (with_reducible refine wo_isnotN ?_)
  | (with_reducible refine wu_neg ?_)
  | (with_reducible refine wc_int ?_)
  | (with_reducible refine wc_intB ?_)
  | (with_reducible refine wc_abs ?_)
  | ((with_reducible refine' wc_max2 ?a ?_); (case a => assumption))
  | ((with_reducible refine' wc_min2 ?a ?_); (case a => assumption))
  | (with_reducible refine wc_list ?_)
  | (with_reducible refine wc_tuple ?_)
  | (with_reducible refine wc_lenM ?_)
  | (with_reducible refine wc_len ?_)
  | (with_reducible refine wc_isK ?_)
  | ((with_reducible refine' wc_allM ?a ?_); (case a => assumption))
  | ((with_reducible refine' wc_anyM ?a ?_); (case a => assumption))
  | ((with_reducible refine' wc_sum ?a ?_); (case a => assumption))
  | ((with_reducible refine' wx_list ?n ?_); (case n => row_cond dat))
  | ((with_reducible refine' wx_map ?a ?b ?_); (case a => omega); (case b => omega))
  | ((with_reducible refine' wx_seq ?a ?b ?_); (case a => omega); (case b => omega))
  | ((with_reducible refine' wx_tup ?n ?_); (case n => row_cond dat))
  | (with_reducible refine wsl_listM ?_)
  | (with_reducible refine wsl_list ?_)
  | (with_reducible refine wrev_goM ?_)
  | (with_reducible refine wrev_go ?_)
  | ((with_reducible refine' wo_catM ?n ?_); (case n => row_cond dsz))
  | ((with_reducible refine' wo_cat ?n ?_); (case n => row_cond dsz))
  | ((with_reducible refine' wm_append ?n ?_); (case n => row_cond dsz)))
local macro_rules | `(tactic| row_cond dat) => `(tactic| rfl)
local macro_rules | `(tactic| row_cond dix) => `(tactic| rfl)
local macro_rules | `(tactic| row_cond dlog) => `(tactic| first | decide | exact log_small (by omega) (by omega))
/- what stands between -/
local macro_rules | `(tactic| row_cond dQ) => `(tactic| first
  | (with_reducible refine ⟨_, rfl, ?_⟩)
  | (with_reducible refine br_true ?_)
  | (with_reducible refine br_false ?_)
  | (with_reducible refine rb_true ?_)
  | (with_reducible refine rb_false ?_)
  | ((with_reducible refine' br_dec ?_ ?_) <;> intro _)
  | ((with_reducible refine' br_ndec ?_ ?_) <;> intro _)
  | ((with_reducible refine' rb_dec ?_ ?_) <;> intro _)
  | ((with_reducible refine' rb_ndec ?_ ?_) <;> intro _)
  | (refine br_is rfl ?_)
  | (refine br_isnot rfl ?_)
  | (refine rb_is rfl ?_)
  | (refine rb_isnot rfl ?_)
  | ((with_reducible refine' ⟨⟨?a, ?b⟩, ?_⟩); (case a => omega); (case b => omega))
  | ((with_reducible refine' ⟨⟨?a, ?b, ?c, ?d⟩, ?_⟩); (case a => omega); (case b => omega); (case c => omega); (case d => omega))
  | (with_reducible refine app_go ?_)
  | (with_reducible refine ⟨tym_list, ?_⟩)
  | (with_reducible refine ⟨tym_str, ?_⟩)
  | ((with_reducible refine ⟨?n, ?_⟩); (case n => (show _ ≤ PySem.sizeLine); row_cond dsz))
  | (with_reducible intro _))
local macro_rules | `(tactic| row_cond dstart) => `(tactic| simp only [startD, List.map_cons, List.map_nil, List.length_cons, List.length_nil, List.cons_append, List.nil_append, Nat.zero_add, Nat.reduceAdd, Nat.reduceSub, List.replicate_succ, List.replicate_zero])
local macro_rules | `(tactic| row_cond d) => `(tactic| first | row_cond dE | row_cond dV | row_cond dO | row_cond dT | row_cond dS | row_cond dI | row_cond dmore | row_cond dspec | row_cond dQ)
local macro_rules | `(tactic| row_cond dn) => `(tactic| first | row_cond dE | row_cond dV | row_cond dO | row_cond dT | row_cond dSn | row_cond dI | row_cond dmore | row_cond dspec | row_cond dQ)
local macro_rules | `(tactic| row_cond gon) => `(tactic| repeat' (row_cond dn))
local macro_rules | `(tactic| row_cond go) => `(tactic| repeat' (row_cond d))

local macro_rules | `(tactic| row_cond dspec) => `(tactic| first
  | ((with_reducible refine' sp_law_next_go ?a ?b ?c ?_); (case a => assumption); (case b => first | decide | omega | (split <;> omega)); (case c => first | decide | omega | (split <;> omega)))
  | (with_reducible refine sp_law_mix_go ?_)
  | ((with_reducible refine' sp_parent_place_go ?a ?b ?_); (case a => first | omega | exact On.l0 (by assumption)); (case b => first | omega | exact On.l1 (by assumption)))
  | ((with_reducible refine' sp_way_up_go ?a ?b ?c ?_); (case a => assumption); (case b => assumption); (case c => assumption)))
local macro_rules | `(tactic| row_cond dmore) => `(tactic| first
  | ((with_reducible refine' wo_eqP ?a ?_); (case a => assumption))
  | ((with_reducible refine' wo_neP ?a ?_); (case a => assumption))
  | (with_reducible refine ⟨_, [], rfl, ?_⟩))
/-- lines as the law draws them -/
structure Forest (L : List (Option Pl)) (most : Int) : Prop where
  ok : Ok L
  len : 2 ≤ L.length ∧ L.length ≤ 99
  first : L[0]? = some none
  last : L[L.length - 1]? = some none
  most : 1 ≤ most ∧ most ≤ 1000
def sp_law_forest : SpD := fun ds M _ Q => ∃ (p : Addr) (st : D), ds = [.ref p] ∧ M = [(p, st)] ∧ DrawSt st ∧ ∀ (L : List (Option Pl)) (most : Int) (st' : D), Forest L most → DrawSt st' → Q (.tup [.lst (L.map encO), .int most]) [(p, st')]
theorem cal_law_forest {P : Program} {w : World} {K : PySem.W.Frag} {mg : Str → Option Value} {base : Heap} (T : Tx mg) (Da : DefAt K mg "_law_forest" s_law_forest) (c_law_next : Cal P w K mg base 2 "_law_next" sp_law_next) : Cal P w K mg base (3) "_law_forest" sp_law_forest := by
  refine calD (k := 2) Da sc_law_forest (fun f fd Fu => Fu.binds fun _ _ _ _ _ _ us hl => match us, hl with | [_], _ => rfl) (by row_cond dlen) (fun X F hX nm ds M R Q hS => ?_)
  have hst := hX.std
  have n_state : NameAt X 0 "state" := nm.name rfl (.inl rfl) (by decide) (by decide)
  have s_state : StoreAt X 0 "state" := nm.store rfl (.inl rfl)
  have n_many : NameAt X 1 "many" := nm.name rfl (.inl rfl) (by decide) (by decide)
  have s_many : StoreAt X 1 "many" := nm.store rfl (.inl rfl)
  have n_most : NameAt X 2 "most" := nm.name rfl (.inl rfl) (by decide) (by decide)
  have s_most : StoreAt X 2 "most" := nm.store rfl (.inl rfl)
  have n_choice : NameAt X 3 "choice" := nm.name rfl (.inl rfl) (by decide) (by decide)
  have s_choice : StoreAt X 3 "choice" := nm.store rfl (.inl rfl)
  have n_lines : NameAt X 4 "lines" := nm.name rfl (.inl rfl) (by decide) (by decide)
  have s_lines : StoreAt X 4 "lines" := nm.store rfl (.inl rfl)
  have n_k : NameAt X 5 "k" := nm.name rfl (.inl rfl) (by decide) (by decide)
  have s_k : StoreAt X 5 "k" := nm.store rfl (.inl rfl)
  have n_origin : NameAt X 6 "origin" := nm.name rfl (.inl rfl) (by decide) (by decide)
  have s_origin : StoreAt X 6 "origin" := nm.store rfl (.inl rfl)
  have g_law_next : Gl X "_law_next" := nm.gl rfl
  have b_range : BltAt X "range" (.type "range") := nm.blt hX rfl T.z_range bo_range (by decide) (by decide)
  have b_min : BltAt X "min" (.builtin "min") := nm.blt hX rfl T.z_min bo_min (by decide) (by decide)
  have m_range : X.mg "range" = none := by rw [hX.mg]; exact T.z_range
  obtain ⟨p, st, rfl, rfl, hst', hq⟩ := hS
  row_cond dstart
  refine wss_cons ?_
  row_cond gon
  rename_i d0 st0 h00 h01 hs0 d1 st1 h10 h11 hs1
  refine ws_mid (fun Γ => ∃ (many most : Int) (st2 : D), Γ = ⟨[some (.ref p), some (.int many), some (.int most), some (.int d1), none, none, none], [(p, st2)], R⟩ ∧ DrawSt st2 ∧ (1 ≤ many ∧ many ≤ 98) ∧ (1 ≤ most ∧ most ≤ 1000)) ?_ ?_
  · row_cond go
    · exact ⟨98, 4, st1, rfl, hs1, ⟨by omega, by omega⟩, by omega, by omega⟩
    · exact ⟨1 + d0, 7, st1, rfl, hs1, ⟨by omega, by omega⟩, by omega, by omega⟩
  rintro Γ ⟨many, most, st2, rfl, hs2, hm, hm2⟩
  row_cond gon
  refine ws_mid (fun Γ => ∃ (many most : Int) (st2 : D), Γ = ⟨[some (.ref p), some (.int many), some (.int most), some (.int d1), none, none, none], [(p, st2)], R⟩ ∧ DrawSt st2 ∧ (1 ≤ many ∧ many ≤ 98) ∧ (1 ≤ most ∧ most ≤ 1000)) ?_ ?_
  · row_cond go
    all_goals first
      | exact ⟨_, 1000, _, rfl, by assumption, ⟨by omega, by omega⟩, by omega, by omega⟩
      | exact ⟨_, _, _, rfl, by assumption, hm, hm2⟩
  clear hm hm2 hs2
  rintro Γ ⟨many, most, st3, rfl, hs3, hm, hm2⟩
  row_cond gon
  rename_i pl
  refine ws_for hst (fun _ => rfl) ?_
  row_cond go
  refine ⟨fun i Γ => ∃ (L : List (Option Pl)) (st : D) (sk so : Option D), Γ = ⟨[some (.ref p), some (.int many), some (.int most), some (.int d1), some (.ref pl), sk, so], [(pl, .lst (L.map encO)), (p, st)], R⟩ ∧ DrawSt st ∧ L.length = i + 1 ∧ Ok L ∧ L[0]? = some none,
    ⟨[none], st3, none, none, rfl, hs3, rfl, ⟨fun k q h => by cases k with | zero => simp at h | succ k => simp at h⟩, rfl⟩, fun _ _ _ => trivial, fun i x Γ hx hW => ?_, fun Γ hW => ?_⟩
  · obtain ⟨L, st4, sk, so, rfl, hs4, hL, hok, h0⟩ := hW
    obtain ⟨hi, rfl⟩ := rngD_at hx
    have hi' : i < 98 := by omega
    have hne : L ≠ [] := fun z => by rw [z] at hL; simp at hL
    row_cond go
    · rename_i e0 s0 _ _ _ _ e1 s1 _ _ _ e2 s2 h20 h21 hs2 e3 s3 h30 h31 hs3'
      refine ⟨L ++ [some (1 + (i : Int) - 1 - e2, e3)], s3, _, _, by rw [List.map_append]; rfl, hs3', by rw [List.length_append, hL]; rfl, ⟨fun k q h => ?_⟩, by rw [List.getElem?_append_left (by omega)]; exact h0⟩
      by_cases hk : k < L.length
      · rw [List.getElem?_append_left hk] at h
        exact hok.or k q h
      · rw [List.getElem?_append_right (by omega)] at h
        have hk0 : k - L.length = 0 := by
          have := (List.getElem?_eq_some_iff.mp h).1
          simp at this; omega
        rw [hk0] at h
        simp at h
        subst h
        have hmin : e2 < 1 + (i : Int) := by
          split at h21 <;> omega
        show 0 ≤ 1 + (i : Int) - 1 - e2 ∧ 1 + (i : Int) - 1 - e2 < (k : Int) ∧ 0 ≤ e3 ∧ e3 ≤ 999
        omega
    · rename_i e0 s0 _ _ hs0' _
      refine ⟨L ++ [none], s0, _, _, by rw [List.map_append]; rfl, hs0', by rw [List.length_append, hL]; rfl, ⟨fun k q h => ?_⟩, by rw [List.getElem?_append_left (by omega)]; exact h0⟩
      by_cases hk : k < L.length
      · rw [List.getElem?_append_left hk] at h
        exact hok.or k q h
      · rw [List.getElem?_append_right (by omega)] at h
        have hk0 : k - L.length = 0 := by
          have := (List.getElem?_eq_some_iff.mp h).1
          simp at this; omega
        rw [hk0] at h
        simp at h
  · obtain ⟨L, st4, sk, so, rfl, hs4, hL, hok, h0⟩ := hW
    rw [rngD_len] at hL
    row_cond go
    have hF : Forest (L ++ [none]) most := by
      refine ⟨⟨fun k q h => ?_⟩, by rw [List.length_append]; simp; omega, by rw [List.getElem?_append_left (by omega)]; exact h0, by rw [List.length_append]; simp, hm2⟩
      by_cases hk : k < L.length
      · rw [List.getElem?_append_left hk] at h
        exact hok.or k q h
      · rw [List.getElem?_append_right (by omega)] at h
        have hk0 : k - L.length = 0 := by
          have := (List.getElem?_eq_some_iff.mp h).1
          simp at this; omega
        rw [hk0] at h
        simp at h
    refine rt1 (p := p) (k := 0) ?_
    have := hq _ most st4 hF hs4
    rw [List.map_append] at this
    exact this

end K20


namespace K20
open PySem PySem.Spec PyProof.Rows L2 DL
local macro_rules | `(tactic| row_cond dcall) => `(tactic| first
  | ((with_reducible refine' we_call (x := "parent_place") ?c ?x ?j ?g ?d ?e ?p ?_); (case c => assumption); (case x => assumption); (case j => first | decide | exact Nat.le_refl _ | omega); (case g => assumption); (case d => decide); (case e => rfl); (case p => rfl))
  | ((with_reducible refine' we_call (x := "way_up") ?c ?x ?j ?g ?d ?e ?p ?_); (case c => assumption); (case x => assumption); (case j => first | decide | exact Nat.le_refl _ | omega); (case g => assumption); (case d => decide); (case e => rfl); (case p => rfl))
  | ((with_reducible refine' we_call (x := "way") ?c ?x ?j ?g ?d ?e ?p ?_); (case c => assumption); (case x => assumption); (case j => first | decide | exact Nat.le_refl _ | omega); (case g => assumption); (case d => decide); (case e => rfl); (case p => rfl))
  | ((with_reducible refine' we_call (x := "_law_mix") ?c ?x ?j ?g ?d ?e ?p ?_); (case c => assumption); (case x => assumption); (case j => first | decide | exact Nat.le_refl _ | omega); (case g => assumption); (case d => decide); (case e => rfl); (case p => rfl))
  | ((with_reducible refine' we_call (x := "_law_start") ?c ?x ?j ?g ?d ?e ?p ?_); (case c => assumption); (case x => assumption); (case j => first | decide | exact Nat.le_refl _ | omega); (case g => assumption); (case d => decide); (case e => rfl); (case p => rfl))
  | ((with_reducible refine' we_call1 (x := "_law_next") ?c ?x ?j ?g ?d ?e ?p ?_); (case c => assumption); (case x => assumption); (case j => first | decide | exact Nat.le_refl _ | omega); (case g => assumption); (case d => decide); (case e => rfl); (case p => rfl))
  | ((with_reducible refine' we_call (x := "_law_is") ?c ?x ?j ?g ?d ?e ?p ?_); (case c => assumption); (case x => assumption); (case j => first | decide | exact Nat.le_refl _ | omega); (case g => assumption); (case d => decide); (case e => rfl); (case p => rfl))
  | ((with_reducible refine' we_call1 (x := "_law_forest") ?c ?x ?j ?g ?d ?e ?p ?_); (case c => assumption); (case x => assumption); (case j => first | decide | exact Nat.le_refl _ | omega); (case g => assumption); (case d => decide); (case e => rfl); (case p => rfl))
  | ((with_reducible refine' we_call (x := "_law_parent") ?c ?x ?j ?g ?d ?e ?p ?_); (case c => assumption); (case x => assumption); (case j => first | decide | exact Nat.le_refl _ | omega); (case g => assumption); (case d => decide); (case e => rfl); (case p => rfl))
  | ((with_reducible refine' we_call (x := "_law_up") ?c ?x ?j ?g ?d ?e ?p ?_); (case c => assumption); (case x => assumption); (case j => first | decide | exact Nat.le_refl _ | omega); (case g => assumption); (case d => decide); (case e => rfl); (case p => rfl))
  | ((with_reducible refine' we_call (x := "_law_due") ?c ?x ?j ?g ?d ?e ?p ?_); (case c => assumption); (case x => assumption); (case j => first | decide | exact Nat.le_refl _ | omega); (case g => assumption); (case d => decide); (case e => rfl); (case p => rfl))
  | ((with_reducible refine' we_call1 (x := "_law_asked") ?c ?x ?j ?g ?d ?e ?p ?_); (case c => assumption); (case x => assumption); (case j => first | decide | exact Nat.le_refl _ | omega); (case g => assumption); (case d => decide); (case e => rfl); (case p => rfl))
  | ((with_reducible refine' we_call (x := "law") ?c ?x ?j ?g ?d ?e ?p ?_); (case c => assumption); (case x => assumption); (case j => first | decide | exact Nat.le_refl _ | omega); (case g => assumption); (case d => decide); (case e => rfl); (case p => rfl)))
/-! the steps: one line a construct -/
local macro_rules | `(tactic| row_cond dlen) => `(tactic| (intro ds M R Q h; first | (obtain ⟨h1, _⟩ := h; subst h1; rfl) | (obtain ⟨_, h1, _⟩ := h; subst h1; rfl) | (obtain ⟨_, _, h1, _⟩ := h; subst h1; rfl) | (obtain ⟨_, _, _, h1, _⟩ := h; subst h1; rfl) | (obtain ⟨_, _, _, _, h1, _⟩ := h; subst h1; rfl) | (obtain ⟨_, _, _, _, _, h1, _⟩ := h; subst h1; rfl) | (obtain ⟨_, _, _, _, _, _, h1, _⟩ := h; subst h1; rfl) | (obtain ⟨_, _, _, _, _, _, _, h1, _⟩ := h; subst h1; rfl) | (obtain ⟨_, _, _, _, _, _, _, _, h1, _⟩ := h; subst h1; rfl) | (obtain ⟨_, _, _, _, _, _, _, _, _, h1, _⟩ := h; subst h1; rfl) | (obtain ⟨_, _, _, _, _, _, _, _, _, _, h1, _⟩ := h; subst h1; rfl) | (obtain ⟨_, _, _, _, _, _, _, _, _, _, _, h1, _⟩ := h; subst h1; rfl) | (obtain ⟨_, _, _, _, _, _, _, _, _, _, _, _, h1, _⟩ := h; subst h1; rfl)))
local macro_rules | `(tactic| row_cond dsz) => `(tactic| first | exact Nat.le_of_ble_eq_true rfl | assumption | (simp only [List.length_map, List.length_cons, List.length_append, List.length_nil, List.length_reverse, List.length_take, List.length_drop, PySem.sizeLine]; omega))
/- expressions -/
local macro_rules | `(tactic| row_cond dE) => `(tactic| first
  | ((with_reducible refine' we_name ?n ?e ?_); (case n => assumption); (case e => rfl))
  | (with_reducible refine we_int ?_)
  | (with_reducible refine we_bl ?_)
  | (with_reducible refine we_str ?_)
  | (with_reducible refine we_non ?_)
  | (with_reducible refine we_bin ?_)
  | ((with_reducible refine' we_cmp ?n ?_); (case n => rfl))
  | (with_reducible refine we_slice ?_)
  | (with_reducible refine we_rev ?_)
  | ((with_reducible refine' we_ix ?n ?_); (case n => exact fun _ _ => rfl))
  | (with_reducible refine we_tupV ?_)
  | (with_reducible refine we_lstV ?_)
  | ((with_reducible refine' we_blt ?b ?n ?m ?_); (case b => assumption); (case n => rfl); (case m => rfl))
  | ((with_reducible refine' we_typ ?b ?n ?m ?_); (case b => assumption); (case n => rfl); (case m => rfl))
  | ((with_reducible refine' we_tyName ?b ?_); (case b => assumption))
  | (with_reducible refine we_one ?_)
  | (with_reducible refine we_and ?_)
  | (with_reducible refine we_or ?_)
  | (with_reducible refine we_not ?_)
  | (with_reducible refine we_ifexp ?_)
  | ((with_reducible refine' we_un ?n ?_); (case n => exact fun z => nomatch z))
  | row_cond dcall
  | ((with_reducible refine we_bm (T := "list") PySem.F.plainAttrs_list PySem.F.slot_list_append PySem.F.type_list_append ?a ?b ?c ?d ?e ?_); (case a => rfl); (case b => rfl); (case c => rfl); (case d => rfl); (case e => rfl))
  | ((with_reducible refine we_bm0 (T := "list") PySem.F.plainAttrs_list PySem.F.slot_list_pop PySem.F.type_list_pop ?a ?b ?_); (case a => rfl); (case b => rfl))
  | ((with_reducible refine we_bm (T := "list") PySem.F.plainAttrs_list PySem.F.slot_list_extend PySem.F.type_list_extend ?a ?b ?c ?d ?e ?_); (case a => rfl); (case b => rfl); (case c => rfl); (case d => rfl); (case e => rfl)))
/- tests -/
local macro_rules | `(tactic| row_cond dT) => `(tactic| first
  | ((with_reducible refine' wt_cmp ?n ?_); (case n => rfl))
  | (with_reducible refine wt_not ?_)
  | (with_reducible refine wt_bool ?_)
  | (with_reducible refine ww_and1 ?_)
  | (with_reducible refine ww_or1 ?_)
  | (with_reducible refine ww_and ?_)
  | (with_reducible refine ww_or ?_)
  | ((with_reducible refine' wt_val ?n ?_); (case n => exact fun _ => rfl)))
/- statements -/
local macro_rules | `(tactic| row_cond dS) => `(tactic| first
  | (with_reducible refine wss_cons ?_)
  | (with_reducible refine wss_nil ?_)
  | ((with_reducible refine' ws_set ?a ?n ?h ?_); (case a => assumption); (case n => assumption); (case h => rfl))
  | ((with_reducible refine' ws_sub ?h ?_); (case h => rfl))
  | ((with_reducible refine' ws_asg ?a ?n ?h ?_); (case a => rfl); (case n => rfl); (case h => rfl))
  | (with_reducible refine ws_if ?_)
  | (with_reducible refine ws_ret ?_)
  | ((with_reducible refine' ws_expr ?h ?_); (case h => rfl))
  | (with_reducible refine ws_pass ?_)
  | (with_reducible refine ws_break ?_)
  | (with_reducible refine ws_continue ?_)
  | (with_reducible refine ws_retN ?_))
local macro_rules | `(tactic| row_cond dSn) => `(tactic| first
  | (with_reducible refine wss_cons ?_)
  | (with_reducible refine wss_nil ?_)
  | ((with_reducible refine' ws_set ?a ?n ?h ?_); (case a => assumption); (case n => assumption); (case h => rfl))
  | ((with_reducible refine' ws_sub ?h ?_); (case h => rfl))
  | ((with_reducible refine' ws_asg ?a ?n ?h ?_); (case a => rfl); (case n => rfl); (case h => rfl))
  | (with_reducible refine ws_ret ?_)
  | ((with_reducible refine' ws_expr ?h ?_); (case h => rfl))
  | (with_reducible refine ws_pass ?_)
  | (with_reducible refine ws_break ?_)
  | (with_reducible refine ws_continue ?_)
  | (with_reducible refine ws_retN ?_))
/- arguments, targets, values -/
local macro_rules | `(tactic| row_cond dV) => `(tactic| first
  | (with_reducible refine wa_nil ?_)
  | ((with_reducible refine' wa_cons ?n ?_); (case n => rfl))
  | (with_reducible refine wav_nil ?_)
  | ((with_reducible refine' wav_cons ?n ?_); (case n => rfl))
  | (with_reducible refine put_go ?_)
  | (with_reducible refine fz_lst ?_)
  | (with_reducible refine fz_tup ?_)
  | (with_reducible refine fz_id ?_)
  | (with_reducible refine own0_go ?_)
  | (with_reducible refine own1_go ?_)
  | (with_reducible refine app_go ?_)
  | (with_reducible refine mset_go ?_)
  | ((with_reducible refine' wg_name ?a ?n ?_); (case a => assumption); (case n => assumption))
  | ((with_reducible refine' wg_tup ?a ?n ?h ?_); (case a => assumption); (case n => rfl); (case h => rfl))
  | (with_reducible refine wgs_nil ?_)
  | ((with_reducible refine' wgs_cons ?n ?_); (case n => rfl))
  | (with_reducible refine wpt_none ?_)
  | (with_reducible refine wpt_some ?_)
  | ((with_reducible refine' wset_list ?n ?_); (case n => first | rfl | row_cond dix)))
/- what is walked -/
local macro_rules | `(tactic| row_cond dI) => `(tactic| first
  | ((with_reducible refine' wi_range1 ?a ?b ?c ?_); (case a => exact BltAt.gl (by assumption)); (case b => exact BltAt.mg (by assumption)); (case c => rfl))
  | ((with_reducible refine' wi_range2 ?a ?b ?c ?d ?_); (case a => exact BltAt.gl (by assumption)); (case b => exact BltAt.mg (by assumption)); (case c => rfl); (case d => rfl))
  | (with_reducible refine wi_val ?_)
  | (with_reducible refine wiv_list ?_)
  | (with_reducible refine wiv_tup ?_)
  | ((with_reducible refine' wgc_name ?a ?n ?h ?_); (case a => assumption); (case n => assumption); (case h => decide))
  | ((with_reducible refine' wgc_tup ?a ?n ?h ?_); (case a => assumption); (case n => rfl); (case h => rfl))
  | (with_reducible refine wgcs_nil ?_)
  | ((with_reducible refine' wgcs_cons ?n ?_); (case n => rfl))
  | (with_reducible refine wts_nil ?_)
  | (with_reducible refine wts_one ?_))
/- operations by values -/
local macro_rules | `(tactic| row_cond dO) => `(tactic| first
  | (with_reducible refine wo_add ?_)
  | (with_reducible refine wo_sub ?_)
  | ((with_reducible refine' wo_mulS ?n ?_); (case n => first | exact .inr ⟨by decide, by decide⟩ | exact .inl ⟨by decide, by decide⟩ | exact .inr ⟨by omega, by omega⟩ | exact .inl ⟨by omega, by omega⟩))
  | ((with_reducible refine' wo_fdiv ?n ?m ?_); (case n => first | decide | omega); (case m => first | decide | row_cond dlog))
  | ((with_reducible refine' wo_mod ?n ?_); (case n => first | decide | omega))
  | (with_reducible refine wo_powL ?_)
  | ((with_reducible refine' wo_pow ?n ?_); (case n => exact ⟨by decide, by decide, by decide⟩))
  | (with_reducible refine wo_xor ?_)
  | (with_reducible refine wo_lt ?_)
  | (with_reducible refine wo_le ?_)
  | (with_reducible refine wo_gt ?_)
  | (with_reducible refine wo_ge ?_)
  | (with_reducible refine wo_eqI ?_)
  | (with_reducible refine wo_neI ?_)
  | (with_reducible refine wo_eqS ?_)
  | (with_reducible refine wo_neS ?_)
  | (with_reducible refine wo_isN ?_)
  | (with_reducible refine wo_isnotN ?_)
  | (with_reducible refine wu_neg ?_)
  | (with_reducible refine wc_int ?_)
  | (with_reducible refine wc_intB ?_)
  | (with_reducible refine wc_abs ?_)
  | ((with_reducible refine' wc_max2 ?a ?_); (case a => assumption))
  | ((with_reducible refine' wc_min2 ?a ?_); (case a => assumption))
  | (with_reducible refine wc_list ?_)
  | (with_reducible refine wc_tuple ?_)
  | (with_reducible refine wc_lenM ?_)
  | (with_reducible refine wc_len ?_)
  | (with_reducible refine wc_isK ?_)
  | ((with_reducible refine' wc_allM ?a ?_); (case a => assumption))
  | ((with_reducible refine' wc_anyM ?a ?_); (case a => assumption))
  | ((with_reducible refine' wc_sum ?a ?_); (case a => assumption))
  | ((with_reducible refine' wx_list ?n ?_); (case n => row_cond dat))
  | ((with_reducible refine' wx_map ?a ?b ?_); (case a => omega); (case b => omega))
  | ((with_reducible refine' wx_seq ?a ?b ?_); (case a => omega); (case b => omega))
  | ((with_reducible refine' wx_tup ?n ?_); (case n => row_cond dat))
  | (with_reducible refine wsl_listM ?_)
  | (with_reducible refine wsl_list ?_)
  | (with_reducible refine wrev_goM ?_)
  | (with_reducible refine wrev_go ?_)
  | ((with_reducible refine' wo_catM ?n ?_); (case n => row_cond dsz))
  | ((with_reducible refine' wo_cat ?n ?_); (case n => row_cond dsz))
  | ((with_reducible refine' wm_append ?n ?_); (case n => row_cond dsz)))
local macro_rules | `(tactic| row_cond dat) => `(tactic| rfl)
local macro_rules | `(tactic| row_cond dix) => `(tactic| rfl)
local macro_rules | `(tactic| row_cond dlog) => `(tactic| first | decide | exact log_small (by omega) (by omega))
/- what stands between -/
local macro_rules | `(tactic| row_cond dQ) => `(tactic| first
  | (with_reducible refine ⟨_, rfl, ?_⟩)
  | (with_reducible refine br_true ?_)
  | (with_reducible refine br_false ?_)
  | (with_reducible refine rb_true ?_)
  | (with_reducible refine rb_false ?_)
  | ((with_reducible refine' br_dec ?_ ?_) <;> intro _)
  | ((with_reducible refine' br_ndec ?_ ?_) <;> intro _)
  | ((with_reducible refine' rb_dec ?_ ?_) <;> intro _)
  | ((with_reducible refine' rb_ndec ?_ ?_) <;> intro _)
  | (refine br_is rfl ?_)
  | (refine br_isnot rfl ?_)
  | (refine rb_is rfl ?_)
  | (refine rb_isnot rfl ?_)
  | ((with_reducible refine' ⟨⟨?a, ?b⟩, ?_⟩); (case a => omega); (case b => omega))
  | ((with_reducible refine' ⟨⟨?a, ?b, ?c, ?d⟩, ?_⟩); (case a => omega); (case b => omega); (case c => omega); (case d => omega))
  | (with_reducible refine app_go ?_)
  | (with_reducible refine ⟨tym_list, ?_⟩)
  | (with_reducible refine ⟨tym_str, ?_⟩)
  | ((with_reducible refine ⟨?n, ?_⟩); (case n => (show _ ≤ PySem.sizeLine); row_cond dsz))
  | (with_reducible intro _))
local macro_rules | `(tactic| row_cond dstart) => `(tactic| simp only [startD, List.map_cons, List.map_nil, List.length_cons, List.length_nil, List.cons_append, List.nil_append, Nat.zero_add, Nat.reduceAdd, Nat.reduceSub, List.replicate_succ, List.replicate_zero])
local macro_rules | `(tactic| row_cond d) => `(tactic| first | row_cond dE | row_cond dV | row_cond dO | row_cond dT | row_cond dS | row_cond dI | row_cond dmore | row_cond dspec | row_cond dQ)
local macro_rules | `(tactic| row_cond dn) => `(tactic| first | row_cond dE | row_cond dV | row_cond dO | row_cond dT | row_cond dSn | row_cond dI | row_cond dmore | row_cond dspec | row_cond dQ)
local macro_rules | `(tactic| row_cond gon) => `(tactic| repeat' (row_cond dn))
local macro_rules | `(tactic| row_cond go) => `(tactic| repeat' (row_cond d))

theorem sp_law_is_self {n : Nat} {d : D} {R : Mem} {Q : D → Mem → Prop} (h : Isd n d) (q : Q (.bl true) []) : sp_law_is n [d, d] [] R Q := ⟨d, d, d, rfl, rfl, .self _, .self _, h, q⟩
theorem sp_law_is_lst {n : Nat} {d1 d2 : D} {ds : List D} {R : Mem} {Q : D → Mem → Prop} [h1 : SeeL [] R d1 ds] [h2 : SeeL [] R d2 ds] (h : Isd n (.lst ds)) (q : Q (.bl true) []) : sp_law_is n [d1, d2] [] R Q := ⟨d1, d2, _, rfl, rfl, .lst h1, .lst h2, h, q⟩
theorem sp_way_none {dl : D} {L : List (Option Pl)} {a b : Pl} {R : Mem} {Q : D → Mem → Prop} [s : SeeL [] R dl (L.map encO)] (h0 : Ok L) (h1 : L.length ≤ 200) (ha : On L a) (hb : On L b) (e : due (up L a) (up L b) = none) (q : Q .non []) : sp_way [dl, encP a, encP b] [] R Q :=
  ⟨dl, L, a, b, rfl, rfl, s, h0, h1, ha, hb, fun _ => q, fun P z => by rw [e] at z; cases z⟩
theorem sp_way_some {dl : D} {L : List (Option Pl)} {a b : Pl} {P : List Pl} {R : Mem} {Q : D → Mem → Prop} [s : SeeL [] R dl (L.map encO)] (h0 : Ok L) (h1 : L.length ≤ 200) (ha : On L a) (hb : On L b) (e : due (up L a) (up L b) = some P) (q : ∀ p, Q (.ref p) [(p, .lst (P.map encP))]) : sp_way [dl, encP a, encP b] [] R Q :=
  ⟨dl, L, a, b, rfl, rfl, s, h0, h1, ha, hb, (fun z => by rw [e] at z; cases z), fun P2 z => by rw [e] at z; cases z; exact q⟩
theorem isd_P {P : List Pl} (h : P.length ≤ 16777216) : Isd 2 (.lst (P.map encP)) := ⟨by rw [List.length_map]; exact h, fun d hd => by
  obtain ⟨p, _, rfl⟩ := List.mem_map.mp hd
  refine ⟨Nat.le_of_ble_eq_true rfl, fun x hx => ?_⟩
  rcases List.mem_cons.mp hx with rfl | hx
  · trivial
  · rcases List.mem_cons.mp hx with rfl | hx
    · trivial
    · cases hx⟩
theorem isd_O (o : Option Pl) (n : Nat) : Isd (n + 1) (encO o) := by
  cases o with
  | none => trivial
  | some p =>
    refine ⟨Nat.le_of_ble_eq_true rfl, fun x hx => ?_⟩
    rcases List.mem_cons.mp hx with rfl | hx
    · cases n <;> trivial
    · rcases List.mem_cons.mp hx with rfl | hx
      · cases n <;> trivial
      · cases hx
theorem isd_L {L : List (Option Pl)} (h : L.length ≤ 16777216) : Isd 2 (.lst (L.map encO)) := ⟨by rw [List.length_map]; exact h, fun d hd => by
  obtain ⟨p, _, rfl⟩ := List.mem_map.mp hd
  exact isd_O p 0⟩
local macro_rules | `(tactic| row_cond disd) => `(tactic| first | assumption | trivial | exact isd_O _ _)
local macro_rules | `(tactic| row_cond dspec) => `(tactic| first
  | ((with_reducible refine' sp_law_next_go ?a ?b ?c ?_); (case a => assumption); (case b => first | decide | omega | (split <;> omega)); (case c => first | decide | omega | (split <;> omega)))
  | (with_reducible refine sp_law_mix_go ?_)
  | ((with_reducible refine' sp_parent_place_go ?a ?b ?_); (case a => first | omega | exact On.l0 (by assumption)); (case b => first | omega | exact On.l1 (by assumption)))
  | ((with_reducible refine' sp_way_up_go ?a ?b ?c ?_); (case a => assumption); (case b => assumption); (case c => assumption))
  | ((with_reducible refine' sp_way_some ?a ?b ?c ?d ?e ?_); (case a => assumption); (case b => assumption); (case c => assumption); (case d => assumption); (case e => assumption))
  | ((with_reducible refine' sp_way_none ?a ?b ?c ?d ?e ?_); (case a => assumption); (case b => assumption); (case c => assumption); (case d => assumption); (case e => assumption))
  | ((with_reducible refine' sp_law_is_self ?a ?_); (case a => row_cond disd))
  | ((with_reducible refine' sp_law_is_lst ?a ?_); (case a => row_cond disd)))
local macro_rules | `(tactic| row_cond dmore) => `(tactic| first
  | ((with_reducible refine' wo_eqP ?a ?_); (case a => assumption))
  | ((with_reducible refine' wo_neP ?a ?_); (case a => assumption))
  | (with_reducible refine ⟨_, [], rfl, ?_⟩))

theorem due_len {L : List (Option Pl)} (h : Ok L) (hL : L.length ≤ 200) {a b : Pl} (ha : On L a) (hb : On L b) {P : List Pl} (e : due (up L a) (up L b) = some P) : P.length ≤ 500000 ∧ 0 < P.length := by
  by_cases hc : ∃ y ∈ up L a, y ∈ up L b
  · obtain ⟨x, s, t, w, _⟩ := way_ex h ha hb hc
    rw [w.due h ha hb] at e
    cases e
    have h1 := on_len h hL ha
    have h2 := on_len h hL hb
    rw [w.ha, List.length_append] at h1
    rw [w.hb, List.length_append] at h2
    simp
    omega
  · rw [due_none fun x h1 h2 => hc ⟨x, h1, h2⟩] at e; cases e
theorem mem_cut {α : Type} {xs : List α} {lo hi : Option Int} {x : α} (h : x ∈ DL.cutD xs lo hi) : x ∈ xs := List.mem_of_mem_drop (List.mem_of_mem_take h)
theorem cut_len {α : Type} {xs : List α} {lo hi : Option Int} : (DL.cutD xs lo hi).length ≤ xs.length := by unfold DL.cutD; rw [List.length_take, List.length_drop]; omega
def sp_law_asked : SpD := fun ds M R Q => ∃ (p : Addr) (st : D) (L : List (Option Pl)) (a b : Pl), ds = [.ref p, .lst (L.map encO), encP a, encP b] ∧ M = [(p, st)] ∧ DrawSt st ∧ Ok L ∧ L.length ≤ 200 ∧ On L a ∧ On L b ∧ ∀ st', DrawSt st' → Q (.bl true) [(p, st')]
theorem cal_law_asked {P : Program} {w : World} {K : PySem.W.Frag} {mg : Str → Option Value} {base : Heap} (T : Tx mg) (Da : DefAt K mg "_law_asked" s_law_asked) (c_law_due : Cal P w K mg base 3 "_law_due" sp_way) (c_way : Cal P w K mg base 3 "way" sp_way) (c_law_next : Cal P w K mg base 2 "_law_next" sp_law_next) (c_law_is : Cal P w K mg base 3 "_law_is" (sp_law_is 2)) (c_parent_place : Cal P w K mg base 1 "parent_place" sp_parent_place) (c_law_parent : Cal P w K mg base 1 "_law_parent" sp_parent_place) : Cal P w K mg base (4) "_law_asked" sp_law_asked := by
  refine calD (k := 3) Da sc_law_asked (fun f fd Fu => Fu.binds fun _ _ _ _ _ _ us hl => match us, hl with | [_, _, _, _], _ => rfl) (by row_cond dlen) (fun X F hX nm ds M R Q hS => ?_)
  have hst := hX.std
  have n_state : NameAt X 0 "state" := nm.name rfl (.inl rfl) (by decide) (by decide)
  have s_state : StoreAt X 0 "state" := nm.store rfl (.inl rfl)
  have n_lines : NameAt X 1 "lines" := nm.name rfl (.inl rfl) (by decide) (by decide)
  have s_lines : StoreAt X 1 "lines" := nm.store rfl (.inl rfl)
  have n_one : NameAt X 2 "one" := nm.name rfl (.inl rfl) (by decide) (by decide)
  have s_one : StoreAt X 2 "one" := nm.store rfl (.inl rfl)
  have n_other : NameAt X 3 "other" := nm.name rfl (.inl rfl) (by decide) (by decide)
  have s_other : StoreAt X 3 "other" := nm.store rfl (.inl rfl)
  have n_due : NameAt X 4 "due" := nm.name rfl (.inl rfl) (by decide) (by decide)
  have s_due : StoreAt X 4 "due" := nm.store rfl (.inl rfl)
  have n_given : NameAt X 5 "given" := nm.name rfl (.inl rfl) (by decide) (by decide)
  have s_given : StoreAt X 5 "given" := nm.store rfl (.inl rfl)
  have n_told : NameAt X 6 "told" := nm.name rfl (.inl rfl) (by decide) (by decide)
  have s_told : StoreAt X 6 "told" := nm.store rfl (.inl rfl)
  have n_first : NameAt X 7 "first" := nm.name rfl (.inl rfl) (by decide) (by decide)
  have s_first : StoreAt X 7 "first" := nm.store rfl (.inl rfl)
  have n_last : NameAt X 8 "last" := nm.name rfl (.inl rfl) (by decide) (by decide)
  have s_last : StoreAt X 8 "last" := nm.store rfl (.inl rfl)
  have n_place : NameAt X 9 "place" := nm.name rfl (.inl rfl) (by decide) (by decide)
  have s_place : StoreAt X 9 "place" := nm.store rfl (.inl rfl)
  have g_law_due : Gl X "_law_due" := nm.gl rfl
  have b_list : BltAt X "list" (.type "list") := nm.blt hX rfl T.z_list bo_list (by decide) (by decide)
  have g_way : Gl X "way" := nm.gl rfl
  have g_law_is : Gl X "_law_is" := nm.gl rfl
  have g_law_next : Gl X "_law_next" := nm.gl rfl
  have b_len : BltAt X "len" (.builtin "len") := nm.blt hX rfl T.z_len bo_len (by decide) (by decide)
  have g_parent_place : Gl X "parent_place" := nm.gl rfl
  have g_law_parent : Gl X "_law_parent" := nm.gl rfl
  obtain ⟨p, st, L, a, b, rfl, rfl, hst', hok, hL, ha, hb, hq⟩ := hS
  have iL : Isd 2 (.lst (L.map encO)) := isd_L (by omega)
  row_cond dstart
  refine wss_cons ?_
  cases e : due (up L a) (up L b) with
  | none =>
    have e2 := due_symm_none hok ha hb e
    row_cond go
    refine rt1 (p := p) (k := 1) ?_
    exact hq _ hst'
  | some P =>
    have e2 := due_symm hok ha hb e
    obtain ⟨hP, hP0⟩ := due_len hok hL ha hb e
    have iP : Isd 2 (.lst (P.map encP)) := isd_P (by omega)
    have iPr : Isd 2 (.lst (P.reverse.map encP)) := isd_P (by rw [List.length_reverse]; omega)
    row_cond go
    rename_i pd pg pw1 pw2 pw3 pw4 i st1 hi0 hi1 hs1 j st2 hj0 hj1 hs2 u hu v hv
    obtain ⟨hu', hv', e3⟩ := due_part hok ha hb e (i := i.toNat) (j := (i + j).toNat) (by omega) hu hv
    have iPart : Isd 2 (.lst (((P.drop i.toNat).take ((i + j).toNat + 1 - i.toNat)).map encP)) := isd_P (by rw [List.length_take, List.length_drop]; omega)
    have ec : DL.cutD P (some i) (some (i + j + 1)) = (P.drop i.toNat).take ((i + j).toNat + 1 - i.toNat) := by rw [cut_mid P (by omega) (by omega), show (i + j + 1).toNat = (i + j).toNat + 1 by omega]
    rw [← ec] at e3 iPart
    row_cond go
    have hz : (DL.cutD P none (some 12)).length + (DL.cutD P (some (-12)) none).length ≤ sizeLine := by
      have h1 := cut_len (xs := P) (lo := none) (hi := some 12)
      have h2 := cut_len (xs := P) (lo := some (-12)) (hi := none)
      unfold sizeLine; omega
    refine ws_for hst (fun _ => rfl) ?_
    row_cond go
    rename_i pc
    refine ⟨fun _ Γ => ∃ so, Γ = ⟨[some (.ref p), some (.lst (L.map encO)), some (encP a), some (encP b), some (.ref pd), some (.ref pg), some (.ref pw1), some (.int i), some (.int (i + j)), so], _, R⟩, ⟨_, rfl⟩, ?_, ?_, ?_⟩
    · rintro k Γ ⟨so, rfl⟩
      exact (inferInstance : SeeL _ _ _ _).see
    · rintro k x Γ hx ⟨so, rfl⟩
      rw [List.getElem?_map] at hx
      obtain ⟨y, hy, rfl⟩ := Option.map_eq_some_iff.mp hx
      have hyP : y ∈ P := by
        rcases List.mem_append.mp (List.mem_of_getElem? hy) with h | h
        · exact mem_cut h
        · exact mem_cut h
      obtain ⟨n, hn⟩ := List.getElem?_of_mem hyP
      obtain ⟨hy', _, _⟩ := due_part hok ha hb e (Nat.le_refl n) hn hn
      row_cond go
      exact ⟨_, rfl⟩
    · rintro Γ ⟨so, rfl⟩
      row_cond go
      refine rt1 (p := p) ?_
      exact hq _ hs2

end K20


namespace K20
open PySem PySem.Spec PyProof.Rows L2 DL
local macro_rules | `(tactic| row_cond dcall) => `(tactic| first
  | ((with_reducible refine' we_call (x := "parent_place") ?c ?x ?j ?g ?d ?e ?p ?_); (case c => assumption); (case x => assumption); (case j => first | decide | exact Nat.le_refl _ | omega); (case g => assumption); (case d => decide); (case e => rfl); (case p => rfl))
  | ((with_reducible refine' we_call (x := "way_up") ?c ?x ?j ?g ?d ?e ?p ?_); (case c => assumption); (case x => assumption); (case j => first | decide | exact Nat.le_refl _ | omega); (case g => assumption); (case d => decide); (case e => rfl); (case p => rfl))
  | ((with_reducible refine' we_call (x := "way") ?c ?x ?j ?g ?d ?e ?p ?_); (case c => assumption); (case x => assumption); (case j => first | decide | exact Nat.le_refl _ | omega); (case g => assumption); (case d => decide); (case e => rfl); (case p => rfl))
  | ((with_reducible refine' we_call (x := "_law_mix") ?c ?x ?j ?g ?d ?e ?p ?_); (case c => assumption); (case x => assumption); (case j => first | decide | exact Nat.le_refl _ | omega); (case g => assumption); (case d => decide); (case e => rfl); (case p => rfl))
  | ((with_reducible refine' we_call (x := "_law_start") ?c ?x ?j ?g ?d ?e ?p ?_); (case c => assumption); (case x => assumption); (case j => first | decide | exact Nat.le_refl _ | omega); (case g => assumption); (case d => decide); (case e => rfl); (case p => rfl))
  | ((with_reducible refine' we_call1 (x := "_law_next") ?c ?x ?j ?g ?d ?e ?p ?_); (case c => assumption); (case x => assumption); (case j => first | decide | exact Nat.le_refl _ | omega); (case g => assumption); (case d => decide); (case e => rfl); (case p => rfl))
  | ((with_reducible refine' we_call (x := "_law_is") ?c ?x ?j ?g ?d ?e ?p ?_); (case c => assumption); (case x => assumption); (case j => first | decide | exact Nat.le_refl _ | omega); (case g => assumption); (case d => decide); (case e => rfl); (case p => rfl))
  | ((with_reducible refine' we_call1 (x := "_law_forest") ?c ?x ?j ?g ?d ?e ?p ?_); (case c => assumption); (case x => assumption); (case j => first | decide | exact Nat.le_refl _ | omega); (case g => assumption); (case d => decide); (case e => rfl); (case p => rfl))
  | ((with_reducible refine' we_call (x := "_law_parent") ?c ?x ?j ?g ?d ?e ?p ?_); (case c => assumption); (case x => assumption); (case j => first | decide | exact Nat.le_refl _ | omega); (case g => assumption); (case d => decide); (case e => rfl); (case p => rfl))
  | ((with_reducible refine' we_call (x := "_law_up") ?c ?x ?j ?g ?d ?e ?p ?_); (case c => assumption); (case x => assumption); (case j => first | decide | exact Nat.le_refl _ | omega); (case g => assumption); (case d => decide); (case e => rfl); (case p => rfl))
  | ((with_reducible refine' we_call (x := "_law_due") ?c ?x ?j ?g ?d ?e ?p ?_); (case c => assumption); (case x => assumption); (case j => first | decide | exact Nat.le_refl _ | omega); (case g => assumption); (case d => decide); (case e => rfl); (case p => rfl))
  | ((with_reducible refine' we_call1 (x := "_law_asked") ?c ?x ?j ?g ?d ?e ?p ?_); (case c => assumption); (case x => assumption); (case j => first | decide | exact Nat.le_refl _ | omega); (case g => assumption); (case d => decide); (case e => rfl); (case p => rfl))
  | ((with_reducible refine' we_call (x := "law") ?c ?x ?j ?g ?d ?e ?p ?_); (case c => assumption); (case x => assumption); (case j => first | decide | exact Nat.le_refl _ | omega); (case g => assumption); (case d => decide); (case e => rfl); (case p => rfl)))
/-! the steps: one line a construct -/
local macro_rules | `(tactic| row_cond dlen) => `(tactic| (intro ds M R Q h; first | (obtain ⟨h1, _⟩ := h; subst h1; rfl) | (obtain ⟨_, h1, _⟩ := h; subst h1; rfl) | (obtain ⟨_, _, h1, _⟩ := h; subst h1; rfl) | (obtain ⟨_, _, _, h1, _⟩ := h; subst h1; rfl) | (obtain ⟨_, _, _, _, h1, _⟩ := h; subst h1; rfl) | (obtain ⟨_, _, _, _, _, h1, _⟩ := h; subst h1; rfl) | (obtain ⟨_, _, _, _, _, _, h1, _⟩ := h; subst h1; rfl) | (obtain ⟨_, _, _, _, _, _, _, h1, _⟩ := h; subst h1; rfl) | (obtain ⟨_, _, _, _, _, _, _, _, h1, _⟩ := h; subst h1; rfl) | (obtain ⟨_, _, _, _, _, _, _, _, _, h1, _⟩ := h; subst h1; rfl) | (obtain ⟨_, _, _, _, _, _, _, _, _, _, h1, _⟩ := h; subst h1; rfl) | (obtain ⟨_, _, _, _, _, _, _, _, _, _, _, h1, _⟩ := h; subst h1; rfl) | (obtain ⟨_, _, _, _, _, _, _, _, _, _, _, _, h1, _⟩ := h; subst h1; rfl)))
local macro_rules | `(tactic| row_cond dsz) => `(tactic| first | exact Nat.le_of_ble_eq_true rfl | assumption | (simp only [List.length_map, List.length_cons, List.length_append, List.length_nil, List.length_reverse, List.length_take, List.length_drop, PySem.sizeLine]; omega))
/- expressions -/
local macro_rules | `(tactic| row_cond dE) => `(tactic| first
  | ((with_reducible refine' we_name ?n ?e ?_); (case n => assumption); (case e => rfl))
  | (with_reducible refine we_int ?_)
  | (with_reducible refine we_bl ?_)
  | (with_reducible refine we_str ?_)
  | (with_reducible refine we_non ?_)
  | (with_reducible refine we_bin ?_)
  | ((with_reducible refine' we_cmp ?n ?_); (case n => rfl))
  | (with_reducible refine we_slice ?_)
  | (with_reducible refine we_rev ?_)
  | ((with_reducible refine' we_ix ?n ?_); (case n => exact fun _ _ => rfl))
  | (with_reducible refine we_tupV ?_)
  | (with_reducible refine we_lstV ?_)
  | ((with_reducible refine' we_blt ?b ?n ?m ?_); (case b => assumption); (case n => rfl); (case m => rfl))
  | ((with_reducible refine' we_typ ?b ?n ?m ?_); (case b => assumption); (case n => rfl); (case m => rfl))
  | ((with_reducible refine' we_tyName ?b ?_); (case b => assumption))
  | (with_reducible refine we_one ?_)
  | (with_reducible refine we_and ?_)
  | (with_reducible refine we_or ?_)
  | (with_reducible refine we_not ?_)
  | (with_reducible refine we_ifexp ?_)
  | ((with_reducible refine' we_un ?n ?_); (case n => exact fun z => nomatch z))
  | row_cond dcall
  | ((with_reducible refine we_bm (T := "list") PySem.F.plainAttrs_list PySem.F.slot_list_append PySem.F.type_list_append ?a ?b ?c ?d ?e ?_); (case a => rfl); (case b => rfl); (case c => rfl); (case d => rfl); (case e => rfl))
  | ((with_reducible refine we_bm0 (T := "list") PySem.F.plainAttrs_list PySem.F.slot_list_pop PySem.F.type_list_pop ?a ?b ?_); (case a => rfl); (case b => rfl))
  | ((with_reducible refine we_bm (T := "list") PySem.F.plainAttrs_list PySem.F.slot_list_extend PySem.F.type_list_extend ?a ?b ?c ?d ?e ?_); (case a => rfl); (case b => rfl); (case c => rfl); (case d => rfl); (case e => rfl)))
/- tests -/
local macro_rules | `(tactic| row_cond dT) => `(tactic| first
  | ((with_reducible refine' wt_cmp ?n ?_); (case n => rfl))
  | (with_reducible refine wt_not ?_)
  | (with_reducible refine wt_bool ?_)
  | (with_reducible refine ww_and1 ?_)
  | (with_reducible refine ww_or1 ?_)
  | (with_reducible refine ww_and ?_)
  | (with_reducible refine ww_or ?_)
  | ((with_reducible refine' wt_val ?n ?_); (case n => exact fun _ => rfl)))
/- statements -/
local macro_rules | `(tactic| row_cond dS) => `(tactic| first
  | (with_reducible refine wss_cons ?_)
  | (with_reducible refine wss_nil ?_)
  | ((with_reducible refine' ws_set ?a ?n ?h ?_); (case a => assumption); (case n => assumption); (case h => rfl))
  | ((with_reducible refine' ws_sub ?h ?_); (case h => rfl))
  | ((with_reducible refine' ws_asg ?a ?n ?h ?_); (case a => rfl); (case n => rfl); (case h => rfl))
  | (with_reducible refine ws_if ?_)
  | (with_reducible refine ws_ret ?_)
  | ((with_reducible refine' ws_expr ?h ?_); (case h => rfl))
  | (with_reducible refine ws_pass ?_)
  | (with_reducible refine ws_break ?_)
  | (with_reducible refine ws_continue ?_)
  | (with_reducible refine ws_retN ?_))
local macro_rules | `(tactic| row_cond dSn) => `(tactic| first
  | (with_reducible refine wss_cons ?_)
  | (with_reducible refine wss_nil ?_)
  | ((with_reducible refine' ws_set ?a ?n ?h ?_); (case a => assumption); (case n => assumption); (case h => rfl))
  | ((with_reducible refine' ws_sub ?h ?_); (case h => rfl))
  | ((with_reducible refine' ws_asg ?a ?n ?h ?_); (case a => rfl); (case n => rfl); (case h => rfl))
  | (with_reducible refine ws_ret ?_)
  | ((with_reducible refine' ws_expr ?h ?_); (case h => rfl))
  | (with_reducible refine ws_pass ?_)
  | (with_reducible refine ws_break ?_)
  | (with_reducible refine ws_continue ?_)
  | (with_reducible refine ws_retN ?_))
/- arguments, targets, values -/
local macro_rules | `(tactic| row_cond dV) => `(tactic| first
  | (with_reducible refine wa_nil ?_)
  | ((with_reducible refine' wa_cons ?n ?_); (case n => rfl))
  | (with_reducible refine wav_nil ?_)
  | ((with_reducible refine' wav_cons ?n ?_); (case n => rfl))
  | (with_reducible refine put_go ?_)
  | (with_reducible refine fz_lst ?_)
  | (with_reducible refine fz_tup ?_)
  | (with_reducible refine fz_id ?_)
  | (with_reducible refine own0_go ?_)
  | (with_reducible refine own1_go ?_)
  | (with_reducible refine app_go ?_)
  | (with_reducible refine mset_go ?_)
  | ((with_reducible refine' wg_name ?a ?n ?_); (case a => assumption); (case n => assumption))
  | ((with_reducible refine' wg_tup ?a ?n ?h ?_); (case a => assumption); (case n => rfl); (case h => rfl))
  | (with_reducible refine wgs_nil ?_)
  | ((with_reducible refine' wgs_cons ?n ?_); (case n => rfl))
  | (with_reducible refine wpt_none ?_)
  | (with_reducible refine wpt_some ?_)
  | ((with_reducible refine' wset_list ?n ?_); (case n => first | rfl | row_cond dix)))
/- what is walked -/
local macro_rules | `(tactic| row_cond dI) => `(tactic| first
  | ((with_reducible refine' wi_range1 ?a ?b ?c ?_); (case a => exact BltAt.gl (by assumption)); (case b => exact BltAt.mg (by assumption)); (case c => rfl))
  | ((with_reducible refine' wi_range2 ?a ?b ?c ?d ?_); (case a => exact BltAt.gl (by assumption)); (case b => exact BltAt.mg (by assumption)); (case c => rfl); (case d => rfl))
  | (with_reducible refine wi_val ?_)
  | (with_reducible refine wiv_list ?_)
  | (with_reducible refine wiv_tup ?_)
  | ((with_reducible refine' wgc_name ?a ?n ?h ?_); (case a => assumption); (case n => assumption); (case h => decide))
  | ((with_reducible refine' wgc_tup ?a ?n ?h ?_); (case a => assumption); (case n => rfl); (case h => rfl))
  | (with_reducible refine wgcs_nil ?_)
  | ((with_reducible refine' wgcs_cons ?n ?_); (case n => rfl))
  | (with_reducible refine wts_nil ?_)
  | (with_reducible refine wts_one ?_))
/- operations by values -/
local macro_rules | `(tactic| row_cond dO) => `(tactic| first
  | (with_reducible refine wo_add ?_)
  | (with_reducible refine wo_sub ?_)
  | ((with_reducible refine' wo_mulS ?n ?_); (case n => first | exact .inr ⟨by decide, by decide⟩ | exact .inl ⟨by decide, by decide⟩ | exact .inr ⟨by omega, by omega⟩ | exact .inl ⟨by omega, by omega⟩))
  | ((with_reducible refine' wo_fdiv ?n ?m ?_); (case n => first | decide | omega); (case m => first | decide | row_cond dlog))
  | ((with_reducible refine' wo_mod ?n ?_); (case n => first | decide | omega))
  | (with_reducible refine wo_powL ?_)
  | ((with_reducible refine' wo_pow ?n ?_); (case n => exact ⟨by decide, by decide, by decide⟩))
  | (with_reducible refine wo_xor ?_)
  | (with_reducible refine wo_lt ?_)
  | (with_reducible refine wo_le ?_)
  | (with_reducible refine wo_gt ?_)
  | (with_reducible refine wo_ge ?_)
  | (with_reducible refine wo_eqI ?_)
  | (with_reducible refine wo_neI ?_)
  | (with_reducible refine wo_eqS ?_)
  | (with_reducible refine wo_neS ?_)
  | (with_reducible refine wo_isN ?_)
  | (with_reducible refine wo_isnotN ?_)
  | (with_reducible refine wu_neg ?_)
  | (with_reducible refine wc_int ?_)
  | (with_reducible refine wc_intB ?_)
  | (with_reducible refine wc_abs ?_)
  | ((with_reducible refine' wc_max2 ?a ?_); (case a => assumption))
  | ((with_reducible refine' wc_min2 ?a ?_); (case a => assumption))
  | (with_reducible refine wc_list ?_)
  | (with_reducible refine wc_tuple ?_)
  | (with_reducible refine wc_lenM ?_)
  | (with_reducible refine wc_len ?_)
  | (with_reducible refine wc_isK ?_)
  | ((with_reducible refine' wc_allM ?a ?_); (case a => assumption))
  | ((with_reducible refine' wc_anyM ?a ?_); (case a => assumption))
  | ((with_reducible refine' wc_sum ?a ?_); (case a => assumption))
  | ((with_reducible refine' wx_list ?n ?_); (case n => row_cond dat))
  | ((with_reducible refine' wx_map ?a ?b ?_); (case a => omega); (case b => omega))
  | ((with_reducible refine' wx_seq ?a ?b ?_); (case a => omega); (case b => omega))
  | ((with_reducible refine' wx_tup ?n ?_); (case n => row_cond dat))
  | (with_reducible refine wsl_listM ?_)
  | (with_reducible refine wsl_list ?_)
  | (with_reducible refine wrev_goM ?_)
  | (with_reducible refine wrev_go ?_)
  | ((with_reducible refine' wo_catM ?n ?_); (case n => row_cond dsz))
  | ((with_reducible refine' wo_cat ?n ?_); (case n => row_cond dsz))
  | ((with_reducible refine' wm_append ?n ?_); (case n => row_cond dsz)))
local macro_rules | `(tactic| row_cond dat) => `(tactic| rfl)
local macro_rules | `(tactic| row_cond dix) => `(tactic| rfl)
local macro_rules | `(tactic| row_cond dlog) => `(tactic| first | decide | exact log_small (by omega) (by omega))
/- what stands between -/
local macro_rules | `(tactic| row_cond dQ) => `(tactic| first
  | (with_reducible refine ⟨_, rfl, ?_⟩)
  | (with_reducible refine br_true ?_)
  | (with_reducible refine br_false ?_)
  | (with_reducible refine rb_true ?_)
  | (with_reducible refine rb_false ?_)
  | ((with_reducible refine' br_dec ?_ ?_) <;> intro _)
  | ((with_reducible refine' br_ndec ?_ ?_) <;> intro _)
  | ((with_reducible refine' rb_dec ?_ ?_) <;> intro _)
  | ((with_reducible refine' rb_ndec ?_ ?_) <;> intro _)
  | (refine br_is rfl ?_)
  | (refine br_isnot rfl ?_)
  | (refine rb_is rfl ?_)
  | (refine rb_isnot rfl ?_)
  | ((with_reducible refine' ⟨⟨?a, ?b⟩, ?_⟩); (case a => omega); (case b => omega))
  | ((with_reducible refine' ⟨⟨?a, ?b, ?c, ?d⟩, ?_⟩); (case a => omega); (case b => omega); (case c => omega); (case d => omega))
  | (with_reducible refine app_go ?_)
  | (with_reducible refine ⟨tym_list, ?_⟩)
  | (with_reducible refine ⟨tym_str, ?_⟩)
  | ((with_reducible refine ⟨?n, ?_⟩); (case n => (show _ ≤ PySem.sizeLine); row_cond dsz))
  | (with_reducible intro _))
local macro_rules | `(tactic| row_cond dstart) => `(tactic| simp only [startD, List.map_cons, List.map_nil, List.length_cons, List.length_nil, List.cons_append, List.nil_append, Nat.zero_add, Nat.reduceAdd, Nat.reduceSub, List.replicate_succ, List.replicate_zero])
local macro_rules | `(tactic| row_cond d) => `(tactic| first | row_cond dE | row_cond dV | row_cond dO | row_cond dT | row_cond dS | row_cond dI | row_cond dmore | row_cond dspec | row_cond dQ)
local macro_rules | `(tactic| row_cond dn) => `(tactic| first | row_cond dE | row_cond dV | row_cond dO | row_cond dT | row_cond dSn | row_cond dI | row_cond dmore | row_cond dspec | row_cond dQ)
local macro_rules | `(tactic| row_cond gon) => `(tactic| repeat' (row_cond dn))
local macro_rules | `(tactic| row_cond go) => `(tactic| repeat' (row_cond d))

/-! ### the law's own head -/
theorem ok_start {P : Program} {w : World} {K : PySem.W.Frag} {mg : Str → Option Value} {base : Heap} (T : Tx mg) {f : Addr} {fd : FuncData} (Fu : Fun K "_law_start" "_law_start" s_law_start f fd) : FnOk P w K mg base CX0 1 f fd ["script"] (spStart K) := by
  refine Fu.ok sc_law_start (fun vs H Q E h => ?_) (fun cdv A outer s H vs Q E hr h => ?_)
  · obtain ⟨a, ns, rfl, _⟩ := h
    rfl
  · obtain ⟨a, ns, rfl, hS, hl, q⟩ := h
    refine ⟨_, pss_one (ps_ret (pe_lst (pa_cons (pe_callTy call_list_of (by rfl) T.z_list bo_list (pa_cons (pv 0) pa_nil)) (pa_cons pe_int (pa_cons pe_int (pa_cons pe_int pa_nil)))))), ?_⟩
    exact ⟨.ref a, rfl, a, _, rfl, .inl hS, fun l hl1 => ⟨Nat.le_of_ble_eq_true rfl, fun p hp => q l p hl1 hp⟩⟩
theorem ok_law {P : Program} {w : World} {K : PySem.W.Frag} {mg : Str → Option Value} {base : Heap} {k : Nat} (T : Tx mg) {f fS : Addr} {fd fdS : FuncData} (Fu : Fun K "law" "law" s_law f fd) (FS : Fun K "_law_start" "_law_start" s_law_start fS fdS) (gS : mg "_law_start" = some (.ref fS)) (hk : 1 ≤ k)
    (hrest : ∀ (X : Cx) (F : Fr), In X P w K mg base k → Nm X N_law (defScope s_law) → ∀ p st, DrawSt st → WSs X F (defBody s_law).tail ⟨none :: some (.ref p) :: List.replicate (N_law.length - 2) none, [(p, st)], []⟩ (outD fun d _ => d = .bl true)) : FnOk P w K mg base CX0 (k + 1) f fd ["script"] (spLaw K) := by
  have bS : Binds K fdS ["script"] [] := FS.binds fun _ _ _ _ _ _ us hl => match us, hl with | [_], _ => rfl
  have GS : FnOk P w K mg base CX0 1 fS fdS ["script"] (spStart K) := ok_start T FS
  refine Fu.ok sc_law (fun vs H Q E h => ?_) (fun cdv A outer s H vs Q E hr h => ?_)
  · obtain ⟨a, ns, rfl, _⟩ := h
    rfl
  · obtain ⟨a, ns, rfl, hS, hl, q⟩ := h
    refine ⟨_, pss_cons (ps_set (i := 1) sc_law.nd rfl (.inl rfl) (pe_call GS (hr.mono hk) (by rfl) gS FS.kp bS .nil pass0 (pa_cons (pv 0) pa_nil))) pss_U, ?_⟩
    refine ⟨.ref a, rfl, a, ns, rfl, hS, hl, fun r p hq hp => ?_⟩
    have hin : In (cxOf CX0 P w K mg base N_law "law" (defScope s_law) f cdv A outer s H E).nox P w K mg base k := ⟨rfl, rfl, rfl, rfl, rfl, hr, rfl, sc_law.nd, rfl⟩
    refine hrest _ ⟨fun _ => none, fun _ => none⟩ hin ⟨rfl, rfl, rfl⟩ p _ ⟨ns, 0, 0, 0, rfl, hl, by omega, by omega⟩ _ _ _ (start_holds hq hp rfl fun i d e => ?_) _ ⟨?_, ?_, ?_, ?_⟩
    · match i, e with
      | 0, e => cases e
      | 1, e => cases e; exact ⟨rfl, rfl⟩
      | i + 2, e =>
        have e2 : (List.replicate (N_law.length - 2) (none : Option D))[i]? = some (some d) := e
        rw [List.getElem?_replicate] at e2
        split at e2 <;> cases e2
    · rintro Γ' G' σ' H' ⟨M', _, _, hp⟩ _ _
      cases hp
    · rintro d Γ' G' σ' v H' ⟨M', _, _, rfl⟩ _ _ rv
      cases rv
      exact q _
    · exact fun _ _ _ _ z => z.elim
    · exact fun _ _ _ _ z => z.elim

end K20


namespace K20
open PySem PySem.Spec PyProof.Rows L2 DL
local macro_rules | `(tactic| row_cond dcall) => `(tactic| first
  | ((with_reducible refine' we_call (x := "parent_place") ?c ?x ?j ?g ?d ?e ?p ?_); (case c => assumption); (case x => assumption); (case j => first | decide | exact Nat.le_refl _ | omega); (case g => assumption); (case d => decide); (case e => rfl); (case p => rfl))
  | ((with_reducible refine' we_call (x := "way_up") ?c ?x ?j ?g ?d ?e ?p ?_); (case c => assumption); (case x => assumption); (case j => first | decide | exact Nat.le_refl _ | omega); (case g => assumption); (case d => decide); (case e => rfl); (case p => rfl))
  | ((with_reducible refine' we_call (x := "way") ?c ?x ?j ?g ?d ?e ?p ?_); (case c => assumption); (case x => assumption); (case j => first | decide | exact Nat.le_refl _ | omega); (case g => assumption); (case d => decide); (case e => rfl); (case p => rfl))
  | ((with_reducible refine' we_call (x := "_law_mix") ?c ?x ?j ?g ?d ?e ?p ?_); (case c => assumption); (case x => assumption); (case j => first | decide | exact Nat.le_refl _ | omega); (case g => assumption); (case d => decide); (case e => rfl); (case p => rfl))
  | ((with_reducible refine' we_call (x := "_law_start") ?c ?x ?j ?g ?d ?e ?p ?_); (case c => assumption); (case x => assumption); (case j => first | decide | exact Nat.le_refl _ | omega); (case g => assumption); (case d => decide); (case e => rfl); (case p => rfl))
  | ((with_reducible refine' we_call1 (x := "_law_next") ?c ?x ?j ?g ?d ?e ?p ?_); (case c => assumption); (case x => assumption); (case j => first | decide | exact Nat.le_refl _ | omega); (case g => assumption); (case d => decide); (case e => rfl); (case p => rfl))
  | ((with_reducible refine' we_call (x := "_law_is") ?c ?x ?j ?g ?d ?e ?p ?_); (case c => assumption); (case x => assumption); (case j => first | decide | exact Nat.le_refl _ | omega); (case g => assumption); (case d => decide); (case e => rfl); (case p => rfl))
  | ((with_reducible refine' we_call1 (x := "_law_forest") ?c ?x ?j ?g ?d ?e ?p ?_); (case c => assumption); (case x => assumption); (case j => first | decide | exact Nat.le_refl _ | omega); (case g => assumption); (case d => decide); (case e => rfl); (case p => rfl))
  | ((with_reducible refine' we_call (x := "_law_parent") ?c ?x ?j ?g ?d ?e ?p ?_); (case c => assumption); (case x => assumption); (case j => first | decide | exact Nat.le_refl _ | omega); (case g => assumption); (case d => decide); (case e => rfl); (case p => rfl))
  | ((with_reducible refine' we_call (x := "_law_up") ?c ?x ?j ?g ?d ?e ?p ?_); (case c => assumption); (case x => assumption); (case j => first | decide | exact Nat.le_refl _ | omega); (case g => assumption); (case d => decide); (case e => rfl); (case p => rfl))
  | ((with_reducible refine' we_call (x := "_law_due") ?c ?x ?j ?g ?d ?e ?p ?_); (case c => assumption); (case x => assumption); (case j => first | decide | exact Nat.le_refl _ | omega); (case g => assumption); (case d => decide); (case e => rfl); (case p => rfl))
  | ((with_reducible refine' we_call1 (x := "_law_asked") ?c ?x ?j ?g ?d ?e ?p ?_); (case c => assumption); (case x => assumption); (case j => first | decide | exact Nat.le_refl _ | omega); (case g => assumption); (case d => decide); (case e => rfl); (case p => rfl))
  | ((with_reducible refine' we_call (x := "law") ?c ?x ?j ?g ?d ?e ?p ?_); (case c => assumption); (case x => assumption); (case j => first | decide | exact Nat.le_refl _ | omega); (case g => assumption); (case d => decide); (case e => rfl); (case p => rfl)))
/-! the steps: one line a construct -/
local macro_rules | `(tactic| row_cond dlen) => `(tactic| (intro ds M R Q h; first | (obtain ⟨h1, _⟩ := h; subst h1; rfl) | (obtain ⟨_, h1, _⟩ := h; subst h1; rfl) | (obtain ⟨_, _, h1, _⟩ := h; subst h1; rfl) | (obtain ⟨_, _, _, h1, _⟩ := h; subst h1; rfl) | (obtain ⟨_, _, _, _, h1, _⟩ := h; subst h1; rfl) | (obtain ⟨_, _, _, _, _, h1, _⟩ := h; subst h1; rfl) | (obtain ⟨_, _, _, _, _, _, h1, _⟩ := h; subst h1; rfl) | (obtain ⟨_, _, _, _, _, _, _, h1, _⟩ := h; subst h1; rfl) | (obtain ⟨_, _, _, _, _, _, _, _, h1, _⟩ := h; subst h1; rfl) | (obtain ⟨_, _, _, _, _, _, _, _, _, h1, _⟩ := h; subst h1; rfl) | (obtain ⟨_, _, _, _, _, _, _, _, _, _, h1, _⟩ := h; subst h1; rfl) | (obtain ⟨_, _, _, _, _, _, _, _, _, _, _, h1, _⟩ := h; subst h1; rfl) | (obtain ⟨_, _, _, _, _, _, _, _, _, _, _, _, h1, _⟩ := h; subst h1; rfl)))
local macro_rules | `(tactic| row_cond dsz) => `(tactic| first | exact Nat.le_of_ble_eq_true rfl | assumption | (simp only [List.length_map, List.length_cons, List.length_append, List.length_nil, List.length_reverse, List.length_take, List.length_drop, PySem.sizeLine]; omega))
/- expressions -/
local macro_rules | `(tactic| row_cond dE) => `(tactic| first
  | ((with_reducible refine' we_name ?n ?e ?_); (case n => assumption); (case e => rfl))
  | (with_reducible refine we_int ?_)
  | (with_reducible refine we_bl ?_)
  | (with_reducible refine we_str ?_)
  | (with_reducible refine we_non ?_)
  | (with_reducible refine we_bin ?_)
  | ((with_reducible refine' we_cmp ?n ?_); (case n => rfl))
  | (with_reducible refine we_slice ?_)
  | (with_reducible refine we_rev ?_)
  | ((with_reducible refine' we_ix ?n ?_); (case n => exact fun _ _ => rfl))
  | (with_reducible refine we_tupV ?_)
  | (with_reducible refine we_lstV ?_)
  | ((with_reducible refine' we_blt ?b ?n ?m ?_); (case b => assumption); (case n => rfl); (case m => rfl))
  | ((with_reducible refine' we_typ ?b ?n ?m ?_); (case b => assumption); (case n => rfl); (case m => rfl))
  | ((with_reducible refine' we_tyName ?b ?_); (case b => assumption))
  | (with_reducible refine we_one ?_)
  | (with_reducible refine we_and ?_)
  | (with_reducible refine we_or ?_)
  | (with_reducible refine we_not ?_)
  | (with_reducible refine we_ifexp ?_)
  | ((with_reducible refine' we_un ?n ?_); (case n => exact fun z => nomatch z))
  | row_cond dcall
  | ((with_reducible refine we_bm (T := "list") PySem.F.plainAttrs_list PySem.F.slot_list_append PySem.F.type_list_append ?a ?b ?c ?d ?e ?_); (case a => rfl); (case b => rfl); (case c => rfl); (case d => rfl); (case e => rfl))
  | ((with_reducible refine we_bm0 (T := "list") PySem.F.plainAttrs_list PySem.F.slot_list_pop PySem.F.type_list_pop ?a ?b ?_); (case a => rfl); (case b => rfl))
  | ((with_reducible refine we_bm (T := "list") PySem.F.plainAttrs_list PySem.F.slot_list_extend PySem.F.type_list_extend ?a ?b ?c ?d ?e ?_); (case a => rfl); (case b => rfl); (case c => rfl); (case d => rfl); (case e => rfl)))
/- tests -/
local macro_rules | `(tactic| row_cond dT) => `(tactic| first
  | ((with_reducible refine' wt_cmp ?n ?_); (case n => rfl))
  | (with_reducible refine wt_not ?_)
  | (with_reducible refine wt_bool ?_)
  | (with_reducible refine ww_and1 ?_)
  | (with_reducible refine ww_or1 ?_)
  | (with_reducible refine ww_and ?_)
  | (with_reducible refine ww_or ?_)
  | ((with_reducible refine' wt_val ?n ?_); (case n => exact fun _ => rfl)))
/- statements -/
local macro_rules | `(tactic| row_cond dS) => `(tactic| first
  | (with_reducible refine wss_cons ?_)
  | (with_reducible refine wss_nil ?_)
  | ((with_reducible refine' ws_set ?a ?n ?h ?_); (case a => assumption); (case n => assumption); (case h => rfl))
  | ((with_reducible refine' ws_sub ?h ?_); (case h => rfl))
  | ((with_reducible refine' ws_asg ?a ?n ?h ?_); (case a => rfl); (case n => rfl); (case h => rfl))
  | (with_reducible refine ws_if ?_)
  | (with_reducible refine ws_ret ?_)
  | ((with_reducible refine' ws_expr ?h ?_); (case h => rfl))
  | (with_reducible refine ws_pass ?_)
  | (with_reducible refine ws_break ?_)
  | (with_reducible refine ws_continue ?_)
  | (with_reducible refine ws_retN ?_))
local macro_rules | `(tactic| row_cond dSn) => `(tactic| first
  | (with_reducible refine wss_cons ?_)
  | (with_reducible refine wss_nil ?_)
  | ((with_reducible refine' ws_set ?a ?n ?h ?_); (case a => assumption); (case n => assumption); (case h => rfl))
  | ((with_reducible refine' ws_sub ?h ?_); (case h => rfl))
  | ((with_reducible refine' ws_asg ?a ?n ?h ?_); (case a => rfl); (case n => rfl); (case h => rfl))
  | (with_reducible refine ws_ret ?_)
  | ((with_reducible refine' ws_expr ?h ?_); (case h => rfl))
  | (with_reducible refine ws_pass ?_)
  | (with_reducible refine ws_break ?_)
  | (with_reducible refine ws_continue ?_)
  | (with_reducible refine ws_retN ?_))
/- arguments, targets, values -/
local macro_rules | `(tactic| row_cond dV) => `(tactic| first
  | (with_reducible refine wa_nil ?_)
  | ((with_reducible refine' wa_cons ?n ?_); (case n => rfl))
  | (with_reducible refine wav_nil ?_)
  | ((with_reducible refine' wav_cons ?n ?_); (case n => rfl))
  | (with_reducible refine put_go ?_)
  | (with_reducible refine fz_lst ?_)
  | (with_reducible refine fz_tup ?_)
  | (with_reducible refine fz_id ?_)
  | (with_reducible refine own0_go ?_)
  | (with_reducible refine own1_go ?_)
  | (with_reducible refine app_go ?_)
  | (with_reducible refine mset_go ?_)
  | ((with_reducible refine' wg_name ?a ?n ?_); (case a => assumption); (case n => assumption))
  | ((with_reducible refine' wg_tup ?a ?n ?h ?_); (case a => assumption); (case n => rfl); (case h => rfl))
  | (with_reducible refine wgs_nil ?_)
  | ((with_reducible refine' wgs_cons ?n ?_); (case n => rfl))
  | (with_reducible refine wpt_none ?_)
  | (with_reducible refine wpt_some ?_)
  | ((with_reducible refine' wset_list ?n ?_); (case n => first | rfl | row_cond dix)))
/- what is walked -/
local macro_rules | `(tactic| row_cond dI) => `(tactic| first
  | ((with_reducible refine' wi_range1 ?a ?b ?c ?_); (case a => exact BltAt.gl (by assumption)); (case b => exact BltAt.mg (by assumption)); (case c => rfl))
  | ((with_reducible refine' wi_range2 ?a ?b ?c ?d ?_); (case a => exact BltAt.gl (by assumption)); (case b => exact BltAt.mg (by assumption)); (case c => rfl); (case d => rfl))
  | (with_reducible refine wi_val ?_)
  | (with_reducible refine wiv_list ?_)
  | (with_reducible refine wiv_tup ?_)
  | ((with_reducible refine' wgc_name ?a ?n ?h ?_); (case a => assumption); (case n => assumption); (case h => decide))
  | ((with_reducible refine' wgc_tup ?a ?n ?h ?_); (case a => assumption); (case n => rfl); (case h => rfl))
  | (with_reducible refine wgcs_nil ?_)
  | ((with_reducible refine' wgcs_cons ?n ?_); (case n => rfl))
  | (with_reducible refine wts_nil ?_)
  | (with_reducible refine wts_one ?_))
/- operations by values -/
local macro_rules | `(tactic| row_cond dO) => `(tactic| first
  | (with_reducible refine wo_add ?_)
  | (with_reducible refine wo_sub ?_)
  | ((with_reducible refine' wo_mulS ?n ?_); (case n => first | exact .inr ⟨by decide, by decide⟩ | exact .inl ⟨by decide, by decide⟩ | exact .inr ⟨by omega, by omega⟩ | exact .inl ⟨by omega, by omega⟩))
  | ((with_reducible refine' wo_fdiv ?n ?m ?_); (case n => first | decide | omega); (case m => first | decide | row_cond dlog))
  | ((with_reducible refine' wo_mod ?n ?_); (case n => first | decide | omega))
  | (with_reducible refine wo_powL ?_)
  | ((with_reducible refine' wo_pow ?n ?_); (case n => exact ⟨by decide, by decide, by decide⟩))
  | (with_reducible refine wo_xor ?_)
  | (with_reducible refine wo_lt ?_)
  | (with_reducible refine wo_le ?_)
  | (with_reducible refine wo_gt ?_)
  | (with_reducible refine wo_ge ?_)
  | (with_reducible refine wo_eqI ?_)
  | (with_reducible refine wo_neI ?_)
  | (with_reducible refine wo_eqS ?_)
  | (with_reducible refine wo_neS ?_)
  | (with_reducible refine wo_isN ?_)
  | (with_reducible refine wo_isnotN ?_)
  | (with_reducible refine wu_neg ?_)
  | (with_reducible refine wc_int ?_)
  | (with_reducible refine wc_intB ?_)
  | (with_reducible refine wc_abs ?_)
  | ((with_reducible refine' wc_max2 ?a ?_); (case a => assumption))
  | ((with_reducible refine' wc_min2 ?a ?_); (case a => assumption))
  | (with_reducible refine wc_list ?_)
  | (with_reducible refine wc_tuple ?_)
  | (with_reducible refine wc_lenM ?_)
  | (with_reducible refine wc_len ?_)
  | (with_reducible refine wc_isK ?_)
  | ((with_reducible refine' wc_allM ?a ?_); (case a => assumption))
  | ((with_reducible refine' wc_anyM ?a ?_); (case a => assumption))
  | ((with_reducible refine' wc_sum ?a ?_); (case a => assumption))
  | ((with_reducible refine' wx_list ?n ?_); (case n => row_cond dat))
  | ((with_reducible refine' wx_map ?a ?b ?_); (case a => omega); (case b => omega))
  | ((with_reducible refine' wx_seq ?a ?b ?_); (case a => omega); (case b => omega))
  | ((with_reducible refine' wx_tup ?n ?_); (case n => row_cond dat))
  | (with_reducible refine wsl_listM ?_)
  | (with_reducible refine wsl_list ?_)
  | (with_reducible refine wrev_goM ?_)
  | (with_reducible refine wrev_go ?_)
  | ((with_reducible refine' wo_catM ?n ?_); (case n => row_cond dsz))
  | ((with_reducible refine' wo_cat ?n ?_); (case n => row_cond dsz))
  | ((with_reducible refine' wm_append ?n ?_); (case n => row_cond dsz)))
local macro_rules | `(tactic| row_cond dat) => `(tactic| rfl)
local macro_rules | `(tactic| row_cond dix) => `(tactic| rfl)
local macro_rules | `(tactic| row_cond dlog) => `(tactic| first | decide | exact log_small (by omega) (by omega))
/- what stands between -/
local macro_rules | `(tactic| row_cond dQ) => `(tactic| first
  | (with_reducible refine ⟨_, rfl, ?_⟩)
  | (with_reducible refine br_true ?_)
  | (with_reducible refine br_false ?_)
  | (with_reducible refine rb_true ?_)
  | (with_reducible refine rb_false ?_)
  | ((with_reducible refine' br_dec ?_ ?_) <;> intro _)
  | ((with_reducible refine' br_ndec ?_ ?_) <;> intro _)
  | ((with_reducible refine' rb_dec ?_ ?_) <;> intro _)
  | ((with_reducible refine' rb_ndec ?_ ?_) <;> intro _)
  | (refine br_is rfl ?_)
  | (refine br_isnot rfl ?_)
  | (refine rb_is rfl ?_)
  | (refine rb_isnot rfl ?_)
  | ((with_reducible refine' ⟨⟨?a, ?b⟩, ?_⟩); (case a => omega); (case b => omega))
  | ((with_reducible refine' ⟨⟨?a, ?b, ?c, ?d⟩, ?_⟩); (case a => omega); (case b => omega); (case c => omega); (case d => omega))
  | (with_reducible refine app_go ?_)
  | (with_reducible refine ⟨tym_list, ?_⟩)
  | (with_reducible refine ⟨tym_str, ?_⟩)
  | ((with_reducible refine ⟨?n, ?_⟩); (case n => (show _ ≤ PySem.sizeLine); row_cond dsz))
  | (with_reducible intro _))
local macro_rules | `(tactic| row_cond dstart) => `(tactic| simp only [startD, List.map_cons, List.map_nil, List.length_cons, List.length_nil, List.cons_append, List.nil_append, Nat.zero_add, Nat.reduceAdd, Nat.reduceSub, List.replicate_succ, List.replicate_zero])
local macro_rules | `(tactic| row_cond d) => `(tactic| first | row_cond dE | row_cond dV | row_cond dO | row_cond dT | row_cond dS | row_cond dI | row_cond dmore | row_cond dspec | row_cond dQ)
local macro_rules | `(tactic| row_cond dn) => `(tactic| first | row_cond dE | row_cond dV | row_cond dO | row_cond dT | row_cond dSn | row_cond dI | row_cond dmore | row_cond dspec | row_cond dQ)
local macro_rules | `(tactic| row_cond gon) => `(tactic| repeat' (row_cond dn))
local macro_rules | `(tactic| row_cond go) => `(tactic| repeat' (row_cond d))

theorem sp_law_forest_go {p : Addr} {st : D} {R : Mem} {Q : D → Mem → Prop} (hs : DrawSt st) (h : ∀ (L : List (Option Pl)) (most : Int) (st' : D), Forest L most → DrawSt st' → Q (.tup [.lst (L.map encO), .int most]) [(p, st')]) : sp_law_forest [.ref p] [(p, st)] R Q := ⟨p, st, rfl, rfl, hs, h⟩
theorem sp_law_asked_go {p : Addr} {st : D} {L : List (Option Pl)} {a b : Pl} {R : Mem} {Q : D → Mem → Prop} (hs : DrawSt st) (h0 : Ok L) (h1 : L.length ≤ 200) (ha : On L a) (hb : On L b) (h : ∀ st', DrawSt st' → Q (.bl true) [(p, st')]) : sp_law_asked [.ref p, .lst (L.map encO), encP a, encP b] [(p, st)] R Q := ⟨p, st, L, a, b, rfl, rfl, hs, h0, h1, ha, hb, h⟩
local macro_rules | `(tactic| row_cond dspec) => `(tactic| first
  | ((with_reducible refine' sp_law_next_go ?a ?b ?c ?_); (case a => assumption); (case b => first | decide | omega | (split <;> omega)); (case c => first | decide | omega | (split <;> omega)))
  | ((with_reducible refine' sp_law_forest_go ?a ?_); (case a => assumption))
  | ((with_reducible refine' sp_law_asked_go ?a ?b ?c ?d ?e ?_); (case a => assumption); (case b => assumption); (case c => assumption); (case d => assumption); (case e => assumption))
  | ((with_reducible refine' sp_parent_place_go ?a ?b ?_); (case a => first | omega | exact On.l0 (by assumption)); (case b => first | omega | exact On.l1 (by assumption)))
  | ((with_reducible refine' sp_way_up_go ?a ?b ?c ?_); (case a => assumption); (case b => assumption); (case c => assumption))
  | ((with_reducible refine' sp_way_some ?a ?b ?c ?d ?e ?_); (case a => assumption); (case b => assumption); (case c => assumption); (case d => assumption); (case e => assumption))
  | ((with_reducible refine' sp_way_none ?a ?b ?c ?d ?e ?_); (case a => assumption); (case b => assumption); (case c => assumption); (case d => assumption); (case e => assumption)))
local macro_rules | `(tactic| row_cond dmore) => `(tactic| first
  | (with_reducible refine ⟨_, [], rfl, ?_⟩))
def LawJ (p : Addr) (L : List (Option Pl)) (most many : Int) (i : Nat) (Γ : DL.Env) : Prop := ∃ (st : D) (a b : Pl) (u : Option D), Γ = ⟨[none, some (.ref p), some (.lst (L.map encO)), some (.int most), some (.int many), some (.int (0 + (i : Int))), some (encP a), some (encP b), u], [(p, st)], []⟩ ∧ DrawSt st ∧ On L a ∧ On L b
theorem LawJ.mk {p : Addr} {L : List (Option Pl)} {most many : Int} {i : Nat} {st : D} {a b : Pl} {u : Option D} (hs : DrawSt st) (ha : On L a) (hb : On L b) : LawJ p L most many i ⟨[none, some (.ref p), some (.lst (L.map encO)), some (.int most), some (.int many), some (.int (0 + (i : Int))), some (encP a), some (encP b), u], [(p, st)], []⟩ := ⟨st, a, b, u, rfl, hs, ha, hb⟩
theorem atI_mem {α : Type} {xs : List α} {i : Int} {v : α} (h : atI xs i = some v) : v ∈ xs := by
  obtain ⟨j, _, e, _⟩ := atI_get h
  exact List.mem_of_getElem? e
theorem up_sz {L : List (Option Pl)} (h : Ok L) (hL : L.length ≤ 200) {a : Pl} (ha : On L a) : 0 < (up L a).length ∧ (up L a).length ≤ 200000 := by
  have h1 := up_le h ha
  obtain ⟨r, e⟩ := up_cons (L := L) a
  rw [e] at h1 ⊢
  simp only [List.length_cons] at h1 ⊢
  omega
theorem law_rest {P : Program} {w : World} {K : PySem.W.Frag} {mg : Str → Option Value} {base : Heap} (T : Tx mg) (c_law_forest : Cal P w K mg base 3 "_law_forest" sp_law_forest) (c_law_next : Cal P w K mg base 2 "_law_next" sp_law_next) (c_law_up : Cal P w K mg base 2 "_law_up" sp_way_up) (c_law_asked : Cal P w K mg base 4 "_law_asked" sp_law_asked) (c_law_due : Cal P w K mg base 3 "_law_due" sp_way) (X : Cx) (F : Fr) (hX : In X P w K mg base 4) (nm : Nm X N_law (defScope s_law)) (p : Addr) (st : D) (hS : DrawSt st) : WSs X F (defBody s_law).tail ⟨none :: some (.ref p) :: List.replicate (N_law.length - 2) none, [(p, st)], []⟩ (outD fun d _ => d = .bl true) := by
  have hst := hX.std
  have n_script : NameAt X 0 "script" := nm.name rfl (.inl rfl) (by decide) (by decide)
  have s_script : StoreAt X 0 "script" := nm.store rfl (.inl rfl)
  have n_state : NameAt X 1 "state" := nm.name rfl (.inl rfl) (by decide) (by decide)
  have s_state : StoreAt X 1 "state" := nm.store rfl (.inl rfl)
  have n_lines : NameAt X 2 "lines" := nm.name rfl (.inl rfl) (by decide) (by decide)
  have s_lines : StoreAt X 2 "lines" := nm.store rfl (.inl rfl)
  have n_most : NameAt X 3 "most" := nm.name rfl (.inl rfl) (by decide) (by decide)
  have s_most : StoreAt X 3 "most" := nm.store rfl (.inl rfl)
  have n_many : NameAt X 4 "many" := nm.name rfl (.inl rfl) (by decide) (by decide)
  have s_many : StoreAt X 4 "many" := nm.store rfl (.inl rfl)
  have n_k : NameAt X 5 "k" := nm.name rfl (.inl rfl) (by decide) (by decide)
  have s_k : StoreAt X 5 "k" := nm.store rfl (.inl rfl)
  have n_one : NameAt X 6 "one" := nm.name rfl (.inl rfl) (by decide) (by decide)
  have s_one : StoreAt X 6 "one" := nm.store rfl (.inl rfl)
  have n_other : NameAt X 7 "other" := nm.name rfl (.inl rfl) (by decide) (by decide)
  have s_other : StoreAt X 7 "other" := nm.store rfl (.inl rfl)
  have n_up : NameAt X 8 "up" := nm.name rfl (.inl rfl) (by decide) (by decide)
  have s_up : StoreAt X 8 "up" := nm.store rfl (.inl rfl)
  have g_law_start : Gl X "_law_start" := nm.gl rfl
  have g_law_forest : Gl X "_law_forest" := nm.gl rfl
  have b_range : BltAt X "range" (.type "range") := nm.blt hX rfl T.z_range bo_range (by decide) (by decide)
  have g_law_next : Gl X "_law_next" := nm.gl rfl
  have b_len : BltAt X "len" (.builtin "len") := nm.blt hX rfl T.z_len bo_len (by decide) (by decide)
  have g_law_due : Gl X "_law_due" := nm.gl rfl
  have g_law_up : Gl X "_law_up" := nm.gl rfl
  have g_law_asked : Gl X "_law_asked" := nm.gl rfl
  have m_range : X.mg "range" = none := by rw [hX.mg]; exact T.z_range
  show WSs X F _ ⟨[none, some (.ref p), none, none, none, none, none, none, none], [(p, st)], []⟩ _
  refine wss_cons ?_
  row_cond gon
  rename_i L most st1 hF hs1
  have hok := hF.ok
  have hL2 := hF.len
  have hm2 := hF.most
  have hL : L.length ≤ 200 := by omega
  refine ws_mid (fun Γ => ∃ many, Γ = ⟨[none, some (.ref p), some (.lst (L.map encO)), some (.int most), some (.int many), none, none, none, none], [(p, st1)], []⟩ ∧ 0 ≤ many ∧ many ≤ 12) ?_ ?_
  · row_cond go
    all_goals omega
  rintro Γ ⟨many, rfl, hmany⟩
  row_cond gon
  refine ws_for hst (fun _ => rfl) ?_
  row_cond go
  refine ⟨fun i Γ => ∃ (st : D) (k o1 o2 u : Option D), Γ = ⟨[none, some (.ref p), some (.lst (L.map encO)), some (.int most), some (.int many), k, o1, o2, u], [(p, st)], []⟩ ∧ DrawSt st, ⟨_, none, none, none, none, rfl, hs1⟩, fun _ _ _ => trivial, fun i x Γ hx hW => ?_, fun Γ hW => ?_⟩
  · obtain ⟨st4, ok, o1, o2, ou, rfl, hs4⟩ := hW
    obtain ⟨hi, rfl⟩ := rngD_at hx
    row_cond gon
    rename_i r0 s0 h00 h01 hs0 r1 s1 h10 h11 hs1 r2 s2 h20 h21 hs2 r3 s3 h30 h31 hs3
    refine ws_mid (LawJ p L most many i) ?_ ?_
    · have ha0 : On L (0, r1) := ⟨by show (0 : Int) ≤ 0; omega, by show (0 : Int) < _; omega, h10, by show r1 ≤ 999; omega⟩
      have hb0 : On L ((L.length : Int) - 1, r3) := ⟨by show (0 : Int) ≤ (L.length : Int) - 1; omega, by show (L.length : Int) - 1 < _; omega, h30, by show r3 ≤ 999; omega⟩
      have hdue : due (up L (0, r1)) (up L ((L.length : Int) - 1, r3)) = none := due_apart hok ha0 hb0 hF.first (by
        show L[((L.length : Int) - 1).toNat]? = _
        rw [show ((L.length : Int) - 1).toNat = L.length - 1 by omega]
        exact hF.last) (by show (0 : Int) ≠ (L.length : Int) - 1; omega)
      row_cond go
      · refine sp_way_none (a := (0, r1)) (b := ((L.length : Int) - 1, r3)) hok hL ha0 hb0 hdue ?_
        row_cond go
        exact LawJ.mk (a := (0, r1)) (b := ((L.length : Int) - 1, r3)) hs3 ha0 hb0
      · exact LawJ.mk (a := (r0, r1)) (b := (r2, r3)) hs3 ⟨h00, h01, h10, by show r1 ≤ 999; omega⟩ ⟨h20, h21, h30, by show r3 ≤ 999; omega⟩
    clear hs0 hs1 hs2 hs3
    rintro Γ ⟨st5, a, b, u, rfl, hs5, ha, hb⟩
    obtain ⟨hua0, hua1⟩ := up_sz hok hL ha
    obtain ⟨hub0, hub1⟩ := up_sz hok hL hb
    row_cond gon
    refine ws_mid (LawJ p L most many i) ?_ ?_
    · refine ws_wk ?_
      row_cond go
      · rename_i pu r st' _ _ hs' y hy
        refine ⟨_, ?_, LawJ.mk (u := some (.ref pu)) hs' ha (up_mem hok a ha y (List.mem_of_getElem? hy)).1⟩
        exact ⟨.refl _, .cons _ (.refl _), rfl⟩
      · exact ⟨_, .refl _, LawJ.mk hs5 ha hb⟩
    clear hs5 ha hb hua0 hua1 hub0 hub1
    rintro Γ ⟨st5, a, b, u, rfl, hs5, ha, hb⟩
    obtain ⟨hua0, hua1⟩ := up_sz hok hL ha
    obtain ⟨hub0, hub1⟩ := up_sz hok hL hb
    row_cond gon
    refine ws_mid (LawJ p L most many i) ?_ ?_
    · refine ws_wk ?_
      row_cond go
      · rename_i pu
        obtain ⟨pre, y, ey⟩ : ∃ pre y, up L b = pre ++ [y] := ⟨(up L b).dropLast, (up L b).getLast (List.ne_nil_of_length_pos hub0), (List.dropLast_concat_getLast _).symm⟩
        have hy : y ∈ up L b := by
          rw [ey]; simp
        refine wx_mapN (y := y) (by rw [ey]; exact atI_last _ _) ?_
        row_cond go
        refine ⟨_, ?_, LawJ.mk (u := some (.ref pu)) hs5 (up_mem hok b hb y hy).1 hb⟩
        exact ⟨.refl _, .cons _ (.refl _), rfl⟩
      · exact ⟨_, .refl _, LawJ.mk hs5 ha hb⟩
    clear hs5 ha hb hua0 hua1 hub0 hub1
    rintro Γ ⟨st5, a, b, u, rfl, hs5, ha, hb⟩
    row_cond gon
    refine ws_mid (LawJ p L most many i) ?_ ?_
    · row_cond go
      · exact ⟨_, a, a, _, rfl, hs5, ha, ha⟩
      · exact ⟨_, a, b, _, rfl, hs5, ha, hb⟩
    clear hs5 ha hb
    rintro Γ ⟨st5, a, b, u, rfl, hs5, ha, hb⟩
    row_cond go
    exact ⟨_, _, _, _, _, rfl, by assumption⟩
  · obtain ⟨st4, ok, o1, o2, ou, rfl, hs4⟩ := hW
    row_cond go
    refine rt0 (P := fun d _ => d = .bl true) ?_
    rfl

end K20


namespace K20
open PySem PySem.Spec PyProof.Rows L2 DL
theorem all_mk {l : PySem.W.OpenLaw} {w : World} {K : PySem.W.Frag} {h : Heap} {mg : Str → Option Value} {fa : Addr} (X : K.In h) (G : h.Ns mainGlobals mg) (hfa : mg "law" = some (.ref fa))
    {f_parent_place : Addr} {od_parent_place an_parent_place : Option Addr} {sl_parent_place : Array (Option Value)} {oc_parent_place kV_parent_place dc_parent_place pm_parent_place cd_parent_place ct_parent_place : Value}
    (a_parent_place : PySem.W.nsIn K mainGlobals "parent_place" = some (some (.ref f_parent_place))) (l_parent_place : K.lookup f_parent_place = some ⟨oc_parent_place, od_parent_place, .func (PySem.W.fnOf "parent_place" "parent_place" (defArgs s_parent_place) (defBody s_parent_place) (defScope s_parent_place) .none kV_parent_place dc_parent_place pm_parent_place an_parent_place cd_parent_place ct_parent_place), sl_parent_place⟩) (c_parent_place : PySem.W.codeIn K cd_parent_place "parent_place" = true) (k_parent_place : PySem.W.keepIn K (.ref f_parent_place) = true)
    {f_way_up : Addr} {od_way_up an_way_up : Option Addr} {sl_way_up : Array (Option Value)} {oc_way_up kV_way_up dc_way_up pm_way_up cd_way_up ct_way_up : Value}
    (a_way_up : PySem.W.nsIn K mainGlobals "way_up" = some (some (.ref f_way_up))) (l_way_up : K.lookup f_way_up = some ⟨oc_way_up, od_way_up, .func (PySem.W.fnOf "way_up" "way_up" (defArgs s_way_up) (defBody s_way_up) (defScope s_way_up) .none kV_way_up dc_way_up pm_way_up an_way_up cd_way_up ct_way_up), sl_way_up⟩) (c_way_up : PySem.W.codeIn K cd_way_up "way_up" = true) (k_way_up : PySem.W.keepIn K (.ref f_way_up) = true)
    {f_way : Addr} {od_way an_way : Option Addr} {sl_way : Array (Option Value)} {oc_way kV_way dc_way pm_way cd_way ct_way : Value}
    (a_way : PySem.W.nsIn K mainGlobals "way" = some (some (.ref f_way))) (l_way : K.lookup f_way = some ⟨oc_way, od_way, .func (PySem.W.fnOf "way" "way" (defArgs s_way) (defBody s_way) (defScope s_way) .none kV_way dc_way pm_way an_way cd_way ct_way), sl_way⟩) (c_way : PySem.W.codeIn K cd_way "way" = true) (k_way : PySem.W.keepIn K (.ref f_way) = true)
    {f_law_mix : Addr} {od_law_mix an_law_mix : Option Addr} {sl_law_mix : Array (Option Value)} {oc_law_mix kV_law_mix dc_law_mix pm_law_mix cd_law_mix ct_law_mix : Value}
    (a_law_mix : PySem.W.nsIn K mainGlobals "_law_mix" = some (some (.ref f_law_mix))) (l_law_mix : K.lookup f_law_mix = some ⟨oc_law_mix, od_law_mix, .func (PySem.W.fnOf "_law_mix" "_law_mix" (defArgs s_law_mix) (defBody s_law_mix) (defScope s_law_mix) .none kV_law_mix dc_law_mix pm_law_mix an_law_mix cd_law_mix ct_law_mix), sl_law_mix⟩) (c_law_mix : PySem.W.codeIn K cd_law_mix "_law_mix" = true) (k_law_mix : PySem.W.keepIn K (.ref f_law_mix) = true)
    {f_law_start : Addr} {od_law_start an_law_start : Option Addr} {sl_law_start : Array (Option Value)} {oc_law_start kV_law_start dc_law_start pm_law_start cd_law_start ct_law_start : Value}
    (a_law_start : PySem.W.nsIn K mainGlobals "_law_start" = some (some (.ref f_law_start))) (l_law_start : K.lookup f_law_start = some ⟨oc_law_start, od_law_start, .func (PySem.W.fnOf "_law_start" "_law_start" (defArgs s_law_start) (defBody s_law_start) (defScope s_law_start) .none kV_law_start dc_law_start pm_law_start an_law_start cd_law_start ct_law_start), sl_law_start⟩) (c_law_start : PySem.W.codeIn K cd_law_start "_law_start" = true) (k_law_start : PySem.W.keepIn K (.ref f_law_start) = true)
    {f_law_next : Addr} {od_law_next an_law_next : Option Addr} {sl_law_next : Array (Option Value)} {oc_law_next kV_law_next dc_law_next pm_law_next cd_law_next ct_law_next : Value}
    (a_law_next : PySem.W.nsIn K mainGlobals "_law_next" = some (some (.ref f_law_next))) (l_law_next : K.lookup f_law_next = some ⟨oc_law_next, od_law_next, .func (PySem.W.fnOf "_law_next" "_law_next" (defArgs s_law_next) (defBody s_law_next) (defScope s_law_next) .none kV_law_next dc_law_next pm_law_next an_law_next cd_law_next ct_law_next), sl_law_next⟩) (c_law_next : PySem.W.codeIn K cd_law_next "_law_next" = true) (k_law_next : PySem.W.keepIn K (.ref f_law_next) = true)
    {f_law_is : Addr} {od_law_is an_law_is : Option Addr} {sl_law_is : Array (Option Value)} {oc_law_is kV_law_is dc_law_is pm_law_is cd_law_is ct_law_is : Value}
    (a_law_is : PySem.W.nsIn K mainGlobals "_law_is" = some (some (.ref f_law_is))) (l_law_is : K.lookup f_law_is = some ⟨oc_law_is, od_law_is, .func (PySem.W.fnOf "_law_is" "_law_is" (defArgs s_law_is) (defBody s_law_is) (defScope s_law_is) .none kV_law_is dc_law_is pm_law_is an_law_is cd_law_is ct_law_is), sl_law_is⟩) (c_law_is : PySem.W.codeIn K cd_law_is "_law_is" = true) (k_law_is : PySem.W.keepIn K (.ref f_law_is) = true)
    {f_law_forest : Addr} {od_law_forest an_law_forest : Option Addr} {sl_law_forest : Array (Option Value)} {oc_law_forest kV_law_forest dc_law_forest pm_law_forest cd_law_forest ct_law_forest : Value}
    (a_law_forest : PySem.W.nsIn K mainGlobals "_law_forest" = some (some (.ref f_law_forest))) (l_law_forest : K.lookup f_law_forest = some ⟨oc_law_forest, od_law_forest, .func (PySem.W.fnOf "_law_forest" "_law_forest" (defArgs s_law_forest) (defBody s_law_forest) (defScope s_law_forest) .none kV_law_forest dc_law_forest pm_law_forest an_law_forest cd_law_forest ct_law_forest), sl_law_forest⟩) (c_law_forest : PySem.W.codeIn K cd_law_forest "_law_forest" = true) (k_law_forest : PySem.W.keepIn K (.ref f_law_forest) = true)
    {f_law_parent : Addr} {od_law_parent an_law_parent : Option Addr} {sl_law_parent : Array (Option Value)} {oc_law_parent kV_law_parent dc_law_parent pm_law_parent cd_law_parent ct_law_parent : Value}
    (a_law_parent : PySem.W.nsIn K mainGlobals "_law_parent" = some (some (.ref f_law_parent))) (l_law_parent : K.lookup f_law_parent = some ⟨oc_law_parent, od_law_parent, .func (PySem.W.fnOf "_law_parent" "_law_parent" (defArgs s_law_parent) (defBody s_law_parent) (defScope s_law_parent) .none kV_law_parent dc_law_parent pm_law_parent an_law_parent cd_law_parent ct_law_parent), sl_law_parent⟩) (c_law_parent : PySem.W.codeIn K cd_law_parent "_law_parent" = true) (k_law_parent : PySem.W.keepIn K (.ref f_law_parent) = true)
    {f_law_up : Addr} {od_law_up an_law_up : Option Addr} {sl_law_up : Array (Option Value)} {oc_law_up kV_law_up dc_law_up pm_law_up cd_law_up ct_law_up : Value}
    (a_law_up : PySem.W.nsIn K mainGlobals "_law_up" = some (some (.ref f_law_up))) (l_law_up : K.lookup f_law_up = some ⟨oc_law_up, od_law_up, .func (PySem.W.fnOf "_law_up" "_law_up" (defArgs s_law_up) (defBody s_law_up) (defScope s_law_up) .none kV_law_up dc_law_up pm_law_up an_law_up cd_law_up ct_law_up), sl_law_up⟩) (c_law_up : PySem.W.codeIn K cd_law_up "_law_up" = true) (k_law_up : PySem.W.keepIn K (.ref f_law_up) = true)
    {f_law_due : Addr} {od_law_due an_law_due : Option Addr} {sl_law_due : Array (Option Value)} {oc_law_due kV_law_due dc_law_due pm_law_due cd_law_due ct_law_due : Value}
    (a_law_due : PySem.W.nsIn K mainGlobals "_law_due" = some (some (.ref f_law_due))) (l_law_due : K.lookup f_law_due = some ⟨oc_law_due, od_law_due, .func (PySem.W.fnOf "_law_due" "_law_due" (defArgs s_law_due) (defBody s_law_due) (defScope s_law_due) .none kV_law_due dc_law_due pm_law_due an_law_due cd_law_due ct_law_due), sl_law_due⟩) (c_law_due : PySem.W.codeIn K cd_law_due "_law_due" = true) (k_law_due : PySem.W.keepIn K (.ref f_law_due) = true)
    {f_law_asked : Addr} {od_law_asked an_law_asked : Option Addr} {sl_law_asked : Array (Option Value)} {oc_law_asked kV_law_asked dc_law_asked pm_law_asked cd_law_asked ct_law_asked : Value}
    (a_law_asked : PySem.W.nsIn K mainGlobals "_law_asked" = some (some (.ref f_law_asked))) (l_law_asked : K.lookup f_law_asked = some ⟨oc_law_asked, od_law_asked, .func (PySem.W.fnOf "_law_asked" "_law_asked" (defArgs s_law_asked) (defBody s_law_asked) (defScope s_law_asked) .none kV_law_asked dc_law_asked pm_law_asked an_law_asked cd_law_asked ct_law_asked), sl_law_asked⟩) (c_law_asked : PySem.W.codeIn K cd_law_asked "_law_asked" = true) (k_law_asked : PySem.W.keepIn K (.ref f_law_asked) = true)
    {f_law : Addr} {od_law an_law : Option Addr} {sl_law : Array (Option Value)} {oc_law kV_law dc_law pm_law cd_law ct_law : Value}
    (a_law : PySem.W.nsIn K mainGlobals "law" = some (some (.ref f_law))) (l_law : K.lookup f_law = some ⟨oc_law, od_law, .func (PySem.W.fnOf "law" "law" (defArgs s_law) (defBody s_law) (defScope s_law) .none kV_law dc_law pm_law an_law cd_law ct_law), sl_law⟩) (c_law : PySem.W.codeIn K cd_law "law" = true) (k_law : PySem.W.keepIn K (.ref f_law) = true)
    (z_abs : PySem.W.nsIn K mainGlobals "abs" = some none)
    (z_all : PySem.W.nsIn K mainGlobals "all" = some none)
    (z_bool : PySem.W.nsIn K mainGlobals "bool" = some none)
    (z_dict : PySem.W.nsIn K mainGlobals "dict" = some none)
    (z_int : PySem.W.nsIn K mainGlobals "int" = some none)
    (z_isinstance : PySem.W.nsIn K mainGlobals "isinstance" = some none)
    (z_len : PySem.W.nsIn K mainGlobals "len" = some none)
    (z_list : PySem.W.nsIn K mainGlobals "list" = some none)
    (z_min : PySem.W.nsIn K mainGlobals "min" = some none)
    (z_range : PySem.W.nsIn K mainGlobals "range" = some none)
    (z_str : PySem.W.nsIn K mainGlobals "str" = some none)
    (z_tuple : PySem.W.nsIn K mainGlobals "tuple" = some none)
    : ∃ fd : FuncData, (∀ (s : Shared) (v : Value), BindsTo s fd ⟨[v], []⟩ [("script", v)]) ∧ ∀ base : Heap, K.In base → base.Ns mainGlobals mg → FnOk l.prog w K mg base CX0 5 fa fd ["script"] (spLaw K) := by
  have e := hfa.symm.trans (PySem.W.mg_of X G a_law)
  cases e
  have F_law := fun_mk (st := s_law) l_law c_law k_law
  have F_law_start := fun_mk (st := s_law_start) l_law_start c_law_start k_law_start
  have D_parent_place : DefAt K mg "parent_place" s_parent_place := ⟨_, _, fun_mk (st := s_parent_place) l_parent_place c_parent_place k_parent_place, PySem.W.mg_of X G a_parent_place⟩
  have D_way_up : DefAt K mg "way_up" s_way_up := ⟨_, _, fun_mk (st := s_way_up) l_way_up c_way_up k_way_up, PySem.W.mg_of X G a_way_up⟩
  have D_way : DefAt K mg "way" s_way := ⟨_, _, fun_mk (st := s_way) l_way c_way k_way, PySem.W.mg_of X G a_way⟩
  have D_law_mix : DefAt K mg "_law_mix" s_law_mix := ⟨_, _, fun_mk (st := s_law_mix) l_law_mix c_law_mix k_law_mix, PySem.W.mg_of X G a_law_mix⟩
  have D_law_next : DefAt K mg "_law_next" s_law_next := ⟨_, _, fun_mk (st := s_law_next) l_law_next c_law_next k_law_next, PySem.W.mg_of X G a_law_next⟩
  have D_law_is : DefAt K mg "_law_is" s_law_is := ⟨_, _, fun_mk (st := s_law_is) l_law_is c_law_is k_law_is, PySem.W.mg_of X G a_law_is⟩
  have D_law_forest : DefAt K mg "_law_forest" s_law_forest := ⟨_, _, fun_mk (st := s_law_forest) l_law_forest c_law_forest k_law_forest, PySem.W.mg_of X G a_law_forest⟩
  have D_law_parent : DefAt K mg "_law_parent" s_law_parent := ⟨_, _, fun_mk (st := s_law_parent) l_law_parent c_law_parent k_law_parent, PySem.W.mg_of X G a_law_parent⟩
  have D_law_up : DefAt K mg "_law_up" s_law_up := ⟨_, _, fun_mk (st := s_law_up) l_law_up c_law_up k_law_up, PySem.W.mg_of X G a_law_up⟩
  have D_law_due : DefAt K mg "_law_due" s_law_due := ⟨_, _, fun_mk (st := s_law_due) l_law_due c_law_due k_law_due, PySem.W.mg_of X G a_law_due⟩
  have D_law_asked : DefAt K mg "_law_asked" s_law_asked := ⟨_, _, fun_mk (st := s_law_asked) l_law_asked c_law_asked k_law_asked, PySem.W.mg_of X G a_law_asked⟩
  have T : Tx mg := ⟨PySem.W.mg_none_of X G z_abs, PySem.W.mg_none_of X G z_all, PySem.W.mg_none_of X G z_bool, PySem.W.mg_none_of X G z_dict, PySem.W.mg_none_of X G z_int, PySem.W.mg_none_of X G z_isinstance, PySem.W.mg_none_of X G z_len, PySem.W.mg_none_of X G z_list, PySem.W.mg_none_of X G z_min, PySem.W.mg_none_of X G z_range, PySem.W.mg_none_of X G z_str, PySem.W.mg_none_of X G z_tuple⟩
  refine ⟨_, fun s v => ?_, fun base _ _ => ok_law T F_law F_law_start (PySem.W.mg_of X G a_law_start) (by decide) ?_⟩
  · exact .of_eq rfl
  · have c_law_mix := cal_law_mix (P := l.prog) (w := w) (base := base) T D_law_mix
    have c_law_next := cal_law_next T D_law_next c_law_mix
    have c_law_is := cal_law_isS T D_law_is (cal_law_isS T D_law_is (cal_law_is0 (P := l.prog) (w := w) (base := base) T D_law_is))
    have c_parent_place := cal_parent_place (P := l.prog) (w := w) (base := base) T D_parent_place
    have c_way := cal_way T D_way (cal_way_up T D_way_up c_parent_place)
    have c_law_parent := cal_law_parent (P := l.prog) (w := w) (base := base) T D_law_parent
    have c_law_up := cal_law_up T D_law_up c_law_parent
    have c_law_due := cal_law_due T D_law_due c_law_up
    have c_law_forest := cal_law_forest T D_law_forest c_law_next
    exact law_rest T c_law_forest c_law_next c_law_up (cal_law_asked T D_law_asked c_law_due c_way c_law_next c_law_is c_parent_place c_law_parent) c_law_due

end K20
open PySem PySem.W PyProof.Rows
set_option maxHeartbeats 0 in
theorem PySem.Challenge.cw_whatcomesfree_k20_ways_are_one_holds : PySem.Challenge.rw_whatcomesfree_k20_ways_are_one.Holds := by
  w_on; o_law; k_head; (case hw => w_witness2)
  k_fill
  refine L2.walk_of (l := PySem.Challenge.rw_whatcomesfree_k20_ways_are_one) (n := 63) (k := 5) (x := "script") (CX := fun _ => L2.CX0) (sp := fun w => DL.spLaw _) rfl (by decide) rfl ⟨rfl, by decide, by decide⟩ (fun w h Y => PySem.W.kIn_of Y) ?F (fun _ _ a ns hl _ hS => ⟨a, ns, rfl, hS, hl, fun _ => rfl⟩) (fun _ _ _ _ _ h => h)
  case F =>
    intro w mg fa h KX G hmg
    refine' K20.all_mk KX G hmg ?a_parent_place ?l_parent_place ?c_parent_place ?k_parent_place ?a_way_up ?l_way_up ?c_way_up ?k_way_up ?a_way ?l_way ?c_way ?k_way ?a_law_mix ?l_law_mix ?c_law_mix ?k_law_mix ?a_law_start ?l_law_start ?c_law_start ?k_law_start ?a_law_next ?l_law_next ?c_law_next ?k_law_next ?a_law_is ?l_law_is ?c_law_is ?k_law_is ?a_law_forest ?l_law_forest ?c_law_forest ?k_law_forest ?a_law_parent ?l_law_parent ?c_law_parent ?k_law_parent ?a_law_up ?l_law_up ?c_law_up ?k_law_up ?a_law_due ?l_law_due ?c_law_due ?k_law_due ?a_law_asked ?l_law_asked ?c_law_asked ?k_law_asked ?a_law ?l_law ?c_law ?k_law ?z_abs ?z_all ?z_bool ?z_dict ?z_int ?z_isinstance ?z_len ?z_list ?z_min ?z_range ?z_str ?z_tuple
    (case a_parent_place => k_is); (case l_parent_place => k_is); (case c_parent_place => k_is); (case k_parent_place => k_is); (case a_way_up => k_is); (case l_way_up => k_is); (case c_way_up => k_is); (case k_way_up => k_is); (case a_way => k_is); (case l_way => k_is); (case c_way => k_is); (case k_way => k_is); (case a_law_mix => k_is); (case l_law_mix => k_is); (case c_law_mix => k_is); (case k_law_mix => k_is); (case a_law_start => k_is); (case l_law_start => k_is); (case c_law_start => k_is); (case k_law_start => k_is); (case a_law_next => k_is); (case l_law_next => k_is); (case c_law_next => k_is); (case k_law_next => k_is); (case a_law_is => k_is); (case l_law_is => k_is); (case c_law_is => k_is); (case k_law_is => k_is); (case a_law_forest => k_is); (case l_law_forest => k_is); (case c_law_forest => k_is); (case k_law_forest => k_is); (case a_law_parent => k_is); (case l_law_parent => k_is); (case c_law_parent => k_is); (case k_law_parent => k_is); (case a_law_up => k_is); (case l_law_up => k_is); (case c_law_up => k_is); (case k_law_up => k_is); (case a_law_due => k_is); (case l_law_due => k_is); (case c_law_due => k_is); (case k_law_due => k_is); (case a_law_asked => k_is); (case l_law_asked => k_is); (case c_law_asked => k_is); (case k_law_asked => k_is); (case a_law => k_is); (case l_law => k_is); (case c_law => k_is); (case k_law => k_is); (case z_abs => k_is); (case z_all => k_is); (case z_bool => k_is); (case z_dict => k_is); (case z_int => k_is); (case z_isinstance => k_is); (case z_len => k_is); (case z_list => k_is); (case z_min => k_is); (case z_range => k_is); (case z_str => k_is); (case z_tuple => k_is)


